import PyProof.Rows.All
import Wide.All
import OpenK.AllK
import Wide.FinOn
import HandS.Slots
import HandS.SlotsOwn
import HandS.ClsMeth
import HandS.Exc
import HandS.ExcField
import HandS.ExcInit
import HandS.WordsExc
import KE.KExcSuper
import KE.KStateDown
import HandS.Head0
import HandS.Head1
import HandS.Head2
import HandS.HeadHook4
import HandS.HeadNt
import HandS.EndTab
import HandS.ForMost
import HandS.Star
import HandS.TupAny
import HandS.AnyAll
import HandS.IsInst
import HandS.Wide
import HandS.TupMul
import HandS.Conv
import HandS.Deep
import HandS.NoneIn
import HandS.Style
import KE.DataMinMax
import KE.DataAny
import KE.SortData
import KE.GoesEnum
import KE.GoesNew
import HandS.Iter
import HandS.TupSets
import HandS.Dict
import HandS.More
import HandS.CallLocal
import HandS.DictComp
import HandS.DictTup
import PySem.Challenge.RW_tablerings_k10_whole_products_powers_and
set_option Elab.async false
set_option linter.all false
set_option maxRecDepth 100000
set_option maxHeartbeats 4000000
/-! What is looked at in the written part K that the head tells, each a Bool; the top's run. -/
namespace TR
open PySem PySem.Spec PyProof.Rows L2
open PySem.W (Frag)
open He (ga ma eqO eqO_ok ba relAll relAll_ok)
abbrev pw : Program := PySem.Challenge.pw_tablerings_k10_whole_products_powers_and
def dS : Stmt := .Pass ⟨0, 0, 0, 0⟩
def topS (i : Nat) : Stmt := pw.main.body.getD i dS
abbrev bmA : List Value := [.type "ArithmeticError", .type "Exception", .type "BaseException", .type "object"]
abbrev stR : Stmt := inClass (topS 10) 0
def CC (K : Frag) : Nat → Addr
  | 0 => ga K "Ring"
  | 1 => ga K "KeptProducts"
  | 2 => ga K "Refused"
  | 9 => (He.cT K ("lead_of", none)).2
  | _ => 0
structure DefA where
  path : Frag → Addr
  name : Str
  qual : Str
  st : Stmt
  cl : List Str
abbrev FnA : Type := Option (Str × Str × Arguments × FuncBody × Scope × Addr × List Str × Addr)
def fnA (K : Frag) (a : Addr) : FnA := match K.lookup a with
  | some ⟨_, _, .func fd, _⟩ => some (fd.name, fd.qualname, fd.params, fd.body, fd.scope, fd.globals, fd.closure.map (·.1), fd.builtins)
  | _ => none
def DefA.val (d : DefA) : FnA := some (d.name, d.qual, defArgs d.st, .stmts (defBody d.st), defScope d.st, mainGlobals, d.cl, builtinsNs)
def isNone : Value → Bool
  | .none => true
  | _ => false
def DefA.ok (K : Frag) (d : DefA) : Bool := PySem.W.keepIn K (.ref (d.path K)) && (match K.lookup (d.path K) with
  | some ⟨_, _, .func fd, _⟩ => PySem.W.codeIn K fd.code d.qual && isNone fd.defaults
  | _ => false)
def dTop (x : Str) (i : Nat) : DefA := ⟨fun K => ga K x, x, x, topS i, []⟩
def dMet (c m q : Str) (st : Stmt) : DefA := ⟨fun K => ma K (ga K c) m, m, q, st, []⟩
def dCls (c m q : Str) (st : Stmt) : DefA := ⟨fun K => He5.wf K (ga K c) "classmethod" m, m, q, st, []⟩
def dPrp (c m q : Str) (st : Stmt) : DefA := ⟨fun K => He5.wf K (ga K c) "property" m, m, q, st, []⟩
def defs0 : List DefA := [dTop "_wall" 0, dTop "is_whole" 15, dTop "is_integer" 16, dTop "is_within" 17, dTop "is_prime" 18, dTop "is_residue_row" 19, dTop "undone_residue" 20, dTop "require_integer" 21, dTop "require_within" 22, dTop "require_prime" 23, dTop "zero_row" 25, dTop "single_row" 26, dTop "scaled_row" 27, dTop "added_row" 28, dTop "led_row" 29, dTop "rest_of" 31, dTop "with_row" 32, dTop "reduced" 33, dTop "solution_in" 34, dTop "places_table" 37, dTop "full_places" 38, dTop "powers_of_letter" 39, dTop "poly_products" 40, dTop "pair_products" 41, dTop "members_number" 42, dTop "is_monic_in" 43, dTop "group_fault" 49, dTop "one_in" 50, dTop "fault_in" 51, dTop "are_products" 52]
def defs1 : List DefA := [dTop "require_products" 53, dTop "products_told" 55, dTop "is_member_in" 57, dTop "right_table" 58, dTop "product_in" 59, dTop "power_in" 60, dTop "undone_member" 61, dTop "require_ring" 62, dTop "require_member" 63, dTop "_law_tank" 65, dTop "_law_drop" 66, dTop "_law_choice" 67, dTop "_law_plus" 68, dTop "_law_undone" 69, dTop "_law_reduced" 70, dTop "_law_rest" 71, dTop "_law_solved" 72, dTop "_law_ring" 73, dTop "_law_times" 74, dTop "_law_unit" 75, dTop "_law_squares" 76, dTop "_law_moved" 77, dTop "_law_poly_ring" 78, dTop "_law_beside" 79, dTop "_law_shears" 80, dTop "_law_led" 81, dTop "_law_rebased" 82, dTop "_law_turned" 83, dTop "_law_plain_ring" 84, dTop "_law_drawn_ring" 85]
def defs2 : List DefA := [dTop "_law_made" 86, dTop "_law_member" 87, dTop "_law_one_of_ring" 88, dTop "_law_great_power" 89, dTop "_law_undoing" 90, dTop "_law_told_inverse" 91, dTop "_law_units_right" 92, dTop "_law_right" 93, dTop "law" 94, dTop "lead_of" 30]
def defsR : List DefA := [dMet "Ring" "added" "Ring.added" (inClass (topS 56) 12), dMet "Ring" "inverse" "Ring.inverse" (inClass (topS 56) 17), dMet "Ring" "is_unit" "Ring.is_unit" (inClass (topS 56) 16), dMet "Ring" "power" "Ring.power" (inClass (topS 56) 15), dMet "Ring" "product" "Ring.product" (inClass (topS 56) 13), dMet "Ring" "times" "Ring.times" (inClass (topS 56) 14), dCls "Ring" "full" "Ring.full" (inClass (topS 56) 2), dCls "Ring" "of_poly" "Ring.of_poly" (inClass (topS 56) 5), dPrp "Ring" "one" "Ring.one" (inClass (topS 56) 10), dMet "KeptProducts" "__init__" "KeptProducts.__init__" (inClass (topS 54) 1), dMet "Ring" "__init__" "Ring.__init__" (inClass (topS 56) 1), ⟨fun K => ma K (ga K "Refused") "__init__", "__init__", "Refused.__init__", stR, ["__class__"]⟩]
def defs : List DefA := defs0 ++ defs1 ++ defs2 ++ defsR
abbrev eqOB (a b : Option Bool) : Bool := decide (a = b)
def relI (K : Frag) (x : Str) (i : Int) : Bool := match PySem.W.nsIn K mainGlobals x with
  | some (some (.int j _)) => decide (j = i)
  | _ => false
def relS (K : Frag) (x z : Str) : Bool := match PySem.W.nsIn K mainGlobals x with
  | some (some (.str y _)) => decide (y = z)
  | _ => false
def tupIB (K : Frag) (a : Addr) (is : List Int) : Bool := match K.lookup a with
  | some ⟨.type c, _, .seq its _, _⟩ => decide (c = "tuple") && (decide (its.size ≤ sizeLine) && relAll (is.map V.int) its.toList)
  | _ => false
def entB (K : Frag) (es : Array DictEntry) (i : Int) (is : List Int) : Bool := match findBy Value.isInt es i with
  | some (.ref a) => tupIB K a is
  | _ => false
def kdiB (K : Frag) (a : Addr) : Bool := match K.lookup a with
  | some ⟨.type c, none, .dict es _, sl⟩ => decide (c = "dict") && (sl.isEmpty && (es.toList.all (fun e => match e.key with
    | .int k _ => decide (e.hash = hashInt k)
    | _ => false) && (entB K es 2 [0, 1] && (entB K es 3 [0, 1, 2] && (entB K es 5 [0, 1, 3, 2, 4] && entB K es 7 [0, 1, 4, 5, 2, 3, 6])))))
  | _ => false
def sclsB (K : Frag) (C : Addr) : Bool := PySem.W.plainGet K C Str.empty && (PySem.W.isClsIn K C && (PySem.W.plainOver K C && eqO (PySem.W.findIn K (.ref C) "__setattr__") (some (some (.builtin "object.__setattr__")))))
def slotB (K : Frag) (C : Addr) (f : Str) (i : Nat) : Bool := eqO (PySem.W.findIn K (.ref C) f) (some (some (.ref (ma K C f)))) && (eqO (PySem.W.specialIn K (.ref (ma K C f)) "__get__") (some (some (.builtin "member_descriptor.__get__"))) &&
  (eqOB (PySem.W.takesIn K (.ref (ma K C f))) (some true) && (decide (PySem.W.typeIn K (.ref (ma K C f)) = some (.type "member_descriptor")) && (decide (PySem.W.slotIn K (ma K C f) C = some i) && decide (i < 1000)))))
def siB (K : Frag) (C : Addr) : Bool := eqO (PySem.W.findIn K (.ref C) "__class__") (some (some (.builtin "object.__class__"))) && (eqO (PySem.W.specialIn K (.builtin "object.__class__") "__get__") (some (some (.builtin "getset_descriptor.__get__"))) &&
  (eqOB (PySem.W.takesIn K (.builtin "object.__class__")) (some true) && (eqOB (PySem.W.mroIn K C (.type "object")) (some true) && (eqOB (PySem.W.kitOne K (.ref C) (.ref C)) (some true) && eqOB (PySem.W.kitOne K (.type "tuple") (.ref C)) (some false)))))
def metB (K : Frag) (C : Addr) (m : Str) : Bool := eqO (PySem.W.findIn K (.ref C) m) (some (some (.ref (ma K C m)))) && (PySem.W.isFn K (.ref (ma K C m)) && PySem.W.keepIn K (.ref (ma K C m)))
def mkB (K : Frag) (C : Addr) : Bool := PySem.W.makesIn K C && (eqO (PySem.W.findIn K (.ref C) "__init__") (some (some (.ref (ma K C "__init__")))) && (PySem.W.isFn K (.ref (ma K C "__init__")) && PySem.W.keepIn K (.ref C)))
def crB (K : Frag) (C : Addr) : Bool := PySem.W.readsIn K C (.type "type") && eqO (PySem.W.specialIn K (.ref C) "__getattribute__") (some (some (.builtin "type.__getattribute__")))
def cmB (K : Frag) (C : Addr) (m : Str) : Bool := He5.wrapB K C "classmethod" "classmethod.__get__" m && PySem.W.fnIn K (He5.wf K C "classmethod" m)
def prB (K : Frag) (C : Addr) (m : Str) : Bool := eqO (PySem.W.findIn K (.ref C) m) (some (some (.ref (ma K C m)))) && (eqO (PySem.W.specialIn K (.ref (ma K C m)) "__get__") (some (some (.builtin "property.__get__"))) && (eqOB (PySem.W.takesIn K (.ref (ma K C m))) (some true) && (match PySem.W.recIn K (ma K C m) "property" with
  | some (.ref _ :: _) => true
  | _ => false)))
def fileB (K : Frag) (c : Value) : Bool := match c with
  | .ref cda => (match K.lookup cda with
    | some ⟨_, _, .fields vs, _⟩ => (match (vs[2]? : Option Value) with
      | some (.str file _) => (pw.main.file : Str) == file
      | _ => false)
    | _ => false)
  | _ => false
def refB (K : Frag) (C fI : Addr) : Bool := match K.lookup fI with
  | some ⟨_, _, .func fd, _⟩ => fileB K fd.code && (match fd.closure with
    | [(_, cc)] => (match K.lookup cc with
      | some ⟨_, _, .cell (some (.ref D)), _⟩ => decide (D = C)
      | _ => false)
    | _ => false)
  | _ => false
def rfB (K : Frag) (C fI : Addr) : List Bool := [PySem.W.isClsIn K C, eqOB (PySem.W.mroIn K C (.ref C)) (some true), eqO (PySem.W.findIn K (.ref C) "__init__") (some (some (.ref fI))), PySem.W.isFn K (.ref fI), PySem.W.excInitIn K C bmA "ArithmeticError.__new__",
  eqO (PySem.W.nsIn K mainGlobals "super") (some none), eqO (PySem.W.ks_superIn K C C "__init__") (some (some (.builtin "ArithmeticError.__init__"))), eqOB (PySem.W.subIn K (.ref C) (.type "ArithmeticError")) (some true), eqO (PySem.W.nsIn K cStatics "thirdparty.any") (some none),
  eqO (PySem.W.findIn K (.ref C) "__setattr__") (some (some (.builtin "object.__setattr__"))), PySem.W.excOver K C bmA, eqO (PySem.W.takerIn K C "reason") (some none), PySem.W.hasDictIn K C, eqOB (PySem.W.subIn K (.ref C) (.type "BaseException")) (some true), decide (PySem.W.typeIn K (.ref C) = some (.type "type")),
  PySem.W.keepIn K (.ref C), eqO (PySem.W.findIn K (.ref C) "__getattribute__") (some (some (.builtin "BaseException.__getattribute__"))), eqO (PySem.W.findIn K (.ref C) "__getattr__") (some none), eqO (PySem.W.findIn K (.ref C) "reason") (some none), eqOB (PySem.W.exmOne K (.ref C) (.ref C)) (some true), refB K C fI]
def facts0 (K : Frag) : List Bool := [eqO (PySem.W.nsIn K mainGlobals "abs") (some none), eqO (PySem.W.nsIn K mainGlobals "all") (some none), eqO (PySem.W.nsIn K mainGlobals "any") (some none), eqO (PySem.W.nsIn K mainGlobals "bool") (some none), eqO (PySem.W.nsIn K mainGlobals "enumerate") (some none), eqO (PySem.W.nsIn K mainGlobals "int") (some none), eqO (PySem.W.nsIn K mainGlobals "isinstance") (some none), eqO (PySem.W.nsIn K mainGlobals "len") (some none), eqO (PySem.W.nsIn K mainGlobals "list") (some none), eqO (PySem.W.nsIn K mainGlobals "max") (some none), eqO (PySem.W.nsIn K mainGlobals "min") (some none), eqO (PySem.W.nsIn K mainGlobals "next") (some none), eqO (PySem.W.nsIn K mainGlobals "range") (some none), eqO (PySem.W.nsIn K mainGlobals "sorted") (some none), eqO (PySem.W.nsIn K mainGlobals "tuple") (some none), eqO (PySem.W.nsIn K mainGlobals "zip") (some none), eqO (PySem.W.nsIn K mainGlobals "_wall") (some (some (.ref (ga K "_wall")))), eqO (PySem.W.nsIn K mainGlobals "is_whole") (some (some (.ref (ga K "is_whole")))), eqO (PySem.W.nsIn K mainGlobals "is_integer") (some (some (.ref (ga K "is_integer")))), eqO (PySem.W.nsIn K mainGlobals "is_within") (some (some (.ref (ga K "is_within")))), eqO (PySem.W.nsIn K mainGlobals "is_prime") (some (some (.ref (ga K "is_prime")))), eqO (PySem.W.nsIn K mainGlobals "is_residue_row") (some (some (.ref (ga K "is_residue_row")))), eqO (PySem.W.nsIn K mainGlobals "undone_residue") (some (some (.ref (ga K "undone_residue")))), eqO (PySem.W.nsIn K mainGlobals "require_integer") (some (some (.ref (ga K "require_integer")))), eqO (PySem.W.nsIn K mainGlobals "require_within") (some (some (.ref (ga K "require_within")))), eqO (PySem.W.nsIn K mainGlobals "require_prime") (some (some (.ref (ga K "require_prime")))), eqO (PySem.W.nsIn K mainGlobals "zero_row") (some (some (.ref (ga K "zero_row")))), eqO (PySem.W.nsIn K mainGlobals "single_row") (some (some (.ref (ga K "single_row")))), eqO (PySem.W.nsIn K mainGlobals "scaled_row") (some (some (.ref (ga K "scaled_row")))), eqO (PySem.W.nsIn K mainGlobals "added_row") (some (some (.ref (ga K "added_row"))))]
def facts1 (K : Frag) : List Bool := [eqO (PySem.W.nsIn K mainGlobals "led_row") (some (some (.ref (ga K "led_row")))), eqO (PySem.W.nsIn K mainGlobals "rest_of") (some (some (.ref (ga K "rest_of")))), eqO (PySem.W.nsIn K mainGlobals "with_row") (some (some (.ref (ga K "with_row")))), eqO (PySem.W.nsIn K mainGlobals "reduced") (some (some (.ref (ga K "reduced")))), eqO (PySem.W.nsIn K mainGlobals "solution_in") (some (some (.ref (ga K "solution_in")))), eqO (PySem.W.nsIn K mainGlobals "places_table") (some (some (.ref (ga K "places_table")))), eqO (PySem.W.nsIn K mainGlobals "full_places") (some (some (.ref (ga K "full_places")))), eqO (PySem.W.nsIn K mainGlobals "powers_of_letter") (some (some (.ref (ga K "powers_of_letter")))), eqO (PySem.W.nsIn K mainGlobals "poly_products") (some (some (.ref (ga K "poly_products")))), eqO (PySem.W.nsIn K mainGlobals "pair_products") (some (some (.ref (ga K "pair_products")))), eqO (PySem.W.nsIn K mainGlobals "members_number") (some (some (.ref (ga K "members_number")))), eqO (PySem.W.nsIn K mainGlobals "is_monic_in") (some (some (.ref (ga K "is_monic_in")))), eqO (PySem.W.nsIn K mainGlobals "group_fault") (some (some (.ref (ga K "group_fault")))), eqO (PySem.W.nsIn K mainGlobals "one_in") (some (some (.ref (ga K "one_in")))), eqO (PySem.W.nsIn K mainGlobals "fault_in") (some (some (.ref (ga K "fault_in")))), eqO (PySem.W.nsIn K mainGlobals "are_products") (some (some (.ref (ga K "are_products")))), eqO (PySem.W.nsIn K mainGlobals "require_products") (some (some (.ref (ga K "require_products")))), eqO (PySem.W.nsIn K mainGlobals "products_told") (some (some (.ref (ga K "products_told")))), eqO (PySem.W.nsIn K mainGlobals "is_member_in") (some (some (.ref (ga K "is_member_in")))), eqO (PySem.W.nsIn K mainGlobals "right_table") (some (some (.ref (ga K "right_table")))), eqO (PySem.W.nsIn K mainGlobals "product_in") (some (some (.ref (ga K "product_in")))), eqO (PySem.W.nsIn K mainGlobals "power_in") (some (some (.ref (ga K "power_in")))), eqO (PySem.W.nsIn K mainGlobals "undone_member") (some (some (.ref (ga K "undone_member")))), eqO (PySem.W.nsIn K mainGlobals "require_ring") (some (some (.ref (ga K "require_ring")))), eqO (PySem.W.nsIn K mainGlobals "require_member") (some (some (.ref (ga K "require_member")))), eqO (PySem.W.nsIn K mainGlobals "_law_tank") (some (some (.ref (ga K "_law_tank")))), eqO (PySem.W.nsIn K mainGlobals "_law_drop") (some (some (.ref (ga K "_law_drop")))), eqO (PySem.W.nsIn K mainGlobals "_law_choice") (some (some (.ref (ga K "_law_choice")))), eqO (PySem.W.nsIn K mainGlobals "_law_plus") (some (some (.ref (ga K "_law_plus")))), eqO (PySem.W.nsIn K mainGlobals "_law_undone") (some (some (.ref (ga K "_law_undone"))))]
def facts2 (K : Frag) : List Bool := [eqO (PySem.W.nsIn K mainGlobals "_law_reduced") (some (some (.ref (ga K "_law_reduced")))), eqO (PySem.W.nsIn K mainGlobals "_law_rest") (some (some (.ref (ga K "_law_rest")))), eqO (PySem.W.nsIn K mainGlobals "_law_solved") (some (some (.ref (ga K "_law_solved")))), eqO (PySem.W.nsIn K mainGlobals "_law_ring") (some (some (.ref (ga K "_law_ring")))), eqO (PySem.W.nsIn K mainGlobals "_law_times") (some (some (.ref (ga K "_law_times")))), eqO (PySem.W.nsIn K mainGlobals "_law_unit") (some (some (.ref (ga K "_law_unit")))), eqO (PySem.W.nsIn K mainGlobals "_law_squares") (some (some (.ref (ga K "_law_squares")))), eqO (PySem.W.nsIn K mainGlobals "_law_moved") (some (some (.ref (ga K "_law_moved")))), eqO (PySem.W.nsIn K mainGlobals "_law_poly_ring") (some (some (.ref (ga K "_law_poly_ring")))), eqO (PySem.W.nsIn K mainGlobals "_law_beside") (some (some (.ref (ga K "_law_beside")))), eqO (PySem.W.nsIn K mainGlobals "_law_shears") (some (some (.ref (ga K "_law_shears")))), eqO (PySem.W.nsIn K mainGlobals "_law_led") (some (some (.ref (ga K "_law_led")))), eqO (PySem.W.nsIn K mainGlobals "_law_rebased") (some (some (.ref (ga K "_law_rebased")))), eqO (PySem.W.nsIn K mainGlobals "_law_turned") (some (some (.ref (ga K "_law_turned")))), eqO (PySem.W.nsIn K mainGlobals "_law_plain_ring") (some (some (.ref (ga K "_law_plain_ring")))), eqO (PySem.W.nsIn K mainGlobals "_law_drawn_ring") (some (some (.ref (ga K "_law_drawn_ring")))), eqO (PySem.W.nsIn K mainGlobals "_law_made") (some (some (.ref (ga K "_law_made")))), eqO (PySem.W.nsIn K mainGlobals "_law_member") (some (some (.ref (ga K "_law_member")))), eqO (PySem.W.nsIn K mainGlobals "_law_one_of_ring") (some (some (.ref (ga K "_law_one_of_ring")))), eqO (PySem.W.nsIn K mainGlobals "_law_great_power") (some (some (.ref (ga K "_law_great_power")))), eqO (PySem.W.nsIn K mainGlobals "_law_undoing") (some (some (.ref (ga K "_law_undoing")))), eqO (PySem.W.nsIn K mainGlobals "_law_told_inverse") (some (some (.ref (ga K "_law_told_inverse")))), eqO (PySem.W.nsIn K mainGlobals "_law_units_right") (some (some (.ref (ga K "_law_units_right")))), eqO (PySem.W.nsIn K mainGlobals "_law_right") (some (some (.ref (ga K "_law_right")))), eqO (PySem.W.nsIn K mainGlobals "law") (some (some (.ref (ga K "law")))), eqO (PySem.W.nsIn K mainGlobals "lead_of") (some (some (.ref (ga K "lead_of")))), eqO (PySem.W.nsIn K mainGlobals "Ring") (some (some (.ref (ga K "Ring")))), eqO (PySem.W.nsIn K mainGlobals "KeptProducts") (some (some (.ref (ga K "KeptProducts")))), eqO (PySem.W.nsIn K mainGlobals "Refused") (some (some (.ref (ga K "Refused")))), eqO (PySem.W.nsIn K mainGlobals "UNDONE") (some (some (.ref (ga K "UNDONE"))))]
def facts3 (K : Frag) : List Bool := [eqO (PySem.W.nsIn K mainGlobals "PRIMES") (some (some (.ref (ga K "PRIMES")))), relI K "SIXTY_DIGITS" (10 ^ 60), relI K "MAX_SIZE" (9), relI K "MAX_SIDE" (3), relI K "MOST_BASE" (9), relS K "GROUP" "group", relS K "NO_ONE" "one", tupIB K (ga K "PRIMES") [2, 3, 5, 7], kdiB K (ga K "UNDONE"), sclsB K (CC K 0), sclsB K (CC K 1), siB K (CC K 1), slotB K (CC K 0) "own_one" 0, slotB K (CC K 0) "own_prime" 1, slotB K (CC K 0) "own_size" 2, slotB K (CC K 0) "own_table" 3, slotB K (CC K 1) "own_rows" 0, metB K (CC K 0) "added", metB K (CC K 0) "inverse", metB K (CC K 0) "is_unit", metB K (CC K 0) "power", metB K (CC K 0) "product", metB K (CC K 0) "times", crB K (CC K 0), cmB K (CC K 0) "full", cmB K (CC K 0) "of_poly", prB K (CC K 0) "one", mkB K (CC K 1), mkB K (CC K 0)]
def facts (K : Frag) : List Bool := facts0 K ++ facts1 K ++ facts2 K ++ facts3 K ++ rfB K (CC K 2) (ma K (ga K "Refused") "__init__")
def exB (K : Frag) : Bool := (facts K).all id && defs.all fun d => d.ok K
def obsR (K : Frag) : Bool × List FnA := (exB K, defs.map fun d => fnA K (d.path K))
def valR : Bool × List FnA := (true, defs.map DefA.val)
end TR
set_option maxHeartbeats 0
/-! The top's run, looked at by the facts. -/
namespace TR
open PySem PySem.W PySem.Calls PyProof.Rows
def AK (_ : Addr → Option Obj) : List Addr := (List.range 4096).reverse
def tabR (g : Addr → Option Obj) (K : Frag) : Bool := codeHdIn K (He.cT K ("lead_of", none)).1 (He.cT K ("lead_of", none)).2 && (match g (He.cT K ("lead_of", none)).2 with
  | some o => He.emptyTab o
  | none => false)
abbrev AlR : Type := (Bool × List FnA) × Bool
def obG (g : Addr → Option Obj) : AlR := (obsR (He.frT g (AK g)), tabR g (He.frT g (AK g)))
structure SaysR (h : Heap) (K : Frag) : Prop where
  o : obsR K = valR
  hd : codeHdIn K (He.cT K ("lead_of", none)).1 (He.cT K ("lead_of", none)).2 = true
  out : K.lookup (He.cT K ("lead_of", none)).2 = none
  empty : h.get? (He.cT K ("lead_of", none)).2 = some { cls := .none, data := .fields #[] }
theorem saysR_of {h : Heap} (e : obG h.get? = (valR, true)) : SaysR h (He.frT h.get? (AK h.get?)) := by
  have e1 : obsR (He.frT h.get? (AK h.get?)) = valR := congrArg (fun z : AlR => z.1) e
  have e2 : tabR h.get? (He.frT h.get? (AK h.get?)) = true := congrArg (fun z : AlR => z.2) e
  obtain ⟨h1, h2⟩ := He.ba e2
  cases q : h.get? (He.cT (He.frT h.get? (AK h.get?)) ("lead_of", none)).2 with
  | none =>
    rw [q] at h2
    cases h2
  | some o =>
    rw [q] at h2
    exact ⟨e1, h1, He.frT_none q h2, by rw [q, He.emptyTab_eq h2]⟩
def hookR : Hook where
  α := AlR
  obs := fun s => obG s.heap.get?
  val := fun _ => (valR, true)
  says := fun _ h => ∃ K : Frag, K.In h ∧ SaysR h K
  of := fun _ _ e => ⟨_, He.frT_in, saysR_of e⟩
  keeps := fun _ _ _ ⟨K, hK, c⟩ k => ⟨K, Frag.In.keeps hK k, ⟨c.o, c.hd, c.out, k _ _ c.empty⟩⟩
def ob (s : SharedT) : AlR := obG (HandSHeadRun.getT s)
theorem ob_eq (s : SharedT) : ob s = hookR.obs s.abs := by
  have e : HandSHeadRun.getT s = s.abs.heap.get? := funext (HandSHeadRun.getT_eq s)
  unfold ob
  rw [e]
  rfl
abbrev R : OpenRow := OpenLaw.row PySem.Challenge.rw_tablerings_k10_whole_products_powers_and
abbrev qv : Program := view R.prog [94]
def names0 : List PySem.Str := ["_wall", "RingError", "InvalidRing", "InvalidRow", "InvalidTable", "InvalidPoly", "InvalidOperation", "InvalidNumber", "TooMany", "Refused", "SIXTY_DIGITS", "PRIMES", "UNDONE", "is_whole", "is_integer", "is_within", "is_prime", "is_residue_row", "undone_residue", "require_integer", "require_within", "require_prime", "zero_row", "single_row", "scaled_row", "added_row", "led_row", "lead_of", "rest_of", "with_row"]
def names1 : List PySem.Str := ["reduced", "solution_in", "MOST_BASE", "places_table", "full_places", "powers_of_letter", "poly_products", "pair_products", "members_number", "is_monic_in", "MAX_SIZE", "MAX_SIDE", "GROUP", "NO_ONE", "group_fault", "one_in", "fault_in", "are_products", "require_products", "KeptProducts", "products_told", "Ring", "is_member_in", "right_table", "product_in", "power_in", "undone_member", "require_ring", "require_member", "_law_tank"]
def names2 : List PySem.Str := ["_law_drop", "_law_choice", "_law_plus", "_law_undone", "_law_reduced", "_law_rest", "_law_solved", "_law_ring", "_law_times", "_law_unit", "_law_squares", "_law_moved", "_law_poly_ring", "_law_beside", "_law_shears", "_law_led", "_law_rebased", "_law_turned", "_law_plain_ring", "_law_drawn_ring", "_law_made", "_law_member", "_law_one_of_ring", "_law_great_power", "_law_undoing", "_law_told_inverse", "_law_units_right", "_law_right"]
def names : List PySem.Str := names0 ++ names1 ++ names2
theorem runf (w : World) : HandSHeadRun.RunEq R qv hookR ob 8000 names (w.withFollow "special-get-raises" false) := by
  intro os
  kernel_rfl
theorem runt (w : World) : HandSHeadRun.RunEq R qv hookR ob 8000 names (w.withFollow "special-get-raises" true) := by
  intro os
  kernel_rfl
end TR

/-! Linear algebra over a commutative ring: sums, systems of lines with leads. Plain Lean. -/
namespace TRM
open Lean.Grind
section
variable {K : Type} [CommRing K]
def sm : Nat → (Nat → K) → K
  | 0, _ => 0
  | n + 1, f => sm n f + f n
theorem sm_congr {f g : Nat → K} : ∀ {n : Nat}, (∀ i, i < n → f i = g i) → sm n f = sm n g
  | 0, _ => rfl
  | n + 1, h => by
    show sm n f + f n = sm n g + g n
    rw [sm_congr (n := n) fun i hi => h i (Nat.lt_succ_of_lt hi), h n (Nat.lt_succ_self n)]
theorem sm_zero : ∀ n : Nat, sm n (fun _ => (0 : K)) = 0
  | 0 => rfl
  | n + 1 => by
    show sm n (fun _ => (0 : K)) + 0 = 0
    rw [sm_zero n]; grind
theorem sm_zero' {n : Nat} {f : Nat → K} (h : ∀ i, i < n → f i = 0) : sm n f = 0 := (sm_congr h).trans (sm_zero n)
theorem sm_add (f g : Nat → K) : ∀ n : Nat, sm n (fun i => f i + g i) = sm n f + sm n g
  | 0 => by show (0 : K) = 0 + 0; grind
  | n + 1 => by
    show sm n (fun i => f i + g i) + (f n + g n) = (sm n f + f n) + (sm n g + g n)
    rw [sm_add f g n]; grind
theorem sm_mul (a : K) (f : Nat → K) : ∀ n : Nat, sm n (fun i => a * f i) = a * sm n f
  | 0 => by show (0 : K) = a * 0; grind
  | n + 1 => by
    show sm n (fun i => a * f i) + a * f n = a * (sm n f + f n)
    rw [sm_mul a f n]; grind
theorem sm_mulr (a : K) (f : Nat → K) (n : Nat) : sm n (fun i => f i * a) = sm n f * a := by
  have : (fun i => f i * a) = fun i => a * f i := by funext i; grind
  rw [this, sm_mul]; grind
theorem sm_sub (f g : Nat → K) (n : Nat) : sm n (fun i => f i - g i) = sm n f - sm n g := by
  have : (fun i => f i - g i) = fun i => f i + (-1) * g i := by funext i; grind
  rw [this, sm_add, sm_mul]; grind
theorem sm_comm (f : Nat → Nat → K) (m : Nat) : ∀ n : Nat, sm n (fun i => sm m fun j => f i j) = sm m fun j => sm n fun i => f i j
  | 0 => (sm_zero m).symm
  | n + 1 => by
    show sm n (fun i => sm m fun j => f i j) + sm m (fun j => f n j) = sm m fun j => sm n (fun i => f i j) + f n j
    rw [sm_comm f m n, sm_add]
theorem sm_delta (f : Nat → K) (k : Nat) : ∀ n : Nat, sm n (fun i => if i = k then f i else 0) = if k < n then f k else 0
  | 0 => rfl
  | n + 1 => by
    show sm n (fun i => if i = k then f i else 0) + (if n = k then f n else 0) = _
    rw [sm_delta f k n]
    by_cases h : n = k
    · subst h
      rw [if_neg (Nat.lt_irrefl n), if_pos rfl, if_pos (Nat.lt_succ_self n)]; grind
    · rw [if_neg h]
      by_cases h2 : k < n
      · rw [if_pos h2, if_pos (Nat.lt_succ_of_lt h2)]; grind
      · rw [if_neg h2, if_neg (fun z => by omega)]; grind
theorem sm_pick (f : Nat → K) {k n : Nat} (h : k < n) (g : Nat → K) (hk : g k = f k) (h0 : ∀ i, i < n → i ≠ k → g i = 0) : sm n g = f k := by
  rw [sm_congr (g := fun i => if i = k then f i else 0) fun i hi => ?_, sm_delta, if_pos h]
  by_cases e : i = k
  · rw [if_pos e, e, hk]
  · rw [if_neg e, h0 i hi e]
/-! ### lines with leads -/
abbrev Ln (K : Type) : Type := Nat × (Nat → K)
def comb : List (Ln K) → (Nat → K) → Nat → K
  | [], _, _ => 0
  | t :: R, u, c => u t.1 * t.2 c + comb R u c
def elimS : List (Ln K) → (Nat → K) → Nat → K
  | [], u => u
  | t :: R, u => elimS R fun c => u c - u t.1 * t.2 c
/-- each line is one at its lead, nought at the others' leads -/
structure Dl (R : List (Ln K)) : Prop where
  one : ∀ t ∈ R, t.2 t.1 = 1
  off : R.Pairwise fun s t => s.2 t.1 = 0 ∧ t.2 s.1 = 0
theorem Dl.tail {t : Ln K} {R : List (Ln K)} (h : Dl (t :: R)) : Dl R := ⟨fun s hs => h.one s (List.mem_cons_of_mem _ hs), (List.pairwise_cons.mp h.off).2⟩
theorem comb_zero : ∀ {R : List (Ln K)} {u : Nat → K} {c : Nat}, (∀ t ∈ R, t.2 c = 0) → comb R u c = 0
  | [], _, _, _ => rfl
  | t :: R, u, c, h => by
    show u t.1 * t.2 c + comb R u c = 0
    rw [h t List.mem_cons_self, comb_zero (fun s hs => h s (List.mem_cons_of_mem _ hs))]; grind
theorem comb_none : ∀ {R : List (Ln K)} {u : Nat → K}, (∀ t ∈ R, u t.1 = 0) → ∀ c, comb R u c = 0
  | [], _, _, _ => rfl
  | t :: R, u, h, c => by
    show u t.1 * t.2 c + comb R u c = 0
    rw [h t List.mem_cons_self, comb_none (fun s hs => h s (List.mem_cons_of_mem _ hs))]; grind
theorem comb_lead : ∀ {R : List (Ln K)}, Dl R → ∀ (u : Nat → K) {t : Ln K}, t ∈ R → comb R u t.1 = u t.1
  | s :: R, h, u, t, ht => by
    show u s.1 * s.2 t.1 + comb R u t.1 = u t.1
    have hp := (List.pairwise_cons.mp h.off).1
    rcases List.mem_cons.mp ht with e | ht
    · subst e
      rw [h.one t List.mem_cons_self, comb_zero fun q hq => (hp q hq).2]; grind
    · rw [(hp t ht).1, comb_lead h.tail u ht]; grind
theorem comb_sub : ∀ (R : List (Ln K)) (u v : Nat → K) (a : K) (c : Nat), comb R (fun c => u c - a * v c) c = comb R u c - a * comb R v c
  | [], _, _, _, _ => by show (0 : K) = 0 - _ * 0; grind
  | t :: R, u, v, a, c => by
    show (u t.1 - a * v t.1) * t.2 c + comb R (fun c => u c - a * v c) c = (u t.1 * t.2 c + comb R u c) - a * (v t.1 * t.2 c + comb R v c)
    rw [comb_sub R u v a c]; grind
theorem comb_append (S : List (Ln K)) (u : Nat → K) (c : Nat) : ∀ R : List (Ln K), comb (R ++ S) u c = comb R u c + comb S u c
  | [] => by show comb S u c = 0 + comb S u c; grind
  | t :: R => by
    show u t.1 * t.2 c + comb (R ++ S) u c = (u t.1 * t.2 c + comb R u c) + comb S u c
    rw [comb_append S u c R]; grind
theorem elim_eq : ∀ {R : List (Ln K)}, Dl R → ∀ (u : Nat → K) (c : Nat), elimS R u c = u c - comb R u c
  | [], _, u, c => by show u c = u c - 0; grind
  | t :: R, h, u, c => by
    show elimS R (fun c => u c - u t.1 * t.2 c) c = u c - (u t.1 * t.2 c + comb R u c)
    have hp := (List.pairwise_cons.mp h.off).1
    rw [elim_eq h.tail, comb_sub, comb_none (u := t.2) fun s hs => (hp s hs).1]; grind
theorem elim_lead {R : List (Ln K)} (h : Dl R) (u : Nat → K) {t : Ln K} (ht : t ∈ R) : elimS R u t.1 = 0 := by
  rw [elim_eq h, comb_lead h u ht]; grind
/-- the lines, freed at a place -/
def upd (a : Nat) (h : Nat → K) (R : List (Ln K)) : List (Ln K) := R.map fun t => (t.1, fun c => t.2 c - t.2 a * h c)
theorem comb_upd (a : Nat) (h u : Nat → K) (c : Nat) : ∀ R : List (Ln K), comb (upd a h R) u c = comb R u c - comb R u a * h c
  | [] => by show (0 : K) = 0 - 0 * h c; grind
  | t :: R => by
    show u t.1 * (t.2 c - t.2 a * h c) + comb (upd a h R) u c = (u t.1 * t.2 c + comb R u c) - (u t.1 * t.2 a + comb R u a) * h c
    rw [comb_upd a h u c R]; grind
theorem dl_upd {a : Nat} {h : Nat → K} (R : List (Ln K)) (d : Dl R) (ha : h a = 1) (h0 : ∀ t ∈ R, h t.1 = 0) : Dl (upd a h R) ∧ ∀ t ∈ upd a h R, t.2 a = 0 ∧ h t.1 = 0 := by
  refine ⟨⟨fun t ht => ?_, ?_⟩, fun t ht => ?_⟩
  · obtain ⟨s, hs, rfl⟩ := List.mem_map.mp ht
    show s.2 s.1 - s.2 a * h s.1 = 1
    rw [h0 s hs, d.one s hs]; grind
  · unfold upd
    rw [List.pairwise_map]
    refine List.Pairwise.imp_of_mem (fun {s t} hs ht z => ?_) d.off
    show s.2 t.1 - s.2 a * h t.1 = 0 ∧ t.2 s.1 - t.2 a * h s.1 = 0
    rw [h0 s hs, h0 t ht, z.1, z.2]
    exact ⟨by grind, by grind⟩
  · obtain ⟨s, hs, rfl⟩ := List.mem_map.mp ht
    exact ⟨by show s.2 a - s.2 a * h a = 0; rw [ha]; grind, h0 s hs⟩
end
end TRM

/-! Lists of residues as vectors; the two eliminations. Plain Lean. -/
namespace TRM
open Lean.Grind
def Can (p : Nat) (l : List Int) : Prop := ∀ x ∈ l, 0 ≤ x ∧ x < (p : Int)
def plusL (p : Nat) (a b : List Int) (f : Int) : List Int := List.zipWith (fun x y => (x + f * y) % (p : Int)) a b
def scaleL (p : Nat) (f : Int) (a : List Int) : List Int := a.map fun x => f * x % (p : Int)
def leadL (l : List Int) : Option Nat := l.findIdx? fun x => decide (x ≠ 0)
section
variable (K : Type) [CommRing K]
/-- an int's residue -/
def ci (x : Int) : K := @Int.cast K Ring.intCast x
def cv (l : List Int) : Nat → K := fun i => ci K (l.getD i 0)
end
section
variable {K : Type} [CommRing K]
theorem ci_add (x y : Int) : ci K (x + y) = ci K x + ci K y := Ring.intCast_add x y
theorem ci_mul (x y : Int) : ci K (x * y) = ci K x * ci K y := Ring.intCast_mul x y
theorem ci_neg (x : Int) : ci K (-x) = -ci K x := Ring.intCast_neg x
theorem ci_sub (x y : Int) : ci K (x - y) = ci K x - ci K y := Ring.intCast_sub x y
theorem ci_zero : ci K 0 = 0 := Ring.intCast_zero
theorem ci_one : ci K 1 = 1 := Ring.intCast_one
end
section
variable {K : Type} [CommRing K] {p : Nat} [IsCharP K p]
theorem cast_mod (x : Int) : ci K (x % (p : Int)) = ci K x := IsCharP.intCast_emod p x
theorem cv_out {l : List Int} {i : Nat} (h : l.length ≤ i) : cv K l i = 0 := by
  unfold cv
  rw [List.getD_eq_getElem?_getD, List.getElem?_eq_none h]
  exact ci_zero
theorem cv_at {l : List Int} {i : Nat} (h : i < l.length) : cv K l i = ci K l[i] := by
  unfold cv
  rw [List.getD_eq_getElem?_getD, List.getElem?_eq_getElem h]
  rfl
theorem plus_len {a b : List Int} {f : Int} (h : a.length = b.length) : (plusL p a b f).length = a.length := by
  unfold plusL
  rw [List.length_zipWith, h, Nat.min_self]
theorem scale_len {a : List Int} {f : Int} : (scaleL p f a).length = a.length := by
  unfold scaleL
  rw [List.length_map]
theorem cv_plus {a b : List Int} {f : Int} (h : a.length = b.length) : cv K (plusL p a b f) = fun i => cv K a i + ci K f * cv K b i := by
  funext i
  by_cases hi : i < a.length
  · have hb : i < b.length := by omega
    rw [cv_at (l := a) hi, cv_at (l := b) hb, cv_at (l := plusL p a b f) (by rw [plus_len h]; exact hi)]
    unfold plusL
    rw [List.getElem_zipWith, cast_mod, ci_add, ci_mul]
  · have hi : a.length ≤ i := by omega
    rw [cv_out (l := a) hi, cv_out (l := b) (by omega), cv_out (l := plusL p a b f) (by rw [plus_len h]; exact hi)]
    grind
theorem cv_scale {a : List Int} {f : Int} : cv K (scaleL p f a) = fun i => ci K f * cv K a i := by
  funext i
  by_cases hi : i < a.length
  · rw [cv_at (l := a) hi, cv_at (l := scaleL p f a) (by rw [scale_len]; exact hi)]
    unfold scaleL
    rw [List.getElem_map, cast_mod, ci_mul]
  · have hi : a.length ≤ i := by omega
    rw [cv_out (l := a) hi, cv_out (l := scaleL p f a) (by rw [scale_len]; exact hi)]
    grind
theorem can_plus (hp : 0 < p) {a b : List Int} {f : Int} : Can p (plusL p a b f) := fun x hx => by
  unfold plusL at hx
  obtain ⟨i, hi, rfl⟩ := List.mem_iff_getElem.mp hx
  rw [List.getElem_zipWith]
  exact ⟨Int.emod_nonneg _ (by omega), Int.emod_lt_of_pos _ (by omega)⟩
theorem can_scale (hp : 0 < p) {a : List Int} {f : Int} : Can p (scaleL p f a) := fun x hx => by
  unfold scaleL at hx
  obtain ⟨y, _, rfl⟩ := List.mem_map.mp hx
  exact ⟨Int.emod_nonneg _ (by omega), Int.emod_lt_of_pos _ (by omega)⟩
theorem cast_inj {x y : Int} (hx : 0 ≤ x ∧ x < (p : Int)) (hy : 0 ≤ y ∧ y < (p : Int)) (h : ci K x = ci K y) : x = y := by
  have := (IsCharP.intCast_ext_iff p (α := K)).mp h
  rwa [Int.emod_eq_of_lt hx.1 hx.2, Int.emod_eq_of_lt hy.1 hy.2] at this
theorem cast_zero {x : Int} (hx : 0 ≤ x ∧ x < (p : Int)) : ci K x = 0 ↔ x = 0 := by
  have := IsCharP.intCast_eq_zero_iff p (α := K) x
  rw [Int.emod_eq_of_lt hx.1 hx.2] at this
  exact this
theorem cv_inj {a b : List Int} (ha : Can p a) (hb : Can p b) (hl : a.length = b.length) (h : ∀ i, i < a.length → cv K a i = cv K b i) : a = b := by
  refine List.ext_getElem hl fun i h1 h2 => ?_
  have e := h i h1
  rw [cv_at h1, cv_at h2] at e
  exact cast_inj (K := K) (ha _ (List.getElem_mem h1)) (hb _ (List.getElem_mem h2)) e
/-! ### leads -/
theorem lead_none {l : List Int} (h : leadL l = none) (i : Nat) : cv K l i = 0 := by
  by_cases hi : i < l.length
  · unfold leadL at h
    rw [List.findIdx?_eq_none_iff] at h
    have := h l[i] (List.getElem_mem hi)
    rw [cv_at hi, show l[i] = 0 by simpa using this]
    exact ci_zero
  · exact cv_out (by omega)
theorem lead_some {l : List Int} {L : Nat} (h : leadL l = some L) : ∃ hL : L < l.length, l[L] ≠ 0 ∧ ∀ i, i < L → l.getD i 0 = 0 := by
  unfold leadL at h
  obtain ⟨hL, h1, h2⟩ := List.findIdx?_eq_some_iff_getElem.mp h
  refine ⟨hL, by simpa using h1, fun i hi => ?_⟩
  rw [List.getD_eq_getElem?_getD, List.getElem?_eq_getElem (by omega)]
  simpa using h2 i hi
theorem lead_of {l : List Int} {L : Nat} (hL : L < l.length) (h1 : l[L] ≠ 0) (h2 : ∀ i, i < L → l.getD i 0 = 0) : leadL l = some L := by
  unfold leadL
  refine List.findIdx?_eq_some_iff_getElem.mpr ⟨hL, by simpa using h1, fun i hi => ?_⟩
  have := h2 i hi
  rw [List.getD_eq_getElem?_getD, List.getElem?_eq_getElem (by omega)] at this
  simpa using this
/-- a canonical list's lead, told of its vector -/
theorem lead_cv {l : List Int} {L : Nat} (c : Can p l) : leadL l = some L ↔ L < l.length ∧ cv K l L ≠ 0 ∧ ∀ i, i < L → cv K l i = 0 := by
  constructor
  · intro h
    obtain ⟨hL, h1, h2⟩ := lead_some h
    refine ⟨hL, ?_, fun i hi => ?_⟩
    · rw [cv_at hL]
      exact fun z => h1 ((cast_zero (c _ (List.getElem_mem hL))).mp z)
    · unfold cv
      rw [h2 i hi]
      exact ci_zero
  · rintro ⟨hL, h1, h2⟩
    refine lead_of hL ?_ fun i hi => ?_
    · intro z
      rw [cv_at hL, z] at h1
      exact h1 ci_zero
    · have hi' : i < l.length := by omega
      have e := h2 i hi
      rw [cv_at hi'] at e
      rw [List.getD_eq_getElem?_getD, List.getElem?_eq_getElem hi']
      exact (cast_zero (c _ (List.getElem_mem hi'))).mp e
end
/-! ### systems -/
section
variable (K : Type) [CommRing K]
def toLn (l : List Int) : Ln K := ((leadL l).getD 0, cv K l)
abbrev lns (S : List (List Int)) : List (Ln K) := S.map (toLn K)
structure SysOk (p w : Nat) (S : List (List Int)) : Prop where
  len : ∀ l ∈ S, l.length = w
  can : ∀ l ∈ S, Can p l
  lead : ∀ l ∈ S, ∃ L, leadL l = some L
  dl : Dl (lns K S)
/-- kept by sums and multiples -/
structure Lin (P : (Nat → K) → Prop) : Prop where
  add : ∀ u v a, P u → P v → P (fun c => u c + a * v c)
  mul : ∀ u a, P u → P (fun c => a * u c)
structure Spec (p w : Nat) (U S : List (List Int)) : Prop where
  sys : SysOk K p w S
  gen : ∀ u ∈ U, ∀ c, comb (lns K S) (cv K u) c = cv K u c
  lin : ∀ P : (Nat → K) → Prop, Lin K P → (∀ u ∈ U, P (cv K u)) → ∀ l ∈ S, P (cv K l)
end
def restL (p : Nat) (S : List (List Int)) (row : List Int) : List Int := S.foldl (fun r l => if r.getD ((leadL l).getD 0) 0 ≠ 0 then plusL p r l (-(r.getD ((leadL l).getD 0) 0)) else r) row
def freeL (p : Nat) (a : Nat) (h : List Int) (S : List (List Int)) : List (List Int) := S.map fun l => plusL p l h (-(l.getD a 0))
def withL (p : Nat) (inv : Int → Int) (S : List (List Int)) (row : List Int) : List (List Int) := match leadL (restL p S row) with
  | none => S
  | some L =>
    let h := scaleL p (inv ((restL p S row).getD L 0)) (restL p S row)
    let lines := freeL p L h S
    let k := (lines.filter fun l => decide ((leadL l).getD 0 < L)).length
    lines.take k ++ h :: lines.drop k
def reducedL (p : Nat) (inv : Int → Int) (rows : List (List Int)) : List (List Int) := rows.foldl (withL p inv) []
section
variable {K : Type} [CommRing K] {p : Nat} [IsCharP K p]
theorem rest_spec (hp : 0 < p) {w : Nat} : ∀ {S : List (List Int)} {row : List Int}, (∀ l ∈ S, l.length = w) → row.length = w → Can p row → (restL p S row).length = w ∧ Can p (restL p S row) ∧ cv K (restL p S row) = elimS (lns K S) (cv K row)
  | [], row, _, hl, hc => ⟨hl, hc, rfl⟩
  | l :: S, row, hS, hl, hc => by
    have h1 := hS l List.mem_cons_self
    have hS' : ∀ l ∈ S, l.length = w := fun q hq => hS q (List.mem_cons_of_mem _ hq)
    show (restL p S (if row.getD ((leadL l).getD 0) 0 ≠ 0 then plusL p row l (-(row.getD ((leadL l).getD 0) 0)) else row)).length = w ∧ _
    by_cases z : row.getD ((leadL l).getD 0) 0 = 0
    · rw [show restL p (l :: S) row = restL p S row from congrArg (restL p S) (if_neg (not_not_intro z)), if_neg (not_not_intro z)]
      obtain ⟨e1, e2, e3⟩ := rest_spec hp hS' hl hc
      refine ⟨e1, e2, e3.trans ?_⟩
      show elimS (lns K S) (cv K row) = elimS (lns K S) (fun c => cv K row c - cv K row ((leadL l).getD 0) * cv K l c)
      congr 1
      funext c
      have : cv K row ((leadL l).getD 0) = 0 := by
        unfold cv
        rw [z]
        exact ci_zero
      rw [this]; grind
    · rw [show restL p (l :: S) row = restL p S (plusL p row l (-(row.getD ((leadL l).getD 0) 0))) from congrArg (restL p S) (if_pos z), if_pos z]
      have hl2 : row.length = l.length := by rw [hl, h1]
      obtain ⟨e1, e2, e3⟩ := rest_spec hp hS' (row := plusL p row l (-(row.getD ((leadL l).getD 0) 0))) (by rw [plus_len hl2, hl]) (can_plus hp)
      refine ⟨e1, e2, e3.trans ?_⟩
      show elimS (lns K S) (cv K (plusL p row l (-(row.getD ((leadL l).getD 0) 0)))) = elimS (lns K S) (fun c => cv K row c - cv K row ((leadL l).getD 0) * cv K l c)
      congr 1
      rw [cv_plus hl2]
      funext c
      rw [ci_neg]
      show cv K row c + -cv K row ((leadL l).getD 0) * cv K l c = _
      grind
/-- the lines' leads stay when a line is put in -/
theorem free_spec (hp : 0 < p) {w a : Nat} {h : List Int} {S : List (List Int)} (s : SysOk K p w S) (hl : h.length = w) (hc : Can p h) (ha : cv K h a = 1) (hlt : ∀ i, i < a → cv K h i = 0) (h0 : ∀ l ∈ S, cv K h ((leadL l).getD 0) = 0) :
    lns K (freeL p a h S) = upd a (cv K h) (lns K S) ∧ SysOk K p w (freeL p a h S) ∧ ∀ l ∈ freeL p a h S, cv K l a = 0 ∧ cv K h ((leadL l).getD 0) = 0 := by
  have key : ∀ l ∈ S, (plusL p l h (-(l.getD a 0))).length = w ∧ leadL (plusL p l h (-(l.getD a 0))) = leadL l ∧ cv K (plusL p l h (-(l.getD a 0))) = fun c => cv K l c - cv K l a * cv K h c := fun l hlS => by
    have e : l.length = h.length := by rw [s.len l hlS, hl]
    have ec : cv K (plusL p l h (-(l.getD a 0))) = fun c => cv K l c - cv K l a * cv K h c := by
      rw [cv_plus e]
      funext c
      rw [ci_neg]
      show cv K l c + -cv K l a * cv K h c = _
      grind
    have elen : (plusL p l h (-(l.getD a 0))).length = w := by rw [plus_len e, s.len l hlS]
    refine ⟨elen, ?_, ec⟩
    obtain ⟨L, hL⟩ := s.lead l hlS
    obtain ⟨k1, k2, k3⟩ := (lead_cv (K := K) (s.can l hlS)).mp hL
    have hhL : cv K h L = 0 := by have := h0 l hlS; rwa [hL] at this
    rw [hL]
    refine (lead_cv (K := K) (can_plus hp)).mpr ⟨by rw [elen, ← s.len l hlS]; exact k1, ?_, fun i hi => ?_⟩
    · rw [ec]
      show cv K l L - cv K l a * cv K h L ≠ 0
      rw [hhL]
      intro z
      apply k2
      grind
    · rw [ec]
      show cv K l i - cv K l a * cv K h i = 0
      rw [k3 i hi]
      by_cases z : i < a
      · rw [hlt i z]; grind
      · rw [k3 a (by omega)]; grind
  have e1 : lns K (freeL p a h S) = upd a (cv K h) (lns K S) := by
    unfold lns freeL upd
    rw [List.map_map, List.map_map]
    refine List.map_congr_left fun l hlS => ?_
    obtain ⟨_, k2, k3⟩ := key l hlS
    show ((leadL (plusL p l h (-(l.getD a 0)))).getD 0, cv K (plusL p l h (-(l.getD a 0)))) = ((leadL l).getD 0, fun c => cv K l c - cv K l a * cv K h c)
    rw [k2, k3]
  have hd := dl_upd (a := a) (h := cv K h) (lns K S) s.dl ha fun t ht => by
    obtain ⟨l, hlS, rfl⟩ := List.mem_map.mp ht
    exact h0 l hlS
  refine ⟨e1, ⟨fun l hl' => ?_, fun l hl' => ?_, fun l hl' => ?_, by rw [e1]; exact hd.1⟩, fun l hl' => ?_⟩
  · obtain ⟨q, hq, rfl⟩ := List.mem_map.mp hl'
    exact (key q hq).1
  · obtain ⟨q, hq, rfl⟩ := List.mem_map.mp hl'
    exact can_plus hp
  · obtain ⟨q, hq, rfl⟩ := List.mem_map.mp hl'
    rw [(key q hq).2.1]
    exact s.lead q hq
  · exact hd.2 (toLn K l) (by rw [← e1]; exact List.mem_map.mpr ⟨l, hl', rfl⟩)
end
end TRM

/-! Both eliminations give systems; both solvers. Plain Lean. -/
namespace TRM
open Lean.Grind
section
variable {K : Type} [CommRing K] {p : Nat} [IsCharP K p]
theorem Lin.comb {P : (Nat → K) → Prop} (l : Lin K P) (u : Nat → K) : ∀ {R : List (Ln K)} {v : Nat → K} {a : K}, (∀ t ∈ R, P t.2) → P v → P (fun c => v c + a * comb R u c)
  | [], v, a, _, hv => by
    have : (fun c => v c + a * TRM.comb [] u c) = v := by funext c; show v c + a * 0 = v c; grind
    rw [this]; exact hv
  | t :: R, v, a, h, hv => by
    have := Lin.comb (a := a) l u (fun s hs => h s (List.mem_cons_of_mem _ hs)) (l.add v t.2 (a * u t.1) hv (h t List.mem_cons_self))
    have e : (fun c => v c + a * TRM.comb (t :: R) u c) = fun c => (v c + a * u t.1 * t.2 c) + a * TRM.comb R u c := by
      funext c
      show v c + a * (u t.1 * t.2 c + TRM.comb R u c) = _
      grind
    rw [e]; exact this
theorem Lin.elim {P : (Nat → K) → Prop} (l : Lin K P) : ∀ {R : List (Ln K)} {u : Nat → K}, (∀ t ∈ R, P t.2) → P u → P (elimS R u)
  | [], _, _, hu => hu
  | t :: R, u, h, hu => by
    refine Lin.elim l (R := R) (fun s hs => h s (List.mem_cons_of_mem _ hs)) ?_
    have := l.add u t.2 (-(u t.1)) hu (h t List.mem_cons_self)
    have e : (fun c => u c - u t.1 * t.2 c) = fun c => u c + -(u t.1) * t.2 c := by funext c; grind
    rw [e]; exact this
theorem comb_perm (u : Nat → K) (c : Nat) {R S : List (Ln K)} (h : R.Perm S) : comb R u c = comb S u c := by
  induction h with
  | nil => rfl
  | cons t _ ih => show u t.1 * t.2 c + _ = u t.1 * t.2 c + _; rw [ih]
  | swap s t R => show u t.1 * t.2 c + (u s.1 * s.2 c + comb R u c) = u s.1 * s.2 c + (u t.1 * t.2 c + comb R u c); grind
  | trans _ _ h1 h2 => exact h1.trans h2
theorem dl_perm {R S : List (Ln K)} (h : R.Perm S) (d : Dl R) : Dl S := ⟨fun t ht => d.one t (h.mem_iff.mpr ht), (h.pairwise_iff (fun {a b} z => ⟨z.2, z.1⟩)).mp d.off⟩
theorem put_perm {α : Type} (k : Nat) (x : α) (l : List α) : (l.take k ++ x :: l.drop k).Perm (x :: l) := by
  have := List.perm_middle (a := x) (l₁ := l.take k) (l₂ := l.drop k)
  rwa [List.take_append_drop] at this
/-- a new line, put anywhere -/
theorem put_spec {w : Nat} {U S S' : List (List Int)} {h row : List Int} {a : Nat} (hp : 0 < p) (s : SysOk K p w S) (hl : h.length = w) (hc : Can p h) (hL : leadL h = some a) (ha : cv K h a = 1) (h0 : ∀ l ∈ S, cv K h ((leadL l).getD 0) = 0)
    (hS' : S'.Perm (h :: freeL p a h S)) :
    SysOk K p w S' ∧ ∀ u c, comb (lns K S') u c = comb (lns K S) u c - comb (lns K S) u a * cv K h c + u a * cv K h c := by
  obtain ⟨k1, k2, k3⟩ := (lead_cv (K := K) hc).mp hL
  obtain ⟨e1, e2, e3⟩ := free_spec hp s hl hc ha k3 h0
  have hd : Dl (lns K (h :: freeL p a h S)) := by
    show Dl ((toLn K h) :: lns K (freeL p a h S))
    have eh : toLn K h = (a, cv K h) := by unfold toLn; rw [hL]; rfl
    rw [eh]
    refine ⟨fun t ht => ?_, List.pairwise_cons.mpr ⟨fun t ht => ?_, e2.dl.off⟩⟩
    · rcases List.mem_cons.mp ht with z | z
      · subst z; exact ha
      · exact e2.dl.one t z
    · obtain ⟨l, hl', rfl⟩ := List.mem_map.mp ht
      exact ⟨(e3 l hl').2, (e3 l hl').1⟩
  refine ⟨⟨fun l hl' => ?_, fun l hl' => ?_, fun l hl' => ?_, dl_perm (hS'.symm.map _) hd⟩, fun u c => ?_⟩
  · rcases List.mem_cons.mp (hS'.mem_iff.mp hl') with z | z
    · rw [z]; exact hl
    · exact e2.len l z
  · rcases List.mem_cons.mp (hS'.mem_iff.mp hl') with z | z
    · rw [z]; exact hc
    · exact e2.can l z
  · rcases List.mem_cons.mp (hS'.mem_iff.mp hl') with z | z
    · rw [z]; exact ⟨a, hL⟩
    · exact e2.lead l z
  · rw [comb_perm u c (hS'.map _)]
    show u (toLn K h).1 * cv K h c + comb (lns K (freeL p a h S)) u c = _
    rw [e1, comb_upd, show (toLn K h).1 = a by unfold toLn; rw [hL]; rfl]
    grind
theorem put_lin {w a : Nat} {S S' : List (List Int)} {h : List Int} {P : (Nat → K) → Prop} (l : Lin K P) (s : SysOk K p w S) (hl : h.length = w) (hS' : S'.Perm (h :: freeL p a h S)) (hS : ∀ l ∈ S, P (cv K l)) (hh : P (cv K h)) : ∀ l ∈ S', P (cv K l) := fun q hq => by
  rcases List.mem_cons.mp (hS'.mem_iff.mp hq) with z | z
  · rw [z]; exact hh
  · obtain ⟨q0, h0, rfl⟩ := List.mem_map.mp z
    rw [cv_plus (by rw [s.len q0 h0, hl])]
    exact l.add _ _ _ (hS q0 h0) hh
/-- one's inverse -/
abbrev Inv (K : Type) [CommRing K] (p : Nat) (inv : Int → Int) : Prop := ∀ x : Int, 0 < x → x < (p : Int) → ci K (inv x) * ci K x = 1
theorem with_spec (hp : 0 < p) {inv : Int → Int} (hi : Inv K p inv) (h01 : (1 : K) ≠ 0) {w : Nat} {U S : List (List Int)} {row : List Int} (s : Spec K p w U S) (hl : row.length = w) (hc : Can p row) : Spec K p w (U ++ [row]) (withL p inv S row) := by
  obtain ⟨r1, r2, r3⟩ := rest_spec (K := K) hp s.sys.len hl hc
  have rest_at : ∀ c, cv K (restL p S row) c = cv K row c - comb (lns K S) (cv K row) c := fun c => by rw [r3, elim_eq s.sys.dl]
  have rest0 : ∀ l ∈ S, cv K (restL p S row) ((leadL l).getD 0) = 0 := fun l hlS => by
    rw [r3]
    exact elim_lead s.sys.dl _ (List.mem_map.mpr ⟨l, hlS, rfl⟩)
  have restP : ∀ P : (Nat → K) → Prop, Lin K P → (∀ l ∈ S, P (cv K l)) → P (cv K row) → P (cv K (restL p S row)) := fun P l h1 h2 => by
    rw [r3]
    refine l.elim (fun t ht => ?_) h2
    obtain ⟨q, hq, rfl⟩ := List.mem_map.mp ht
    exact h1 q hq
  unfold withL
  cases e : leadL (restL p S row) with
  | none =>
    refine ⟨s.sys, fun u hu c => ?_, fun P l hP => s.lin P l fun u hu => hP u (List.mem_append_left _ hu)⟩
    rcases List.mem_append.mp hu with hu | hu
    · exact s.gen u hu c
    · rw [List.mem_singleton.mp hu]
      have z := lead_none (K := K) e c
      rw [rest_at] at z
      grind
  | some L =>
    dsimp only
    obtain ⟨k1, k2, k3⟩ := (lead_cv (K := K) r2).mp e
    obtain ⟨hL, n0, _⟩ := lead_some e
    have hcan := r2 _ (List.getElem_mem hL)
    have hx : (restL p S row).getD L 0 = (restL p S row)[L] := by rw [List.getD_eq_getElem?_getD, List.getElem?_eq_getElem hL]; rfl
    have hiv : ci K (inv ((restL p S row).getD L 0)) * cv K (restL p S row) L = 1 := by
      rw [cv_at hL, hx]
      exact hi _ (by omega) hcan.2
    generalize hh : scaleL p (inv ((restL p S row).getD L 0)) (restL p S row) = h
    have ch : ∀ c, cv K h c = ci K (inv ((restL p S row).getD L 0)) * cv K (restL p S row) c := fun c => by rw [← hh, cv_scale]
    have hlen : h.length = w := by rw [← hh, scale_len, r1]
    have hcan' : Can p h := by rw [← hh]; exact can_scale hp
    have ha : cv K h L = 1 := by rw [ch, hiv]
    have hlead : leadL h = some L := (lead_cv (K := K) hcan').mpr ⟨by rw [hlen, ← r1]; exact hL, by rw [ha]; exact h01, fun i hi' => by rw [ch, k3 i hi']; grind⟩
    have h0 : ∀ l ∈ S, cv K h ((leadL l).getD 0) = 0 := fun l hlS => by rw [ch, rest0 l hlS]; grind
    have pm := put_perm (((freeL p L h S).filter fun l => decide ((leadL l).getD 0 < L)).length) h (freeL p L h S)
    obtain ⟨q1, q2⟩ := put_spec (U := U) (row := row) hp s.sys hlen hcan' hlead ha h0 pm
    refine ⟨q1, fun u hu c => ?_, fun P l hP => put_lin l s.sys hlen pm (s.lin P l fun u hu => hP u (List.mem_append_left _ hu)) ?_⟩
    · rw [q2]
      rcases List.mem_append.mp hu with hu | hu
      · rw [s.gen u hu, s.gen u hu]; grind
      · rw [List.mem_singleton.mp hu]
        have z1 := rest_at c
        have z2 := rest_at L
        have z3 := ch c
        grind
    · have := restP P l (s.lin P l fun u hu => hP u (List.mem_append_left _ hu)) (hP row (List.mem_append_right _ List.mem_cons_self))
      rw [show cv K h = fun c => ci K (inv ((restL p S row).getD L 0)) * cv K (restL p S row) c from funext ch]
      exact l.mul _ _ this
theorem reduced_spec (hp : 0 < p) {inv : Int → Int} (hi : Inv K p inv) (h01 : (1 : K) ≠ 0) {w : Nat} : ∀ {rows U S : List (List Int)}, Spec K p w U S → (∀ r ∈ rows, r.length = w ∧ Can p r) → Spec K p w (U ++ rows) (rows.foldl (withL p inv) S)
  | [], U, S, s, _ => by rw [List.append_nil]; exact s
  | r :: rows, U, S, s, h => by
    have := reduced_spec hp hi h01 (rows := rows) (with_spec hp hi h01 s (h r List.mem_cons_self).1 (h r List.mem_cons_self).2) fun q hq => h q (List.mem_cons_of_mem _ hq)
    rw [List.append_assoc] at this
    exact this
theorem spec_nil {w : Nat} : Spec K p w [] [] := ⟨⟨by simp, by simp, by simp, ⟨by simp, .nil⟩⟩, by simp, by simp⟩
theorem reduced_ok (hp : 0 < p) {inv : Int → Int} (hi : Inv K p inv) (h01 : (1 : K) ≠ 0) {w : Nat} {rows : List (List Int)} (h : ∀ r ∈ rows, r.length = w ∧ Can p r) : Spec K p w rows (reducedL p inv rows) := reduced_spec hp hi h01 spec_nil h
end
end TRM

/-! The law's column-wise elimination; both solvers. Plain Lean. -/
namespace TRM
open Lean.Grind
def stepL (p : Nat) (inv : Int → Int) (a : Nat) (st : List (List Int) × List (List Int)) : List (List Int) × List (List Int) := match st.1.filter fun r => decide (r.getD a 0 ≠ 0) with
  | [] => st
  | r :: _ =>
    let h := scaleL p (inv (r.getD a 0)) r
    (freeL p a h st.1, freeL p a h st.2 ++ [h])
def lawRun (p : Nat) (inv : Int → Int) (w : Nat) (rows : List (List Int)) : List (List Int) × List (List Int) := (List.range w).foldl (fun st a => stepL p inv a st) (rows, [])
def lawRedL (p : Nat) (inv : Int → Int) (w : Nat) (rows : List (List Int)) : List (List Int) := (lawRun p inv w rows).2
abbrev ldD (l : List Int) : Nat := (leadL l).getD 0
section
variable (K : Type) [CommRing K]
structure LawInv (p w k : Nat) (U left found : List (List Int)) : Prop where
  sys : SysOk K p w found
  len : left.length = U.length
  shape : ∀ l ∈ left, l.length = w ∧ Can p l
  rel : ∀ (i : Nat) (h1 : i < U.length) (h2 : i < left.length), ∀ c, cv K left[i] c = cv K U[i] c - comb (lns K found) (cv K U[i]) c
  zero : ∀ l ∈ left, ∀ c, c < k → cv K l c = 0
  asc : (found.map ldD).Pairwise (· < ·)
  below : ∀ l ∈ found, ldD l < k
  lin : ∀ P : (Nat → K) → Prop, Lin K P → (∀ u ∈ U, P (cv K u)) → (∀ l ∈ found, P (cv K l)) ∧ ∀ l ∈ left, P (cv K l)
end
section
variable {K : Type} [CommRing K] {p : Nat} [IsCharP K p]
theorem law_step (hp : 0 < p) {inv : Int → Int} (hi : Inv K p inv) (h01 : (1 : K) ≠ 0) {w k : Nat} (hk : k < w) {U left found : List (List Int)} (s : LawInv K p w k U left found) : LawInv K p w (k + 1) U (stepL p inv k (left, found)).1 (stepL p inv k (left, found)).2 := by
  unfold stepL
  cases e : (left.filter fun r => decide (r.getD k 0 ≠ 0)) with
  | nil =>
    refine ⟨s.sys, s.len, s.shape, s.rel, fun l hl c hc => ?_, s.asc, fun l hl => Nat.lt_succ_of_lt (s.below l hl), s.lin⟩
    by_cases z : c < k
    · exact s.zero l hl c z
    · have : c = k := by omega
      subst this
      have := List.filter_eq_nil_iff.mp e l hl
      unfold cv
      rw [show l.getD c 0 = 0 by simpa using this]
      exact ci_zero
  | cons r rest =>
    dsimp only
    have hr : r ∈ left ∧ r.getD k 0 ≠ 0 := by
      have : r ∈ left.filter fun r => decide (r.getD k 0 ≠ 0) := by rw [e]; exact List.mem_cons_self
      obtain ⟨h1, h2⟩ := List.mem_filter.mp this
      exact ⟨h1, by simpa using h2⟩
    obtain ⟨rl, rc⟩ := s.shape r hr.1
    have hkr : k < r.length := by rw [rl]; exact hk
    have hx : r.getD k 0 = r[k] := by rw [List.getD_eq_getElem?_getD, List.getElem?_eq_getElem hkr]; rfl
    have hcan := rc _ (List.getElem_mem hkr)
    have hne : r[k] ≠ 0 := by rw [← hx]; exact hr.2
    have hiv : ci K (inv (r.getD k 0)) * cv K r k = 1 := by
      rw [cv_at hkr, hx]
      exact hi _ (by omega) hcan.2
    generalize hh : scaleL p (inv (r.getD k 0)) r = h
    have ch : ∀ c, cv K h c = ci K (inv (r.getD k 0)) * cv K r c := fun c => by rw [← hh, cv_scale]
    have hlen : h.length = w := by rw [← hh, scale_len, rl]
    have hcan' : Can p h := by rw [← hh]; exact can_scale hp
    have ha : cv K h k = 1 := by rw [ch, hiv]
    have hlt : ∀ c, c < k → cv K h c = 0 := fun c hc => by rw [ch, s.zero r hr.1 c hc]; grind
    have hlead : leadL h = some k := (lead_cv (K := K) hcan').mpr ⟨by rw [hlen]; exact hk, by rw [ha]; exact h01, hlt⟩
    have h0 : ∀ l ∈ found, cv K h ((leadL l).getD 0) = 0 := fun l hl => hlt _ (s.below l hl)
    have pm : (freeL p k h found ++ [h]).Perm (h :: freeL p k h found) := List.perm_append_singleton h _
    obtain ⟨q1, q2⟩ := put_spec (U := U) (row := r) hp s.sys hlen hcan' hlead ha h0 pm
    obtain ⟨e1, e2, e3⟩ := free_spec hp s.sys hlen hcan' ha hlt h0
    have leads : (freeL p k h found).map ldD = found.map ldD := by
      have := congrArg (List.map Prod.fst) e1
      unfold lns upd at this
      rw [List.map_map, List.map_map, List.map_map] at this
      exact this
    have cvf : ∀ l ∈ left, cv K (plusL p l h (-(l.getD k 0))) = fun c => cv K l c - cv K l k * cv K h c := fun l hl => by
      rw [cv_plus (by rw [(s.shape l hl).1, hlen])]
      funext c
      rw [ci_neg]
      show cv K l c + -cv K l k * cv K h c = _
      grind
    refine ⟨q1, by unfold freeL; rw [List.length_map, s.len], fun l hl => ?_, fun i h1 h2 c => ?_, fun l hl c hc => ?_, ?_, fun l hl => ?_, fun P l hP => ?_⟩
    · obtain ⟨q, hq, rfl⟩ := List.mem_map.mp hl
      exact ⟨by rw [plus_len (by rw [(s.shape q hq).1, hlen]), (s.shape q hq).1], can_plus hp⟩
    · have h3 : i < left.length := by rw [s.len]; exact h1
      have e4 : (freeL p k h left)[i] = plusL p left[i] h (-(left[i].getD k 0)) := List.getElem_map ..
      rw [e4, cvf _ (List.getElem_mem h3), q2]
      have z1 := s.rel i h1 h3 c
      have z2 := s.rel i h1 h3 k
      dsimp only
      rw [z1, z2]
      grind
    · obtain ⟨q, hq, rfl⟩ := List.mem_map.mp hl
      rw [cvf q hq]
      dsimp only
      by_cases z : c < k
      · rw [s.zero q hq c z, hlt c z]; grind
      · have : c = k := by omega
        subst this
        rw [ha]; grind
    · rw [List.map_append, leads]
      refine List.pairwise_append.mpr ⟨s.asc, by simp, fun x hx y hy => ?_⟩
      obtain ⟨l, hl, rfl⟩ := List.mem_map.mp hx
      obtain ⟨l2, hl2, rfl⟩ := List.mem_map.mp hy
      rw [List.mem_singleton.mp hl2]
      have := s.below l hl
      unfold ldD
      rw [hlead]
      exact this
    · rcases List.mem_append.mp hl with z | z
      · have : ldD l ∈ (freeL p k h found).map ldD := List.mem_map.mpr ⟨l, z, rfl⟩
        rw [leads] at this
        obtain ⟨q, hq, eq⟩ := List.mem_map.mp this
        rw [← eq]
        exact Nat.lt_succ_of_lt (s.below q hq)
      · rw [List.mem_singleton.mp z]
        unfold ldD
        rw [hlead]
        exact Nat.lt_succ_self k
    · obtain ⟨p1, p2⟩ := s.lin P l hP
      have ph : P (cv K h) := by
        rw [show cv K h = fun c => ci K (inv (r.getD k 0)) * cv K r c from funext ch]
        exact l.mul _ _ (p2 r hr.1)
      refine ⟨put_lin l s.sys hlen pm p1 ph, fun q hq => ?_⟩
      obtain ⟨q0, hq0, rfl⟩ := List.mem_map.mp hq
      rw [cv_plus (by rw [(s.shape q0 hq0).1, hlen])]
      exact l.add _ _ _ (p2 q0 hq0) ph
theorem law_run (hp : 0 < p) {inv : Int → Int} (hi : Inv K p inv) (h01 : (1 : K) ≠ 0) {w : Nat} {U : List (List Int)} (hU : ∀ u ∈ U, u.length = w ∧ Can p u) : ∀ k, k ≤ w → LawInv K p w k U ((List.range k).foldl (fun st a => stepL p inv a st) (U, [])).1 ((List.range k).foldl (fun st a => stepL p inv a st) (U, [])).2
  | 0, _ => ⟨spec_nil.sys, rfl, hU, fun i h1 h2 c => by show cv K U[i] c = cv K U[i] c - 0; grind, fun l hl c hc => absurd hc (Nat.not_lt_zero c), .nil, by simp, fun P l hP => ⟨by simp, hP⟩⟩
  | k + 1, hk => by
    rw [List.range_succ, List.foldl_append]
    exact law_step hp hi h01 hk (law_run hp hi h01 hU k (by omega))
theorem law_ok (hp : 0 < p) {inv : Int → Int} (hi : Inv K p inv) (h01 : (1 : K) ≠ 0) {w : Nat} {U : List (List Int)} (hU : ∀ u ∈ U, u.length = w ∧ Can p u) :
    Spec K p w U (lawRedL p inv w U) ∧ ((lawRedL p inv w U).map ldD).Pairwise (· < ·) ∧ ∀ l ∈ lawRedL p inv w U, ldD l < w := by
  have s := law_run hp hi h01 hU w (Nat.le_refl w)
  refine ⟨⟨s.sys, fun u hu c => ?_, fun P l hP => (s.lin P l hP).1⟩, s.asc, s.below⟩
  obtain ⟨i, h1, rfl⟩ := List.mem_iff_getElem.mp hu
  have h2 : i < (lawRun p inv w U).1.length := by
    have := s.len
    unfold lawRun
    rw [this]; exact h1
  have r := s.rel i h1 h2 c
  have z : cv K (lawRun p inv w U).1[i] c = 0 := by
    by_cases hc : c < w
    · exact s.zero _ (List.getElem_mem h2) c hc
    · have := (s.shape _ (List.getElem_mem h2)).1
      exact cv_out (Nat.le_trans (Nat.le_of_eq this) (by omega))
  have r2 : cv K (lawRun p inv w U).1[i] c = cv K U[i] c - comb (lns K (lawRedL p inv w U)) (cv K U[i]) c := r
  rw [z] at r2
  grind
end
end TRM

/-! The solvers: an answer solves; where something solves, there is an answer. Plain Lean. -/
namespace TRM
open Lean.Grind
section
variable {K : Type} [CommRing K] {p : Nat} [IsCharP K p]
theorem Lin.zero {P : (Nat → K) → Prop} (l : Lin K P) {u : Nat → K} (h : P u) : P fun _ => 0 := by
  have := l.mul u 0 h
  rwa [show (fun c => 0 * u c) = fun _ => (0 : K) by funext c; grind] at this
theorem Lin.sum {P : (Nat → K) → Prop} (l : Lin K P) (h0 : P fun _ => 0) (z : Nat → K) (v : Nat → Nat → K) : ∀ m : Nat, (∀ i, i < m → P (v i)) → P fun c => sm m fun i => z i * v i c
  | 0, _ => h0
  | m + 1, h => l.add _ _ (z m) (Lin.sum l h0 z v m fun i hi => h i (Nat.lt_succ_of_lt hi)) (h m (Nat.lt_succ_self m))
theorem dl_filter {R : List (Ln K)} (q : Ln K → Bool) (d : Dl R) : Dl (R.filter q) := ⟨fun t ht => d.one t ((List.mem_filter.mp ht).1), d.off.filter q⟩
abbrev left (w : Nat) (S : List (List Int)) : List (List Int) := S.filter fun l => decide (ldD l < w)
theorem lin_comb (R : List (Ln K)) : Lin K fun v => ∀ c, comb R v c = v c := by
  refine ⟨fun u v a hu hv c => ?_, fun u a hu c => ?_⟩
  · have := comb_sub R u v (-a) c
    rw [show (fun c => u c - -a * v c) = fun c => u c + a * v c by funext c; grind] at this
    rw [this, hu, hv]; grind
  · have := comb_sub R (fun _ => 0) u (-a) c
    rw [show (fun c => (0 : K) - -a * u c) = fun c => a * u c by funext c; grind] at this
    rw [this, hu, comb_none fun _ _ => rfl]; grind
section
variable {w m : Nat} {U S : List (List Int)} {rows : Nat → Nat → K} {g : Nat → K}
/-- what a line says: its left part is its right part times the rows -/
def Tell (w m : Nat) (rows : Nat → Nat → K) (v : Nat → K) : Prop := ∀ c, c < w → v c = sm m fun i => v (w + i) * rows i c
theorem tell_lin : Lin K (Tell w m rows) := by
  refine ⟨fun u v a hu hv c hc => ?_, fun u a hu c hc => ?_⟩
  · dsimp only
    rw [hu c hc, hv c hc, ← sm_mul, ← sm_add]
    exact sm_congr fun i _ => by grind
  · dsimp only
    rw [hu c hc, ← sm_mul]
    exact sm_congr fun i _ => by grind
structure Ext (p w m : Nat) (U : List (List Int)) (rows : Nat → Nat → K) : Prop where
  len : U.length = m
  at_ : ∀ i (h : i < U.length) c, cv K U[i] c = if c < w then rows i c else if c = w + i then 1 else 0
theorem ext_tell (e : Ext p w m U rows) : ∀ u ∈ U, Tell w m rows (cv K u) := fun u hu c hc => by
  obtain ⟨i, hi, rfl⟩ := List.mem_iff_getElem.mp hu
  have him : i < m := by rw [← e.len]; exact hi
  rw [e.at_ i hi c, if_pos hc]
  refine (sm_pick (fun j => rows j c) him _ ?_ fun j hj hne => ?_).symm
  · rw [e.at_ i hi (w + i), if_neg (by omega), if_pos rfl]; grind
  · rw [e.at_ i hi (w + j), if_neg (by omega), if_neg (by omega)]; grind
theorem solve_lines (s : Spec K p (w + m) U S) (e : Ext p w m U rows) : ∀ l ∈ S, Tell w m rows (cv K l) := s.lin _ tell_lin (ext_tell e)
abbrev g0 (w : Nat) (g : Nat → K) : Nat → K := fun c => if c < w then g c else 0
abbrev fin (w : Nat) (S : List (List Int)) (g : Nat → K) : Nat → K := elimS (lns K (left w S)) (g0 w g)
theorem left_dl (s : Spec K p (w + m) U S) : Dl (lns K (left w S)) := by
  have : lns K (left w S) = (lns K S).filter fun t => decide (t.1 < w) := by
    unfold lns left
    rw [List.filter_map]
    rfl
  rw [this]
  exact dl_filter _ s.sys.dl
theorem fin_tell (s : Spec K p (w + m) U S) (e : Ext p w m U rows) : ∀ c, c < w → fin w S g c = g c + sm m fun i => fin w S g (w + i) * rows i c := fun c hc => by
  have hq : Tell w m rows (comb (lns K (left w S)) (g0 w g)) := by
    have := Lin.comb (tell_lin (w := w) (m := m) (rows := rows)) (g0 w g) (R := lns K (left w S)) (v := fun _ => 0) (a := 1) (fun t ht => by
      obtain ⟨l, hl, rfl⟩ := List.mem_map.mp ht
      exact solve_lines s e l (List.mem_filter.mp hl).1) (fun c hc => (sm_zero' fun i _ => by grind).symm)
    rwa [show (fun c => (0 : K) + 1 * comb (lns K (left w S)) (g0 w g) c) = comb (lns K (left w S)) (g0 w g) by funext c; grind] at this
  unfold fin
  rw [elim_eq (left_dl s), hq c hc]
  rw [show (fun i => elimS (lns K (left w S)) (g0 w g) (w + i) * rows i c) = fun i => -1 * (comb (lns K (left w S)) (g0 w g) (w + i) * rows i c) by
    funext i
    rw [elim_eq (left_dl s)]
    show (g0 w g (w + i) - _) * _ = _
    rw [show g0 w g (w + i) = 0 from if_neg (by omega)]
    grind]
  rw [sm_mul, show g0 w g c = g c from if_pos hc]
  grind
theorem solve_sound (s : Spec K p (w + m) U S) (e : Ext p w m U rows) (h : ∀ c, c < w → fin w S g c = 0) : ∀ c, c < w → (sm m fun i => -fin w S g (w + i) * rows i c) = g c := fun c hc => by
  have := fin_tell (g := g) s e c hc
  rw [h c hc] at this
  rw [show (fun i => -fin w S g (w + i) * rows i c) = fun i => -1 * (fin w S g (w + i) * rows i c) by funext i; grind, sm_mul]
  grind
theorem solve_full (s : Spec K p (w + m) U S) (e : Ext p w m U rows) {y : Nat → K} (h : ∀ c, c < w → (sm m fun i => y i * rows i c) = g c) : ∀ c, c < w → fin w S g c = 0 := by
  have hv : ∀ i, i < m → ∀ c, comb (lns K S) (fun c => if c < w then rows i c else if c = w + i then 1 else 0) c = (if c < w then rows i c else if c = w + i then 1 else 0 : K) := fun i hi => by
    have hi' : i < U.length := by rw [e.len]; exact hi
    have := s.gen U[i] (List.getElem_mem hi')
    rwa [show cv K U[i] = fun c => if c < w then rows i c else if c = w + i then 1 else 0 from funext (e.at_ i hi')] at this
  have hu := (lin_comb (lns K S)).sum (by exact fun c => comb_none (fun _ _ => rfl) c) (fun i => y i + fin w S g (w + i)) (fun i c => if c < w then rows i c else if c = w + i then 1 else 0) m hv
  have eu : ∀ c, c < w → (sm m fun i => (y i + fin w S g (w + i)) * (if c < w then rows i c else if c = w + i then 1 else 0 : K)) = fin w S g c := fun c hc => by
    rw [fin_tell (g := g) s e c hc, ← h c hc, ← sm_add]
    exact sm_congr fun i _ => by rw [if_pos hc]; grind
  intro c hc
  rw [← eu c hc]
  have := hu c
  dsimp only at this
  rw [← this]
  -- each part is nought
  suffices hz : ∀ R : List (List Int), (∀ l ∈ R, l ∈ S) → comb (lns K R) (fun c => sm m fun i => (y i + fin w S g (w + i)) * (if c < w then rows i c else if c = w + i then 1 else 0 : K)) c = 0 from hz S fun _ h => h
  intro R
  induction R with
  | nil => intro _; rfl
  | cons l R ih =>
    intro hR
    show _ * cv K l c + comb (lns K R) _ c = 0
    rw [ih fun q hq => hR q (List.mem_cons_of_mem _ hq)]
    have hl := hR l List.mem_cons_self
    by_cases z : ldD l < w
    · have : (sm m fun i => (y i + fin w S g (w + i)) * (if ldD l < w then rows i (ldD l) else if ldD l = w + i then 1 else 0 : K)) = 0 := by
        rw [eu _ z]
        exact elim_lead (left_dl s) _ (t := toLn K l) (List.mem_map.mpr ⟨l, List.mem_filter.mpr ⟨hl, decide_eq_true z⟩, rfl⟩)
      show (sm m fun i => (y i + fin w S g (w + i)) * (if ldD l < w then rows i (ldD l) else if ldD l = w + i then 1 else 0 : K)) * cv K l c + 0 = 0
      rw [this]; grind
    · obtain ⟨L, hL⟩ := s.sys.lead l hl
      obtain ⟨_, _, k3⟩ := (lead_cv (K := K) (s.sys.can l hl)).mp hL
      have : ldD l = L := by unfold ldD; rw [hL]; rfl
      rw [k3 c (by omega)]; grind
end
end
end TRM

/-! The solvers on lists. Plain Lean. -/
namespace TRM
open Lean.Grind
def unitL (m k : Nat) : List Int := (List.range m).map fun j => if j = k then 1 else 0
def extL (m : Nat) : Nat → List (List Int) → List (List Int)
  | _, [] => []
  | k, r :: rs => (r ++ unitL m k) :: extL m (k + 1) rs
def lawFold (p w : Nat) (S : List (List Int)) (v : List Int) : List Int := S.foldl (fun v l => if ldD l < w then plusL p v l (-(v.getD (ldD l) 0)) else v) v
def libFold (p w : Nat) (S : List (List Int)) (v : List Int) : List Int := S.foldl (fun v l => if ldD l < w ∧ v.getD (ldD l) 0 ≠ 0 then plusL p v l (-(v.getD (ldD l) 0)) else v) v
def endL (p w : Nat) (f : List Int) : Option (List Int) := if (f.take w).all (fun x => decide (x = 0)) = true then some (scaleL p (-1) (f.drop w)) else none
def lawSolL (p : Nat) (inv : Int → Int) (rows : List (List Int)) (goal : List Int) : Option (List Int) := endL p goal.length (lawFold p goal.length (lawRedL p inv (goal.length + rows.length) (extL rows.length 0 rows)) (goal ++ List.replicate rows.length 0))
def libSolL (p : Nat) (inv : Int → Int) (rows : List (List Int)) (goal : List Int) : Option (List Int) := endL p goal.length (libFold p goal.length (reducedL p inv (extL rows.length 0 rows)) (goal ++ List.replicate rows.length 0))
section
variable {K : Type} [CommRing K] {p : Nat} [IsCharP K p]
theorem ext_len (m : Nat) : ∀ (k : Nat) (rs : List (List Int)), (extL m k rs).length = rs.length
  | _, [] => rfl
  | k, r :: rs => by show (extL m (k + 1) rs).length + 1 = rs.length + 1; rw [ext_len m (k + 1) rs]
theorem ext_get (m : Nat) : ∀ (k : Nat) (rs : List (List Int)) (i : Nat) (h : i < (extL m k rs).length) (h2 : i < rs.length), (extL m k rs)[i] = rs[i] ++ unitL m (k + i)
  | k, r :: rs, 0, _, _ => rfl
  | k, r :: rs, i + 1, h, h2 => by
    have h3 : i < (extL m (k + 1) rs).length := by simpa [extL] using h
    have h4 : i < rs.length := by simpa using h2
    have := ext_get m (k + 1) rs i h3 h4
    show (extL m (k + 1) rs)[i] = rs[i] ++ unitL m (k + (i + 1))
    rw [this, show k + 1 + i = k + (i + 1) by omega]
theorem unit_len (m k : Nat) : (unitL m k).length = m := by unfold unitL; rw [List.length_map, List.length_range]
theorem cv_unit {m k : Nat} (c : Nat) : cv K (unitL m k) c = if c = k ∧ c < m then 1 else 0 := by
  by_cases h : c < m
  · rw [cv_at (by rw [unit_len]; exact h)]
    have : (unitL m k)[c]'(by rw [unit_len]; exact h) = if c = k then 1 else 0 := by simp [unitL]
    rw [this]
    by_cases z : c = k
    · rw [if_pos z, if_pos ⟨z, h⟩]; exact ci_one
    · rw [if_neg z, if_neg (fun q => z q.1)]; exact ci_zero
  · rw [cv_out (by rw [unit_len]; omega), if_neg (fun q => h q.2)]
theorem cv_append (a b : List Int) (c : Nat) : cv K (a ++ b) c = if c < a.length then cv K a c else cv K b (c - a.length) := by
  unfold cv
  by_cases h : c < a.length
  · rw [if_pos h, List.getD_eq_getElem?_getD, List.getD_eq_getElem?_getD, List.getElem?_append_left h]
  · rw [if_neg h, List.getD_eq_getElem?_getD, List.getD_eq_getElem?_getD, List.getElem?_append_right (by omega)]
theorem can_append {a b : List Int} (ha : Can p a) (hb : Can p b) : Can p (a ++ b) := fun x hx => (List.mem_append.mp hx).elim (ha x) (hb x)
theorem can_unit (hp : 1 < p) {m k : Nat} : Can p (unitL m k) := fun x hx => by
  obtain ⟨j, _, rfl⟩ := List.mem_map.mp hx
  by_cases z : j = k
  · rw [if_pos z]; omega
  · rw [if_neg z]; omega
theorem cv_zeros (n c : Nat) : cv K (List.replicate n 0) c = 0 := by
  by_cases h : c < (List.replicate n (0 : Int)).length
  · rw [cv_at h, List.getElem_replicate]
    exact ci_zero
  · exact cv_out (by omega)
theorem lawFold_spec (hp : 0 < p) {w n : Nat} : ∀ {S : List (List Int)} {v : List Int}, (∀ l ∈ S, l.length = n) → v.length = n → Can p v → (lawFold p w S v).length = n ∧ Can p (lawFold p w S v) ∧ cv K (lawFold p w S v) = elimS (lns K (left w S)) (cv K v)
  | [], v, _, hl, hc => ⟨hl, hc, rfl⟩
  | l :: S, v, hS, hl, hc => by
    have h1 := hS l List.mem_cons_self
    have hS' : ∀ l ∈ S, l.length = n := fun q hq => hS q (List.mem_cons_of_mem _ hq)
    have hl2 : v.length = l.length := by rw [hl, h1]
    by_cases z : ldD l < w
    · rw [show lawFold p w (l :: S) v = lawFold p w S (plusL p v l (-(v.getD (ldD l) 0))) from congrArg (lawFold p w S) (if_pos z)]
      obtain ⟨e1, e2, e3⟩ := lawFold_spec hp hS' (v := plusL p v l (-(v.getD (ldD l) 0))) (by rw [plus_len hl2, hl]) (can_plus hp)
      refine ⟨e1, e2, e3.trans ?_⟩
      rw [show left w (l :: S) = l :: left w S from List.filter_cons_of_pos (decide_eq_true z)]
      show _ = elimS (lns K (left w S)) (fun c => cv K v c - cv K v (ldD l) * cv K l c)
      congr 1
      rw [cv_plus hl2]
      funext c
      rw [ci_neg]
      show cv K v c + -cv K v (ldD l) * cv K l c = _
      grind
    · rw [show lawFold p w (l :: S) v = lawFold p w S v from congrArg (lawFold p w S) (if_neg z)]
      rw [show left w (l :: S) = left w S from List.filter_cons_of_neg (by simpa using z)]
      exact lawFold_spec hp hS' hl hc
theorem libFold_spec (hp : 0 < p) {w n : Nat} : ∀ {S : List (List Int)} {v : List Int}, (∀ l ∈ S, l.length = n) → v.length = n → Can p v → (libFold p w S v).length = n ∧ Can p (libFold p w S v) ∧ cv K (libFold p w S v) = elimS (lns K (left w S)) (cv K v)
  | [], v, _, hl, hc => ⟨hl, hc, rfl⟩
  | l :: S, v, hS, hl, hc => by
    have h1 := hS l List.mem_cons_self
    have hS' : ∀ l ∈ S, l.length = n := fun q hq => hS q (List.mem_cons_of_mem _ hq)
    have hl2 : v.length = l.length := by rw [hl, h1]
    by_cases z : ldD l < w
    · rw [show left w (l :: S) = l :: left w S from List.filter_cons_of_pos (decide_eq_true z)]
      by_cases z2 : v.getD (ldD l) 0 = 0
      · rw [show libFold p w (l :: S) v = libFold p w S v from congrArg (libFold p w S) (if_neg fun q => q.2 z2)]
        obtain ⟨e1, e2, e3⟩ := libFold_spec hp hS' hl hc
        refine ⟨e1, e2, e3.trans ?_⟩
        show _ = elimS (lns K (left w S)) (fun c => cv K v c - cv K v (ldD l) * cv K l c)
        congr 1
        funext c
        have : cv K v (ldD l) = 0 := by
          unfold cv
          rw [z2]
          exact ci_zero
        rw [this]; grind
      · rw [show libFold p w (l :: S) v = libFold p w S (plusL p v l (-(v.getD (ldD l) 0))) from congrArg (libFold p w S) (if_pos ⟨z, z2⟩)]
        obtain ⟨e1, e2, e3⟩ := libFold_spec hp hS' (v := plusL p v l (-(v.getD (ldD l) 0))) (by rw [plus_len hl2, hl]) (can_plus hp)
        refine ⟨e1, e2, e3.trans ?_⟩
        show _ = elimS (lns K (left w S)) (fun c => cv K v c - cv K v (ldD l) * cv K l c)
        congr 1
        rw [cv_plus hl2]
        funext c
        rw [ci_neg]
        show cv K v c + -cv K v (ldD l) * cv K l c = _
        grind
    · rw [show libFold p w (l :: S) v = libFold p w S v from congrArg (libFold p w S) (if_neg fun q => z q.1)]
      rw [show left w (l :: S) = left w S from List.filter_cons_of_neg (by simpa using z)]
      exact libFold_spec hp hS' hl hc
end
end TRM
namespace TRM
open Lean.Grind
section
variable {K : Type} [CommRing K] {p : Nat} [IsCharP K p]
/-- an answer solves; where something solves, there is an answer -/
structure Solves (K : Type) [CommRing K] (p : Nat) (rows : List (List Int)) (goal : List Int) (res : Option (List Int)) : Prop where
  sound : ∀ x, res = some x → x.length = rows.length ∧ Can p x ∧ ∀ c, c < goal.length → (sm rows.length fun i => cv K x i * cv K (rows.getD i []) c) = cv K goal c
  full : ∀ y : Nat → K, (∀ c, c < goal.length → (sm rows.length fun i => y i * cv K (rows.getD i []) c) = cv K goal c) → ∃ x, res = some x
theorem ext_ok {w : Nat} {rows : List (List Int)} (h : ∀ r ∈ rows, r.length = w) : Ext (K := K) p w rows.length (extL rows.length 0 rows) (fun i => cv K (rows.getD i [])) := by
  refine ⟨ext_len _ _ _, fun i hi c => ?_⟩
  have hi2 : i < rows.length := by rwa [ext_len] at hi
  rw [ext_get rows.length 0 rows i hi hi2, cv_append, h _ (List.getElem_mem hi2), cv_unit]
  rw [show rows.getD i [] = rows[i] by rw [List.getD_eq_getElem?_getD, List.getElem?_eq_getElem hi2]; rfl]
  by_cases z : c < w
  · rw [if_pos z, if_pos z]
  · rw [if_neg z, if_neg z]
    by_cases z2 : c = w + i
    · rw [if_pos z2, if_pos ⟨by omega, by omega⟩]
    · rw [if_neg z2, if_neg (fun q => z2 (by omega))]
theorem end_ok (hp : 1 < p) {rows : List (List Int)} {goal : List Int} (hr : ∀ r ∈ rows, r.length = goal.length) {S : List (List Int)} {f : List Int} (s : Spec K p (goal.length + rows.length) (extL rows.length 0 rows) S)
    (fl : f.length = goal.length + rows.length) (fc : Can p f) (fe : cv K f = elimS (lns K (left goal.length S)) (cv K (goal ++ List.replicate rows.length 0))) : Solves K p rows goal (endL p goal.length f) := by
  have e := ext_ok (K := K) (p := p) hr
  have eg : cv K (goal ++ List.replicate rows.length 0) = g0 goal.length (cv K goal) := by
    funext c
    rw [cv_append, cv_zeros]
  rw [eg] at fe
  have ff : cv K f = fin goal.length S (cv K goal) := fe
  have hz : (f.take goal.length).all (fun x => decide (x = 0)) = true ↔ ∀ c, c < goal.length → fin goal.length S (cv K goal) c = 0 := by
    rw [List.all_eq_true, ← ff]
    constructor
    · intro h c hc
      have hcf : c < f.length := by omega
      rw [cv_at hcf]
      have : f[c] ∈ f.take goal.length := List.mem_iff_getElem.mpr ⟨c, by rw [List.length_take]; omega, by rw [List.getElem_take]⟩
      rw [_root_.of_decide_eq_true (h _ this)]
      exact ci_zero
    · intro h x hx
      obtain ⟨c, hc, rfl⟩ := List.mem_iff_getElem.mp hx
      rw [List.length_take] at hc
      have hcf : c < f.length := by omega
      have := h c (by omega)
      rw [cv_at hcf] at this
      rw [List.getElem_take]
      exact decide_eq_true ((cast_zero (K := K) (fc _ (List.getElem_mem hcf))).mp this)
  have cd : ∀ i, cv K (f.drop goal.length) i = cv K f (goal.length + i) := fun i => by
    unfold cv
    rw [List.getD_eq_getElem?_getD, List.getD_eq_getElem?_getD, List.getElem?_drop]
  unfold endL
  refine ⟨fun x hx => ?_, fun y hy => ?_⟩
  · split at hx
    · rename_i h
      cases hx
      refine ⟨by rw [scale_len, List.length_drop, fl]; omega, can_scale (by omega), fun c hc => ?_⟩
      rw [← solve_sound s e (hz.mp h) c hc]
      refine sm_congr fun i _ => ?_
      rw [cv_scale]
      dsimp only
      rw [cd, ff, ci_neg, ci_one]
      grind
    · cases hx
  · rw [if_pos (hz.mpr (solve_full s e hy))]
    exact ⟨_, rfl⟩
theorem ext_rows (hp : 1 < p) {w : Nat} {rows : List (List Int)} (h : ∀ r ∈ rows, r.length = w ∧ Can p r) : ∀ u ∈ extL rows.length 0 rows, u.length = w + rows.length ∧ Can p u := fun u hu => by
  obtain ⟨i, hi, rfl⟩ := List.mem_iff_getElem.mp hu
  have hi2 : i < rows.length := by rwa [ext_len] at hi
  rw [ext_get rows.length 0 rows i hi hi2]
  obtain ⟨h1, h2⟩ := h _ (List.getElem_mem hi2)
  exact ⟨by rw [List.length_append, unit_len, h1], can_append h2 (can_unit hp)⟩
theorem goal_ok (hp : 1 < p) {goal : List Int} (hg : Can p goal) (m : Nat) : Can p (goal ++ List.replicate m 0) := can_append hg fun x hx => by
  rw [(List.mem_replicate.mp hx).2]
  omega
theorem lawSol_ok (hp : 1 < p) {inv : Int → Int} (hi : Inv K p inv) (h01 : (1 : K) ≠ 0) {rows : List (List Int)} {goal : List Int} (hr : ∀ r ∈ rows, r.length = goal.length ∧ Can p r) (hg : Can p goal) : Solves K p rows goal (lawSolL p inv rows goal) := by
  have s := (law_ok (by omega) hi h01 (ext_rows (p := p) hp hr)).1
  obtain ⟨e1, e2, e3⟩ := lawFold_spec (K := K) (p := p) (by omega) (w := goal.length) s.sys.len (v := goal ++ List.replicate rows.length 0) (by rw [List.length_append, List.length_replicate]) (goal_ok hp hg _)
  exact end_ok hp (fun r h => (hr r h).1) s e1 e2 e3
theorem libSol_ok (hp : 1 < p) {inv : Int → Int} (hi : Inv K p inv) (h01 : (1 : K) ≠ 0) {rows : List (List Int)} {goal : List Int} (hr : ∀ r ∈ rows, r.length = goal.length ∧ Can p r) (hg : Can p goal) : Solves K p rows goal (libSolL p inv rows goal) := by
  have s := reduced_ok (K := K) (by omega) hi h01 (ext_rows (p := p) hp hr)
  obtain ⟨e1, e2, e3⟩ := libFold_spec (K := K) (p := p) (by omega) (w := goal.length) s.sys.len (v := goal ++ List.replicate rows.length 0) (by rw [List.length_append, List.length_replicate]) (goal_ok hp hg _)
  exact end_ok hp (fun r h => (hr r h).1) s e1 e2 e3
end
end TRM

/-! An algebra by its table: product, grouping, one, inverses, powers. Plain Lean. -/
namespace TRM
open Lean.Grind
section
variable {K : Type} [CommRing K] {n : Nat} {T : Nat → Nat → Nat → K}
def mul (n : Nat) (T : Nat → Nat → Nat → K) (x y : Nat → K) : Nat → K := fun k => sm n fun i => x i * sm n fun j => y j * T i j k
/-- the same below n -/
def Eq (n : Nat) (x y : Nat → K) : Prop := ∀ k, k < n → x k = y k
def Assoc (n : Nat) (T : Nat → Nat → Nat → K) : Prop := ∀ i, i < n → ∀ j, j < n → ∀ k, k < n → ∀ l, l < n → (sm n fun m => T i j m * T m k l) = sm n fun m => T j k m * T i m l
def dlt (i j : Nat) : K := if i = j then 1 else 0
structure IsOne (n : Nat) (T : Nat → Nat → Nat → K) (u : Nat → K) : Prop where
  l : ∀ j, j < n → ∀ c, c < n → (sm n fun i => u i * T i j c) = dlt c j
  r : ∀ j, j < n → ∀ c, c < n → (sm n fun i => u i * T j i c) = dlt c j
theorem Eq.refl (x : Nat → K) : Eq n x x := fun _ _ => rfl
theorem Eq.symm {x y : Nat → K} (h : Eq n x y) : Eq n y x := fun k hk => (h k hk).symm
theorem Eq.trans {x y z : Nat → K} (h : Eq n x y) (h2 : Eq n y z) : Eq n x z := fun k hk => (h k hk).trans (h2 k hk)
theorem mul_congr {x x' y y' : Nat → K} (h : Eq n x x') (h2 : Eq n y y') : Eq n (mul n T x y) (mul n T x' y') := fun k _ =>
  sm_congr fun i hi => by rw [h i hi, sm_congr fun j hj => by rw [h2 j hj]]
theorem sw (m : Nat) (x A : Nat → K) (B : Nat → Nat → K) : (sm n fun k => (sm m fun i => x i * B i k) * A k) = sm m fun i => x i * sm n fun k => B i k * A k := by
  rw [show (fun k => (sm m fun i => x i * B i k) * A k) = fun k => sm m fun i => x i * (B i k * A k) by
    funext k
    rw [← sm_mulr]
    congr 1
    funext i
    grind]
  rw [sm_comm]
  congr 1
  funext i
  rw [sm_mul]
theorem mul_assoc (h : Assoc n T) (x y z : Nat → K) : Eq n (mul n T (mul n T x y) z) (mul n T x (mul n T y z)) := fun l hl => by
  show (sm n fun m => (sm n fun i => x i * sm n fun j => y j * T i j m) * sm n fun k => z k * T m k l) = sm n fun i => x i * sm n fun m => (sm n fun j => y j * sm n fun k => z k * T j k m) * T i m l
  rw [sw]
  refine sm_congr fun i hi => ?_
  congr 1
  rw [sw, sw]
  refine sm_congr fun j hj => ?_
  congr 1
  rw [sw]
  rw [show (fun m => T i j m * sm n fun k => z k * T m k l) = fun m => (sm n fun k => z k * T m k l) * T i j m by funext m; grind, sw]
  refine sm_congr fun k hk => ?_
  congr 1
  rw [← h i hi j hj k hk l hl]
  exact sm_congr fun m _ => by grind
theorem dlt_sum {x : Nat → K} {c : Nat} (hc : c < n) : (sm n fun j => x j * dlt c j) = x c := sm_pick x hc _ (by unfold dlt; rw [if_pos rfl]; grind) fun i _ hne => by unfold dlt; rw [if_neg (fun z => hne z.symm)]; grind
theorem one_mul {u : Nat → K} (h : IsOne n T u) (x : Nat → K) : Eq n (mul n T u x) x := fun c hc => by
  show (sm n fun i => u i * sm n fun j => x j * T i j c) = x c
  rw [show (fun i => u i * sm n fun j => x j * T i j c) = fun i => (sm n fun j => x j * T i j c) * u i by funext i; grind, sw]
  rw [← dlt_sum (x := x) hc]
  refine sm_congr fun j hj => ?_
  rw [← h.l j hj c hc]
  congr 1
  exact sm_congr fun i _ => by grind
theorem mul_one {u : Nat → K} (h : IsOne n T u) (x : Nat → K) : Eq n (mul n T x u) x := fun c hc => by
  show (sm n fun i => x i * sm n fun j => u j * T i j c) = x c
  rw [← dlt_sum (x := x) hc]
  refine sm_congr fun j hj => ?_
  rw [h.r j hj c hc]
theorem one_uniq {u v : Nat → K} (hu : IsOne n T u) (hv : IsOne n T v) : Eq n u v := (mul_one hv u).symm.trans (one_mul hu v)
theorem mul_add (x y z : Nat → K) : Eq n (mul n T x (fun c => y c + z c)) (fun c => mul n T x y c + mul n T x z c) := fun k _ => by
  show (sm n fun i => x i * sm n fun j => (y j + z j) * T i j k) = (sm n fun i => x i * sm n fun j => y j * T i j k) + sm n fun i => x i * sm n fun j => z j * T i j k
  rw [← sm_add]
  refine sm_congr fun i _ => ?_
  rw [show (fun j => (y j + z j) * T i j k) = fun j => y j * T i j k + z j * T i j k by funext j; grind, sm_add]
  grind
/-! ### powers -/
def pw (n : Nat) (T : Nat → Nat → Nat → K) (u x : Nat → K) : Nat → (Nat → K)
  | 0 => u
  | e + 1 => mul n T (pw n T u x e) x
section
variable {u : Nat → K} (ha : Assoc n T) (hu : IsOne n T u)
include ha hu
theorem pw_add (x : Nat → K) (a : Nat) : ∀ b : Nat, Eq n (pw n T u x (a + b)) (mul n T (pw n T u x a) (pw n T u x b))
  | 0 => (mul_one hu _).symm
  | b + 1 => (mul_congr (pw_add x a b) (Eq.refl x)).trans (mul_assoc ha _ _ _)
theorem pw_one (x : Nat → K) : Eq n (pw n T u x 1) x := one_mul hu x
theorem pw_congr {x y : Nat → K} (h : Eq n x y) : ∀ e : Nat, Eq n (pw n T u x e) (pw n T u y e)
  | 0 => Eq.refl _
  | e + 1 => mul_congr (pw_congr h e) h
theorem pw_sq (x : Nat → K) : ∀ e : Nat, Eq n (pw n T u (mul n T x x) e) (pw n T u x (e + e))
  | 0 => Eq.refl _
  | e + 1 => by
    have h1 := mul_congr (T := T) (pw_sq x e) (Eq.refl (mul n T x x))
    have h2 := mul_assoc ha (pw n T u x (e + e)) x x
    rw [show e + 1 + (e + 1) = e + e + 1 + 1 by omega]
    exact h1.trans h2.symm
/-- one step of the way by squares: what is found times the rest's power stays -/
theorem pw_step (f x : Nat → K) (e : Nat) : Eq n (mul n T f (pw n T u x (2 * e))) (mul n T f (pw n T u (mul n T x x) e)) := by
  rw [show 2 * e = e + e by omega]
  exact mul_congr (Eq.refl f) (pw_sq ha hu x e).symm
theorem pw_odd (f x : Nat → K) (e : Nat) : Eq n (mul n T f (pw n T u x (e + 1))) (mul n T (mul n T f x) (pw n T u x e)) := by
  have h1 : Eq n (pw n T u x (e + 1)) (mul n T x (pw n T u x e)) := by
    have := pw_add ha hu x 1 e
    rw [Nat.add_comm] at this
    exact this.trans (mul_congr (pw_one ha hu x) (Eq.refl _))
  exact (mul_congr (Eq.refl f) h1).trans (mul_assoc ha f x _).symm
/-! ### inverses -/
theorem pw_comm (x : Nat → K) (a b : Nat) : Eq n (mul n T (pw n T u x a) (pw n T u x b)) (mul n T (pw n T u x b) (pw n T u x a)) := by
  have h1 := pw_add ha hu x a b
  have h2 := pw_add ha hu x b a
  rw [Nat.add_comm] at h2
  exact h1.symm.trans h2
theorem inv_pow {x m : Nat → K} (h : Eq n (mul n T x m) u) : ∀ a : Nat, Eq n (mul n T (pw n T u x a) (pw n T u m a)) u
  | 0 => one_mul hu u
  | a + 1 => by
    have h1 : Eq n (pw n T u m (a + 1)) (mul n T m (pw n T u m a)) := by
      have := pw_add ha hu m 1 a
      rw [Nat.add_comm] at this
      exact this.trans (mul_congr (pw_one ha hu m) (Eq.refl _))
    have h2 : Eq n (mul n T (mul n T (pw n T u x a) x) (mul n T m (pw n T u m a))) (mul n T (pw n T u x a) (mul n T (mul n T x m) (pw n T u m a))) :=
      (mul_assoc ha _ _ _).trans (mul_congr (Eq.refl _) (mul_assoc ha x m _).symm)
    have h3 := mul_congr (T := T) (Eq.refl (pw n T u x a)) ((mul_congr (T := T) h (Eq.refl (pw n T u m a))).trans (one_mul hu _))
    exact (mul_congr (Eq.refl _) h1).trans (h2.trans (h3.trans (inv_pow h a)))
/-- a left inverse, powers that come again: m's inverse is a power of m -/
theorem two_sided {x m : Nat → K} (h : Eq n (mul n T x m) u) {a d : Nat} (hr : Eq n (pw n T u m a) (pw n T u m (a + (d + 1)))) : Eq n (mul n T m x) u := by
  have h1 := inv_pow ha hu h a
  have h2 : Eq n u (pw n T u m (d + 1)) := by
    have e1 := mul_congr (T := T) (Eq.refl (pw n T u x a)) (hr.trans (pw_add ha hu m a (d + 1)))
    have e2 := (mul_assoc ha (pw n T u x a) (pw n T u m a) (pw n T u m (d + 1))).symm
    exact h1.symm.trans (e1.trans (e2.trans ((mul_congr h1 (Eq.refl _)).trans (one_mul hu _))))
  have h3 : Eq n (mul n T m (pw n T u m d)) u := by
    have := pw_comm ha hu m 1 d
    exact ((mul_congr (pw_one ha hu m) (Eq.refl _)).symm.trans (this.trans (mul_congr (Eq.refl _) (pw_one ha hu m)))).trans h2.symm
  -- x = x (m m^d) = m^d
  have h4 : Eq n x (pw n T u m d) := by
    have e1 := (mul_one hu x).symm.trans (mul_congr (Eq.refl x) h3.symm)
    have e2 := (mul_assoc ha x m (pw n T u m d)).symm
    exact e1.trans (e2.trans ((mul_congr h (Eq.refl _)).trans (one_mul hu _)))
  exact (mul_congr (Eq.refl m) h4).trans h3
end
/-- the table turned about -/
def op (T : Nat → Nat → Nat → K) : Nat → Nat → Nat → K := fun i j => T j i
theorem op_assoc (h : Assoc n T) : Assoc n (op T) := fun i hi j hj k hk l hl => (h k hk j hj i hi l hl).symm
theorem op_one {u : Nat → K} (h : IsOne n T u) : IsOne n (op T) u := ⟨h.r, h.l⟩
theorem op_mul (x y : Nat → K) (k : Nat) : mul n (op T) x y k = mul n T y x k := by
  show (sm n fun i => x i * sm n fun j => y j * T j i k) = sm n fun i => y i * sm n fun j => x j * T i j k
  rw [show (fun i => x i * sm n fun j => y j * T j i k) = fun i => sm n fun j => x i * (y j * T j i k) by funext i; rw [sm_mul], sm_comm]
  refine sm_congr fun j _ => ?_
  rw [← sm_mul]
  exact sm_congr fun i _ => by grind
end
end TRM

/-! Powers come again; a left inverse is a right inverse. Plain Lean. -/
namespace TRM
open Lean.Grind
theorem pigeon : ∀ (N : Nat) (f : Nat → Nat), (∀ i, i ≤ N → f i < N) → ∃ i j, i < j ∧ j ≤ N ∧ f i = f j
  | 0, f, h => absurd (h 0 (Nat.le_refl 0)) (Nat.not_lt_zero _)
  | N + 1, f, h => by
    by_cases z : ∃ i, i ≤ N ∧ f i = f (N + 1)
    · obtain ⟨i, h1, h2⟩ := z
      exact ⟨i, N + 1, by omega, Nat.le_refl _, h2⟩
    · have nz : ∀ i, i ≤ N → f i ≠ f (N + 1) := fun i hi e => z ⟨i, hi, e⟩
      have hv := h (N + 1) (Nat.le_refl _)
      obtain ⟨i, j, h1, h2, h3⟩ := pigeon N (fun i => if f i = N then f (N + 1) else f i) fun i hi => by
        have a := h i (by omega)
        have b := nz i hi
        split <;> omega
      refine ⟨i, j, h1, by omega, ?_⟩
      have bi := nz i (by omega)
      have bj := nz j h2
      split at h3 <;> split at h3 <;> omega
section
variable {K : Type} [CommRing K] {n : Nat} {T : Nat → Nat → Nat → K}
def code (val : K → Nat) (p : Nat) : Nat → (Nat → K) → Nat
  | 0, _ => 0
  | n + 1, x => code val p n x * p + val (x n)
theorem code_lt {val : K → Nat} {p : Nat} (hv : ∀ a, val a < p) (x : Nat → K) : ∀ n : Nat, code val p n x < p ^ n
  | 0 => Nat.one_pos
  | n + 1 => by
    have h1 := code_lt hv x n
    have h2 := hv (x n)
    have h3 : (code val p n x + 1) * p ≤ p ^ n * p := Nat.mul_le_mul_right p h1
    show code val p n x * p + val (x n) < p ^ n * p
    rw [Nat.add_mul] at h3
    omega
theorem code_inj {val : K → Nat} {p : Nat} (hv : ∀ a, val a < p) (hi : ∀ a b, val a = val b → a = b) {x y : Nat → K} : ∀ n : Nat, code val p n x = code val p n y → Eq n x y
  | 0, _, k, hk => absurd hk (Nat.not_lt_zero k)
  | n + 1, h, k, hk => by
    have h1 := hv (x n)
    have h2 := hv (y n)
    have hp : 0 < p := by omega
    have e : code val p n x * p + val (x n) = code val p n y * p + val (y n) := h
    have e1 : val (x n) = val (y n) := by
      have := congrArg (· % p) e
      simpa [Nat.mul_add_mod_of_lt, Nat.mul_comm, Nat.mul_add_mod, Nat.mod_eq_of_lt h1, Nat.mod_eq_of_lt h2] using this
    have e2 : code val p n x = code val p n y := by
      rw [e1] at e
      exact Nat.eq_of_mul_eq_mul_right hp (by omega)
    by_cases z : k = n
    · rw [z]; exact hi _ _ e1
    · exact code_inj hv hi n e2 k (by omega)
structure Fin' (K : Type) (p : Nat) (val : K → Nat) : Prop where
  lt : ∀ a, val a < p
  inj : ∀ a b, val a = val b → a = b
theorem again {val : K → Nat} {p : Nat} (F : Fin' K p val) (x : Nat → (Nat → K)) : ∃ a d, Eq n (x a) (x (a + (d + 1))) := by
  obtain ⟨i, j, h1, _, h3⟩ := pigeon (p ^ n) (fun i => code val p n (x i)) fun i _ => code_lt F.lt _ n
  exact ⟨i, j - i - 1, by rw [show i + (j - i - 1 + 1) = j by omega]; exact code_inj F.lt F.inj n h3⟩
theorem left_right {val : K → Nat} {p : Nat} (F : Fin' K p val) {u : Nat → K} (ha : Assoc n T) (hu : IsOne n T u) {x m : Nat → K} (h : Eq n (mul n T x m) u) : Eq n (mul n T m x) u := by
  obtain ⟨a, d, hr⟩ := again F (n := n) fun e => pw n T u m e
  exact two_sided ha hu h hr
theorem right_left {val : K → Nat} {p : Nat} (F : Fin' K p val) {u : Nat → K} (ha : Assoc n T) (hu : IsOne n T u) {x m : Nat → K} (h : Eq n (mul n T m x) u) : Eq n (mul n T x m) u := by
  have := left_right F (op_assoc ha) (op_one hu) (x := x) (m := m) fun k hk => by rw [op_mul]; exact h k hk
  exact fun k hk => by rw [← op_mul]; exact this k hk
/-- inverses are one -/
theorem inv_uniq {u : Nat → K} (ha : Assoc n T) (hu : IsOne n T u) {x y m : Nat → K} (h : Eq n (mul n T x m) u) (h2 : Eq n (mul n T m y) u) : Eq n x y :=
  (mul_one hu x).symm.trans ((mul_congr (Eq.refl x) h2.symm).trans ((mul_assoc ha x m y).symm.trans ((mul_congr h (Eq.refl y)).trans (one_mul hu y))))
end
end TRM

/-! Other bases: shears, the table in a new basis. Plain Lean. -/
namespace TRM
open Lean.Grind
section
variable {K : Type} [CommRing K] {n : Nat} {T : Nat → Nat → Nat → K}
def lc (n : Nat) (x : Nat → K) (V : Nat → Nat → K) : Nat → K := fun c => sm n fun i => x i * V i c
theorem lc_congr {x y : Nat → K} {V : Nat → Nat → K} (h : Eq n x y) : lc n x V = lc n y V := by
  funext c
  exact sm_congr fun i hi => by rw [h i hi]
theorem mul_lcl (z : Nat → K) (V : Nat → Nat → K) (y : Nat → K) : mul n T (lc n z V) y = lc n z fun m => mul n T (V m) y := by
  funext k
  exact sw (n := n) n z (fun i => sm n fun j => y j * T i j k) V
theorem mul_lcr (z : Nat → K) (V : Nat → Nat → K) (x : Nat → K) : mul n T x (lc n z V) = lc n z fun m => mul n T x (V m) := by
  funext k
  rw [← op_mul, mul_lcl]
  unfold lc
  exact sm_congr fun i _ => congrArg (z i * ·) (op_mul (V i) x k)
/-- P's lines times Q's are the unit -/
def Und (n : Nat) (P Q : Nat → Nat → K) : Prop := ∀ k, k < n → ∀ c, c < n → lc n (P k) Q c = dlt c k
theorem lc_und {P Q : Nat → Nat → K} (h : Und n P Q) (y : Nat → K) : Eq n (lc n (lc n y P) Q) y := fun c hc => by
  show (sm n fun i => (sm n fun l => y l * P l i) * Q i c) = y c
  rw [sw, ← dlt_sum (x := y) hc]
  refine sm_congr fun l hl => ?_
  rw [← h l hl c hc]
  rfl
/-- the table in the basis P, Q the way back -/
def reT (n : Nat) (T : Nat → Nat → Nat → K) (P Q : Nat → Nat → K) : Nat → Nat → Nat → K := fun i j => lc n (mul n T (P i) (P j)) Q
section
variable {P Q : Nat → Nat → K} (hQP : Und n Q P) (hPQ : Und n P Q)
include hQP
theorem re_l (x : Nat → K) (k : Nat) : Eq n (fun c => sm n fun m => x m * reT n T P Q m k c) (lc n (mul n T (lc n x P) (P k)) Q) := fun c _ => by
  show (sm n fun m => x m * sm n fun i => mul n T (P m) (P k) i * Q i c) = sm n fun i => mul n T (lc n x P) (P k) i * Q i c
  rw [mul_lcl]
  exact (sw (n := n) n x (fun i => Q i c) fun m => mul n T (P m) (P k)).symm
theorem re_r (x : Nat → K) (k : Nat) : Eq n (fun c => sm n fun m => x m * reT n T P Q k m c) (lc n (mul n T (P k) (lc n x P)) Q) := fun c _ => by
  show (sm n fun m => x m * sm n fun i => mul n T (P k) (P m) i * Q i c) = sm n fun i => mul n T (P k) (lc n x P) i * Q i c
  rw [mul_lcr]
  exact (sw (n := n) n x (fun i => Q i c) fun m => mul n T (P k) (P m)).symm
theorem re_assoc (ha : Assoc n T) : Assoc n (reT n T P Q) := fun i hi j hj k hk l hl => by
  have h1 := re_l (T := T) hQP (reT n T P Q i j) k l hl
  have h2 := re_r (T := T) hQP (reT n T P Q j k) i l hl
  refine h1.trans (_root_.Eq.trans ?_ h2.symm)
  show lc n (mul n T (lc n (lc n (mul n T (P i) (P j)) Q) P) (P k)) Q l = lc n (mul n T (P i) (lc n (lc n (mul n T (P j) (P k)) Q) P)) Q l
  have e1 := mul_congr (T := T) (lc_und hQP (mul n T (P i) (P j))) (Eq.refl (P k))
  have e2 := mul_congr (T := T) (Eq.refl (P i)) (lc_und hQP (mul n T (P j) (P k)))
  rw [lc_congr (e1.trans ((mul_assoc ha (P i) (P j) (P k)).trans e2.symm))]
include hPQ
theorem re_one {u : Nat → K} (hu : IsOne n T u) : IsOne n (reT n T P Q) (lc n u Q) := by
  refine ⟨fun j hj c hc => ?_, fun j hj c hc => ?_⟩
  · have h1 := re_l (T := T) hQP (lc n u Q) j c hc
    refine h1.trans ?_
    rw [lc_congr (((mul_congr (T := T) (lc_und hQP u) (Eq.refl (P j))).trans (one_mul hu (P j))))]
    exact hPQ j hj c hc
  · have h1 := re_r (T := T) hQP (lc n u Q) j c hc
    refine h1.trans ?_
    rw [lc_congr (((mul_congr (T := T) (Eq.refl (P j)) (lc_und hQP u)).trans (mul_one hu (P j))))]
    exact hPQ j hj c hc
end
end
end TRM

/-! Shears keep two bases undone. Plain Lean. -/
namespace TRM
open Lean.Grind
section
variable {K : Type} [CommRing K] {n : Nat} {P Q P' Q' : Nat → Nat → K} {i j : Nat} {f : K}
structure Shear (n : Nat) (P Q P' Q' : Nat → Nat → K) (i j : Nat) (f : K) : Prop where
  hi : i < n
  hj : j < n
  ne : i ≠ j
  p : ∀ k, k < n → ∀ c, c < n → P' k c = P k c + dlt k i * (f * P j c)
  q : ∀ k, k < n → ∀ c, c < n → Q' k c = Q k c - f * Q k i * dlt c j
theorem dlt_sumr {x : Nat → K} {c : Nat} (hc : c < n) : (sm n fun j => x j * dlt j c) = x c := sm_pick x hc _ (by unfold dlt; rw [if_pos rfl]; grind) fun i _ hne => by unfold dlt; rw [if_neg hne]; grind
theorem dlt_self (i : Nat) : dlt (K := K) i i = 1 := if_pos rfl
theorem dlt_ne {i j : Nat} (h : i ≠ j) : dlt (K := K) i j = 0 := if_neg h
theorem shear_qp (s : Shear n P Q P' Q' i j f) (h : Und n Q P) : Und n Q' P' := fun k hk c hc => by
  have e : lc n (Q' k) P' c = (sm n fun l => Q k l * P l c) + (f * P j c) * (sm n fun l => Q k l * dlt l i) - (f * Q k i) * (sm n fun l => P l c * dlt l j) - (f * Q k i * (f * P j c)) * (sm n fun l => dlt l i * dlt l j) := by
    rw [← sm_mul, ← sm_mul, ← sm_mul, ← sm_add, ← sm_sub, ← sm_sub]
    refine sm_congr fun l hl => ?_
    rw [s.q k hk l hl, s.p l hl c hc]
    grind
  rw [e, dlt_sumr s.hi, dlt_sumr s.hj, dlt_sumr (x := fun l => dlt l i) s.hj, dlt_ne (Ne.symm s.ne)]
  have := h k hk c hc
  unfold lc at this
  rw [this]
  grind
theorem shear_pq (s : Shear n P Q P' Q' i j f) (h : Und n P Q) : Und n P' Q' := fun k hk c hc => by
  have e : lc n (P' k) Q' c = (sm n fun l => P k l * Q l c) + dlt k i * f * (sm n fun l => P j l * Q l c) - (f * dlt c j) * (sm n fun l => P k l * Q l i) - (f * dlt c j * (dlt k i * f)) * (sm n fun l => P j l * Q l i) := by
    rw [← sm_mul, ← sm_mul, ← sm_mul, ← sm_add, ← sm_sub, ← sm_sub]
    refine sm_congr fun l hl => ?_
    rw [s.q l hl c hc, s.p k hk l hl]
    grind
  rw [e]
  have h1 := h k hk c hc
  have h2 := h j s.hj c hc
  have h3 := h k hk i s.hi
  have h4 := h j s.hj i s.hi
  unfold lc at h1 h2 h3 h4
  rw [h1, h2, h3, h4, dlt_ne s.ne]
  by_cases z : i = k
  · subst z
    rw [dlt_self]
    grind
  · rw [dlt_ne z, dlt_ne (Ne.symm z)]
    grind
end
end TRM

/-! Rings of a polynomial; two rings beside each other. Plain Lean. -/
namespace TRM
open Lean.Grind
section
variable {K : Type} [CommRing K] {n : Nat} {f : Nat → K}
/-- by the letter -/
def shf (n : Nat) (f v : Nat → K) : Nat → K := fun c => (if c = 0 then 0 else v (c - 1)) - v (n - 1) * f c
def pwl (n : Nat) (f : Nat → K) : Nat → Nat → K
  | 0 => fun c => dlt c 0
  | m + 1 => shf n f (pwl n f m)
theorem pwl_low : ∀ m, m < n → ∀ c, pwl n f m c = dlt c m
  | 0, _, _ => rfl
  | m + 1, h, c => by
    have ih := pwl_low m (by omega)
    show (if c = 0 then 0 else pwl n f m (c - 1)) - pwl n f m (n - 1) * f c = _
    rw [ih, ih, dlt_ne (show n - 1 ≠ m by omega)]
    by_cases z : c = 0
    · rw [if_pos z, z, dlt_ne (show 0 ≠ m + 1 by omega)]; grind
    · rw [if_neg z]
      by_cases z2 : c = m + 1
      · rw [z2, show m + 1 - 1 = m by omega, dlt_self, dlt_self]; grind
      · rw [dlt_ne z2, dlt_ne (show c - 1 ≠ m by omega)]; grind
theorem pwl_step (v : Nat → K) (k l : Nat) (hn : 0 < n) : (sm n fun m => v m * pwl n f (m + (k + 1)) l) = shf n f (fun c => sm n fun m => v m * pwl n f (m + k) c) l := by
  show (sm n fun m => v m * ((if l = 0 then 0 else pwl n f (m + k) (l - 1)) - pwl n f (m + k) (n - 1) * f l)) = (if l = 0 then 0 else sm n fun m => v m * pwl n f (m + k) (l - 1)) - (sm n fun m => v m * pwl n f (m + k) (n - 1)) * f l
  rw [← sm_mulr]
  by_cases z : l = 0
  · rw [if_pos z]
    rw [show (fun m => v m * ((if l = 0 then 0 else pwl n f (m + k) (l - 1)) - pwl n f (m + k) (n - 1) * f l)) = fun m => -1 * (v m * pwl n f (m + k) (n - 1) * f l) by funext m; rw [if_pos z]; grind, sm_mul]
    grind
  · rw [if_neg z, ← sm_sub]
    exact sm_congr fun m _ => by rw [if_neg z]; grind
theorem pwl_add (hn : 0 < n) (a : Nat) : ∀ k l, l < n → (sm n fun m => pwl n f a m * pwl n f (m + k) l) = pwl n f (a + k) l
  | 0, l, hl => by
    rw [sm_congr (g := fun m => pwl n f a m * dlt l m) fun m hm => by rw [Nat.add_zero, pwl_low m hm]]
    exact dlt_sum hl
  | k + 1, l, hl => by
    rw [pwl_step _ k l hn]
    show shf n f _ l = shf n f (pwl n f (a + k)) l
    unfold shf
    dsimp only
    rw [pwl_add hn a k (n - 1) (by omega)]
    by_cases z : l = 0
    · rw [if_pos z, if_pos z]
    · rw [if_neg z, if_neg z, pwl_add hn a k (l - 1) (by omega)]
def polyT (n : Nat) (f : Nat → K) : Nat → Nat → Nat → K := fun i j => pwl n f (i + j)
theorem poly_assoc (hn : 0 < n) : Assoc n (polyT n f) := fun i _ j _ k _ l hl => by
  show (sm n fun m => pwl n f (i + j) m * pwl n f (m + k) l) = sm n fun m => pwl n f (j + k) m * pwl n f (i + m) l
  rw [pwl_add hn _ _ _ hl, show (fun m => pwl n f (j + k) m * pwl n f (i + m) l) = fun m => pwl n f (j + k) m * pwl n f (m + i) l by funext m; rw [Nat.add_comm i m], pwl_add hn _ _ _ hl, show i + j + k = j + k + i by omega]
theorem poly_one (hn : 0 < n) : IsOne n (polyT n f) fun c => dlt c 0 := by
  refine ⟨fun j hj c _ => ?_, fun j hj c _ => ?_⟩
  · rw [sm_pick (fun i => pwl n f (i + j) c) hn _ (by rw [dlt_self]; show 1 * pwl n f (0 + j) c = _; grind) fun i _ hne => by rw [dlt_ne hne]; grind]
    rw [Nat.zero_add, pwl_low j hj]
  · rw [sm_pick (fun i => pwl n f (j + i) c) hn _ (by rw [dlt_self]; show 1 * pwl n f (j + 0) c = _; grind) fun i _ hne => by rw [dlt_ne hne]; grind]
    rw [Nat.add_zero, pwl_low j hj]
/-! ### beside -/
theorem sm_split (f : Nat → K) (n : Nat) : ∀ m, sm (n + m) f = sm n f + sm m fun i => f (n + i)
  | 0 => by show sm n f = sm n f + 0; grind
  | m + 1 => by
    show sm (n + m) f + f (n + m) = sm n f + (sm m (fun i => f (n + i)) + f (n + m))
    rw [sm_split f n m]; grind
def besT (n : Nat) (T S : Nat → Nat → Nat → K) : Nat → Nat → Nat → K := fun i j k => if i < n then (if j < n then (if k < n then T i j k else 0) else 0) else (if j < n then 0 else if k < n then 0 else S (i - n) (j - n) (k - n))
section
variable {m : Nat} {T S : Nat → Nat → Nat → K}
theorem bes_ll {i j : Nat} (hi : i < n) (hj : j < n) (F : Nat → K) : (sm (n + m) fun k => besT n T S i j k * F k) = sm n fun k => T i j k * F k := by
  rw [sm_split, sm_congr (g := fun k => T i j k * F k) fun k hk => by unfold besT; rw [if_pos hi, if_pos hj, if_pos hk], sm_zero' (n := m) fun k _ => by unfold besT; rw [if_pos hi, if_pos hj, if_neg (by omega)]; grind]
  grind
theorem bes_rr {i j : Nat} (hi : ¬ i < n) (hj : ¬ j < n) (F : Nat → K) : (sm (n + m) fun k => besT n T S i j k * F k) = sm m fun k => S (i - n) (j - n) k * F (n + k) := by
  rw [sm_split, sm_zero' (n := n) fun k hk => by unfold besT; rw [if_neg hi, if_neg hj, if_pos hk]; grind, sm_congr (g := fun k => S (i - n) (j - n) k * F (n + k)) fun k hk => by unfold besT; rw [if_neg hi, if_neg hj, if_neg (by omega), show n + k - n = k by omega]]
  grind
theorem bes_lr {i j : Nat} (h : (i < n ∧ ¬ j < n) ∨ (¬ i < n ∧ j < n)) (F : Nat → K) : (sm (n + m) fun k => besT n T S i j k * F k) = 0 := sm_zero' fun k _ => by
  unfold besT
  rcases h with ⟨h1, h2⟩ | ⟨h1, h2⟩
  · rw [if_pos h1, if_neg h2]; grind
  · rw [if_neg h1, if_pos h2]; grind
end
end
end TRM

/-! As many lines as places: every vector is a sum of the rows. Plain Lean. -/
namespace TRM
open Lean.Grind
theorem asc_at : ∀ {l : List Nat}, l.Pairwise (· < ·) → ∀ (i j : Nat) (hi : i < l.length) (hj : j < l.length), i ≤ j → l[i] + (j - i) ≤ l[j]
  | l, h, i, j, hi, hj, hij => by
    induction j with
    | zero =>
      have : i = 0 := by omega
      subst this
      simp
    | succ j ih =>
      by_cases z : i = j + 1
      · subst z; simp
      · have h1 := ih (by omega) (by omega)
        have h2 := (List.pairwise_iff_getElem.mp h) j (j + 1) (by omega) hj (by omega)
        omega
theorem asc_all {n : Nat} {l : List Nat} (h : l.Pairwise (· < ·)) (hb : ∀ x ∈ l, x < n) (hl : l.length = n) : ∀ c, c < n → c ∈ l := fun c hc => by
  have hc' : c < l.length := by omega
  have h1 := asc_at h 0 c (by omega) hc' (by omega)
  have h2 := asc_at h c (n - 1) hc' (by omega) (by omega)
  have h3 := hb _ (List.getElem_mem (show n - 1 < l.length by omega))
  have : l[c] = c := by omega
  exact List.mem_iff_getElem.mpr ⟨c, hc', this⟩
section
variable {K : Type} [CommRing K] {p : Nat} [IsCharP K p]
def Span (n m : Nat) (rows : Nat → Nat → K) (v : Nat → K) : Prop := ∃ y : Nat → K, ∀ c, c < n → v c = sm m fun i => y i * rows i c
theorem span_lin {n m : Nat} {rows : Nat → Nat → K} : Lin K (Span n m rows) := by
  refine ⟨fun u v a ⟨y, hy⟩ ⟨z, hz⟩ => ⟨fun i => y i + a * z i, fun c hc => ?_⟩, fun u a ⟨y, hy⟩ => ⟨fun i => a * y i, fun c hc => ?_⟩⟩
  · dsimp only
    rw [hy c hc, hz c hc, ← sm_mul, ← sm_add]
    exact sm_congr fun i _ => by grind
  · dsimp only
    rw [hy c hc, ← sm_mul]
    exact sm_congr fun i _ => by grind
theorem rank_full {n : Nat} {U S : List (List Int)} (s : Spec K p n U S) (ha : (S.map ldD).Pairwise (· < ·)) (hb : ∀ l ∈ S, ldD l < n) (hl : S.length = n) (v : Nat → K) : Span n U.length (fun i => cv K (U.getD i [])) v := by
  have hU : ∀ u ∈ U, Span n U.length (fun i => cv K (U.getD i [])) (cv K u) := fun u hu => by
    obtain ⟨i, hi, rfl⟩ := List.mem_iff_getElem.mp hu
    refine ⟨fun j => if j = i then 1 else 0, fun c _ => ?_⟩
    have e := sm_pick (fun j => cv K (U.getD j []) c) hi (fun j => (if j = i then 1 else 0) * cv K (U.getD j []) c) (by rw [if_pos rfl]; grind) fun j _ hne => by rw [if_neg hne]; grind
    rw [e, show U.getD i [] = U[i] by rw [List.getD_eq_getElem?_getD, List.getElem?_eq_getElem hi]; rfl]
  have hS := s.lin _ span_lin hU
  have h0 : Span n U.length (fun i => cv K (U.getD i [])) fun _ => 0 := ⟨fun _ => 0, fun c _ => (sm_zero' fun i _ => by grind).symm⟩
  obtain ⟨y, hy⟩ := span_lin.comb v (R := lns K S) (v := fun _ => 0) (a := 1) (fun t ht => by
    obtain ⟨l, hl, rfl⟩ := List.mem_map.mp ht
    exact hS l hl) h0
  refine ⟨y, fun c hc => ?_⟩
  rw [← hy c hc]
  have hm := asc_all ha (fun x hx => by obtain ⟨l, hl, rfl⟩ := List.mem_map.mp hx; exact hb l hl) (by rw [List.length_map, hl]) c hc
  obtain ⟨l, hlS, e⟩ := List.mem_map.mp hm
  have := comb_lead s.sys.dl v (t := toLn K l) (List.mem_map.mpr ⟨l, hlS, rfl⟩)
  rw [show (toLn K l).1 = c from e] at this
  dsimp only
  rw [this]; grind
end
end TRM

/-! Two rings beside each other: grouping, one. Plain Lean. -/
namespace TRM
open Lean.Grind
section
variable {K : Type} [CommRing K] {n m : Nat} {T S : Nat → Nat → Nat → K}
theorem bes_r0 {i j : Nat} (h : (i < n ∧ ¬ j < n) ∨ (¬ i < n ∧ j < n)) (k : Nat) : besT n T S i j k = 0 := by
  unfold besT
  rcases h with ⟨h1, h2⟩ | ⟨h1, h2⟩
  · rw [if_pos h1, if_neg h2]
  · rw [if_neg h1, if_pos h2]
theorem bes_at1 {i j k : Nat} (hi : i < n) (hj : j < n) (hk : k < n) : besT n T S i j k = T i j k := by unfold besT; rw [if_pos hi, if_pos hj, if_pos hk]
theorem bes_at2 {i j k : Nat} (hi : ¬ i < n) (hj : ¬ j < n) (hk : ¬ k < n) : besT n T S i j k = S (i - n) (j - n) (k - n) := by unfold besT; rw [if_neg hi, if_neg hj, if_neg hk]
theorem bes_out {i j k : Nat} (h : ¬ (i < n ∧ j < n ∧ k < n)) (h2 : ¬ (¬ i < n ∧ ¬ j < n ∧ ¬ k < n)) : besT n T S i j k = 0 := by
  unfold besT
  by_cases a : i < n <;> by_cases b : j < n <;> by_cases c : k < n <;> simp [a, b, c] at h h2 ⊢
/-- a sum over the middle -/
theorem bes_mid (i j : Nat) (F : Nat → K) : (sm (n + m) fun k => besT n T S i j k * F k) = if i < n ∧ j < n then (sm n fun k => T i j k * F k) else if ¬ i < n ∧ ¬ j < n then (sm m fun k => S (i - n) (j - n) k * F (n + k)) else 0 := by
  by_cases hi : i < n <;> by_cases hj : j < n
  · rw [if_pos ⟨hi, hj⟩, bes_ll hi hj]
  · rw [if_neg (fun z => hj z.2), if_neg (fun z => z.1 hi), bes_lr (.inl ⟨hi, hj⟩)]
  · rw [if_neg (fun z => hi z.1), if_neg (fun z => z.2 hj), bes_lr (.inr ⟨hi, hj⟩)]
  · rw [if_neg (fun z => hi z.1), if_pos ⟨hi, hj⟩, bes_rr hi hj]
theorem bes_assoc (h1 : Assoc n T) (h2 : Assoc m S) : Assoc (n + m) (besT n T S) := fun i hi j hj k hk l hl => by
  rw [bes_mid, bes_mid]
  by_cases A : i < n ∧ j < n ∧ k < n ∧ l < n
  · obtain ⟨a, b, c, d⟩ := A
    rw [if_pos ⟨a, b⟩, if_pos ⟨b, c⟩, sm_congr fun x hx => by rw [bes_at1 hx c d], h1 i a j b k c l d]
    exact sm_congr fun x hx => by rw [bes_at1 a hx d]
  by_cases B : ¬ i < n ∧ ¬ j < n ∧ ¬ k < n ∧ ¬ l < n
  · obtain ⟨a, b, c, d⟩ := B
    rw [if_neg (fun z => a z.1), if_pos ⟨a, b⟩, if_neg (fun z => b z.1), if_pos ⟨b, c⟩, sm_congr fun x hx => by rw [bes_at2 (by omega) c d, show n + x - n = x by omega], h2 (i - n) (by omega) (j - n) (by omega) (k - n) (by omega) (l - n) (by omega)]
    exact sm_congr fun x hx => by rw [bes_at2 a (by omega) d, show n + x - n = x by omega]
  refine _root_.Eq.trans (b := 0) ?_ (_root_.Eq.symm ?_)
  · repeat' split
    · refine sm_zero' fun x hx => ?_
      rw [bes_out (by omega) (by omega)]; grind
    · refine sm_zero' fun x hx => ?_
      rw [bes_out (by omega) (by omega)]; grind
    · rfl
  · repeat' split
    · refine sm_zero' fun x hx => ?_
      rw [bes_out (by omega) (by omega)]; grind
    · refine sm_zero' fun x hx => ?_
      rw [bes_out (by omega) (by omega)]; grind
    · rfl
def besU (n : Nat) (u v : Nat → K) : Nat → K := fun c => if c < n then u c else v (c - n)
theorem bes_one {u v : Nat → K} (hu : IsOne n T u) (hv : IsOne m S v) : IsOne (n + m) (besT n T S) (besU n u v) := by
  refine ⟨fun j hj c hc => ?_, fun j hj c hc => ?_⟩
  · rw [sm_split]
    by_cases a : j < n
    · rw [sm_zero' (n := m) fun x hx => by rw [bes_r0 (.inr ⟨by omega, a⟩)]; grind]
      by_cases b : c < n
      · rw [← hu.l j a c b, sm_congr (g := fun i => u i * T i j c) fun x hx => by rw [bes_at1 hx a b]; unfold besU; rw [if_pos hx]]; grind
      · rw [sm_zero' fun x hx => by rw [bes_out (by omega) (by omega)]; grind, dlt_ne (by omega)]; grind
    · rw [sm_zero' (n := n) fun x hx => by rw [bes_r0 (.inl ⟨hx, a⟩)]; grind]
      by_cases b : c < n
      · rw [sm_zero' fun x hx => by rw [bes_out (by omega) (by omega)]; grind, dlt_ne (by omega)]; grind
      · have e := hv.l (j - n) (by omega) (c - n) (by omega)
        rw [sm_congr (g := fun i => v i * S i (j - n) (c - n)) fun x hx => by rw [bes_at2 (by omega) a b]; unfold besU; rw [if_neg (by omega), show n + x - n = x by omega], e]
        by_cases z : c = j
        · rw [z, dlt_self, dlt_self]; grind
        · rw [dlt_ne z, dlt_ne (by omega)]; grind
  · rw [sm_split]
    by_cases a : j < n
    · rw [sm_zero' (n := m) fun x hx => by rw [bes_r0 (.inl ⟨a, by omega⟩)]; grind]
      by_cases b : c < n
      · rw [← hu.r j a c b, sm_congr (g := fun i => u i * T j i c) fun x hx => by rw [bes_at1 a hx b]; unfold besU; rw [if_pos hx]]; grind
      · rw [sm_zero' fun x hx => by rw [bes_out (by omega) (by omega)]; grind, dlt_ne (by omega)]; grind
    · rw [sm_zero' (n := n) fun x hx => by rw [bes_r0 (.inr ⟨a, hx⟩)]; grind]
      by_cases b : c < n
      · rw [sm_zero' fun x hx => by rw [bes_out (by omega) (by omega)]; grind, dlt_ne (by omega)]; grind
      · have e := hv.r (j - n) (by omega) (c - n) (by omega)
        rw [sm_congr (g := fun i => v i * S (j - n) i (c - n)) fun x hx => by rw [bes_at2 a (by omega) b]; unfold besU; rw [if_neg (by omega), show n + x - n = x by omega], e]
        by_cases z : c = j
        · rw [z, dlt_self, dlt_self]; grind
        · rw [dlt_ne z, dlt_ne (by omega)]; grind
end
end TRM

/-! Rings by lists: the field, good tables, the written tables. Plain Lean. -/
namespace TRM
open Lean.Grind
/-- a table's entry -/
def tbI (t : List (List (List Int))) : Nat → Nat → Nat → Int := fun i j k => ((t.getD i []).getD j []).getD k 0
section
variable (K : Type) [CommRing K]
def tb (t : List (List (List Int))) : Nat → Nat → Nat → K := fun i j => cv K ((t.getD i []).getD j [])
end
structure Shape (p n : Nat) (t : List (List (List Int))) : Prop where
  len : t.length = n
  line : ∀ l ∈ t, l.length = n
  row : ∀ l ∈ t, ∀ r ∈ l, r.length = n ∧ Can p r
structure Good (K : Type) [CommRing K] (p n : Nat) (t : List (List (List Int))) : Prop where
  sh : Shape p n t
  asc : Assoc n (tb K t)
  one : ∃ u, IsOne n (tb K t) u
def PR (p : Nat) : Prop := p = 2 ∨ p = 3 ∨ p = 5 ∨ p = 7
def invT (p : Nat) : List Int := if p = 2 then [0, 1] else if p = 3 then [0, 1, 2] else if p = 5 then [0, 1, 3, 2, 4] else [0, 1, 4, 5, 2, 3, 6]
def invP (p : Nat) (x : Int) : Int := (invT p).getD x.toNat 0
structure Fld (K : Type) [CommRing K] (p : Nat) : Prop where
  pr : PR p
  fin : ∃ val : K → Nat, Fin' K p val
  inv : Inv K p (invP p)
  h01 : (1 : K) ≠ 0
theorem Fld.lt {K : Type} [CommRing K] {p : Nat} (F : Fld K p) : 1 < p := by
  rcases F.pr with h | h | h | h <;> omega
theorem Fld.le {K : Type} [CommRing K] {p : Nat} (F : Fld K p) : p ≤ 7 := by
  rcases F.pr with h | h | h | h <;> omega
theorem invP_ok {p : Nat} (h : PR p) {x : Int} (h1 : 0 < x) (h2 : x < (p : Int)) : (0 ≤ invP p x ∧ invP p x < (p : Int)) ∧ (invP p x * x) % (p : Int) = 1 ∧ ∀ y : Int, 0 ≤ y → y < (p : Int) → (y * x) % (p : Int) = 1 → y = invP p x := by
  have key : ∀ p : Nat, PR p → ∀ x : Nat, x < p → 0 < x → (0 ≤ invP p x ∧ invP p x < (p : Int)) ∧ (invP p x * x) % (p : Int) = 1 ∧ ∀ y : Nat, y < p → ((y : Int) * x) % (p : Int) = 1 → (y : Int) = invP p x := by
    intro p hp
    rcases hp with h | h | h | h <;> subst h <;> decide +kernel
  obtain ⟨n, rfl⟩ := Int.eq_ofNat_of_zero_le (Int.le_of_lt h1)
  obtain ⟨a, b, c⟩ := key p h n (by omega) (by omega)
  refine ⟨a, b, fun y y1 y2 y3 => ?_⟩
  obtain ⟨m, rfl⟩ := Int.eq_ofNat_of_zero_le y1
  exact c m (by omega) y3
theorem fld_fin (p : Nat) (h : PR p) : ∃ (K : Type) (i : CommRing K) (_ : @IsCharP K _ p), @Fld K i p := by
  have hp : NeZero p := ⟨by rcases h with h | h | h | h <;> omega⟩
  refine ⟨Fin p, inferInstance, inferInstance, h, ⟨fun a => a.val, fun a => a.isLt, fun a b e => Fin.ext e⟩, fun x h1 h2 => ?_, fun e => ?_⟩
  · obtain ⟨_, b, _⟩ := invP_ok h h1 h2
    rw [← ci_mul, ← ci_one]
    exact (IsCharP.intCast_ext_iff p).mpr (by rw [b]; rcases h with h | h | h | h <;> subst h <;> decide)
  · have := (cast_zero (K := Fin p) (p := p) (x := 1) ⟨by omega, by rcases h with h | h | h | h <;> omega⟩).mp (by rw [ci_one]; exact e)
    omega
section
variable {K : Type} [CommRing K]
theorem ci_sm (f : Nat → Int) : ∀ n : Nat, ci K (sm n f) = sm n fun i => ci K (f i)
  | 0 => ci_zero
  | n + 1 => by
    show ci K (sm n f + f n) = sm n (fun i => ci K (f i)) + ci K (f n)
    rw [ci_add, ci_sm f n]
theorem ci_dlt (i j : Nat) : ci K (dlt (K := Int) i j) = dlt i j := by
  unfold dlt
  by_cases z : i = j
  · rw [if_pos z, if_pos z]; exact ci_one
  · rw [if_neg z, if_neg z]; exact ci_zero
theorem asc_int {n : Nat} {t : List (List (List Int))} (h : Assoc n (tbI t)) : Assoc n (tb K t) := fun i hi j hj k hk l hl => by
  have := congrArg (ci K) (h i hi j hj k hk l hl)
  rw [ci_sm, ci_sm] at this
  refine _root_.Eq.trans ?_ (this.trans ?_)
  · exact sm_congr fun m _ => (ci_mul _ _).symm
  · exact sm_congr fun m _ => ci_mul _ _
theorem one_int {n : Nat} {t : List (List (List Int))} {u : List Int} (h : IsOne n (tbI t) fun i => u.getD i 0) : IsOne n (tb K t) (cv K u) := by
  refine ⟨fun j hj c hc => ?_, fun j hj c hc => ?_⟩
  · have := congrArg (ci K) (h.l j hj c hc)
    rw [ci_sm, ci_dlt] at this
    rw [← this]
    exact sm_congr fun m _ => (ci_mul _ _).symm
  · have := congrArg (ci K) (h.r j hj c hc)
    rw [ci_sm, ci_dlt] at this
    rw [← this]
    exact sm_congr fun m _ => (ci_mul _ _).symm
end
/-- a table of noughts and ones -/
def shB (n : Nat) (t : List (List (List Int))) : Bool := decide (t.length = n) && t.all fun l => decide (l.length = n) && l.all fun r => decide (r.length = n) && r.all fun x => decide (x = 0) || decide (x = 1)
theorem shB_ok {p n : Nat} {t : List (List (List Int))} (hp : 1 < p) (h : shB n t = true) : Shape p n t := by
  unfold shB at h
  obtain ⟨h1, h2⟩ := Bool.and_eq_true_iff.mp h
  have h2 := List.all_eq_true.mp h2
  refine ⟨of_decide_eq_true h1, fun l hl => of_decide_eq_true (Bool.and_eq_true_iff.mp (h2 l hl)).1, fun l hl r hr => ?_⟩
  have h3 := List.all_eq_true.mp (Bool.and_eq_true_iff.mp (h2 l hl)).2 r hr
  obtain ⟨h4, h5⟩ := Bool.and_eq_true_iff.mp h3
  refine ⟨of_decide_eq_true h4, fun x hx => ?_⟩
  have := List.all_eq_true.mp h5 x hx
  rcases Bool.or_eq_true_iff.mp this with z | z <;> have := _root_.of_decide_eq_true z <;> omega
def tF2 : List (List (List Int)) := [[[1, 0, 0, 0], [0, 1, 0, 0], [0, 0, 0, 0], [0, 0, 0, 0]], [[0, 0, 0, 0], [0, 0, 0, 0], [1, 0, 0, 0], [0, 1, 0, 0]], [[0, 0, 1, 0], [0, 0, 0, 1], [0, 0, 0, 0], [0, 0, 0, 0]], [[0, 0, 0, 0], [0, 0, 0, 0], [0, 0, 1, 0], [0, 0, 0, 1]]]
def tU2 : List (List (List Int)) := [[[1, 0, 0], [0, 1, 0], [0, 0, 0]], [[0, 0, 0], [0, 0, 0], [0, 1, 0]], [[0, 0, 0], [0, 0, 0], [0, 0, 1]]]
def tC2 : List (List (List Int)) := [[[1, 0], [0, 1]], [[0, 1], [1, 0]]]
def tC3 : List (List (List Int)) := [[[1, 0, 0], [0, 1, 0], [0, 0, 1]], [[0, 1, 0], [0, 0, 1], [1, 0, 0]], [[0, 0, 1], [1, 0, 0], [0, 1, 0]]]
def tC4 : List (List (List Int)) := [[[1, 0, 0, 0], [0, 1, 0, 0], [0, 0, 1, 0], [0, 0, 0, 1]], [[0, 1, 0, 0], [0, 0, 1, 0], [0, 0, 0, 1], [1, 0, 0, 0]], [[0, 0, 1, 0], [0, 0, 0, 1], [1, 0, 0, 0], [0, 1, 0, 0]], [[0, 0, 0, 1], [1, 0, 0, 0], [0, 1, 0, 0], [0, 0, 1, 0]]]
def tV4 : List (List (List Int)) := [[[1, 0, 0, 0], [0, 1, 0, 0], [0, 0, 1, 0], [0, 0, 0, 1]], [[0, 1, 0, 0], [1, 0, 0, 0], [0, 0, 0, 1], [0, 0, 1, 0]], [[0, 0, 1, 0], [0, 0, 0, 1], [1, 0, 0, 0], [0, 1, 0, 0]], [[0, 0, 0, 1], [0, 0, 1, 0], [0, 1, 0, 0], [1, 0, 0, 0]]]
theorem good_of {K : Type} [CommRing K] {p n : Nat} (hp : 1 < p) {t : List (List (List Int))} (u : List Int) (h1 : shB n t = true) (h2 : Assoc n (tbI t)) (h3 : IsOne n (tbI t) fun i => u.getD i 0) : Good K p n t := ⟨shB_ok hp h1, asc_int h2, _, one_int h3⟩
theorem isOne_of {n : Nat} {T : Nat → Nat → Nat → Int} {u : Nat → Int} (h : ∀ j, j < n → ∀ c, c < n → (sm n fun i => u i * T i j c) = dlt c j ∧ (sm n fun i => u i * T j i c) = dlt c j) : IsOne n T u := ⟨fun j hj c hc => (h j hj c hc).1, fun j hj c hc => (h j hj c hc).2⟩
section
variable {K : Type} [CommRing K] {p : Nat} (hp : 1 < p)
include hp
theorem good_F2 : Good K p 4 tF2 := good_of hp [1, 0, 0, 1] (by decide +kernel) (by unfold Assoc; decide +kernel) (isOne_of (by unfold dlt; decide +kernel))
theorem good_U2 : Good K p 3 tU2 := good_of hp [1, 0, 1] (by decide +kernel) (by unfold Assoc; decide +kernel) (isOne_of (by unfold dlt; decide +kernel))
theorem good_C2 : Good K p 2 tC2 := good_of hp [1, 0] (by decide +kernel) (by unfold Assoc; decide +kernel) (isOne_of (by unfold dlt; decide +kernel))
theorem good_C3 : Good K p 3 tC3 := good_of hp [1, 0, 0] (by decide +kernel) (by unfold Assoc; decide +kernel) (isOne_of (by unfold dlt; decide +kernel))
theorem good_C4 : Good K p 4 tC4 := good_of hp [1, 0, 0, 0] (by decide +kernel) (by unfold Assoc; decide +kernel) (isOne_of (by unfold dlt; decide +kernel))
theorem good_V4 : Good K p 4 tV4 := good_of hp [1, 0, 0, 0] (by decide +kernel) (by unfold Assoc; decide +kernel) (isOne_of (by unfold dlt; decide +kernel))
end
end TRM

/-! The one and the inverses by the solvers. Plain Lean. -/
namespace TRM
open Lean.Grind
def blk (n : Nat) (f : Nat → List Int) : List Int := ((List.range n).map f).flatten
theorem blk_succ (n : Nat) (f : Nat → List Int) : blk (n + 1) f = blk n f ++ f n := by
  unfold blk
  rw [List.range_succ, List.map_append, List.flatten_append]
  simp
theorem blk_len {m : Nat} {f : Nat → List Int} : ∀ {n : Nat}, (∀ i, i < n → (f i).length = m) → (blk n f).length = n * m
  | 0, _ => by simp [blk]
  | n + 1, h => by
    rw [blk_succ, List.length_append, blk_len fun i hi => h i (by omega), h n (by omega), Nat.succ_mul]
theorem blk_mem {P : Int → Prop} {f : Nat → List Int} : ∀ {n : Nat}, (∀ i, i < n → ∀ x ∈ f i, P x) → ∀ x ∈ blk n f, P x
  | 0, _, x, hx => by simp [blk] at hx
  | n + 1, h, x, hx => by
    rw [blk_succ] at hx
    rcases List.mem_append.mp hx with z | z
    · exact blk_mem (fun i hi => h i (by omega)) x z
    · exact h n (by omega) x z
section
variable {K : Type} [CommRing K]
theorem blk_at {m : Nat} {f : Nat → List Int} {c : Nat} (hc : c < m) : ∀ {n : Nat}, (∀ i, i < n → (f i).length = m) → ∀ i, i < n → cv K (blk n f) (i * m + c) = cv K (f i) c
  | n + 1, h, i, hi => by
    have hl := blk_len (m := m) (f := f) (n := n) fun i hi => h i (by omega)
    rw [blk_succ, cv_append, hl]
    by_cases z : i = n
    · subst z
      rw [if_neg (by omega), show i * m + c - i * m = c by omega]
    · have : (i + 1) * m ≤ n * m := Nat.mul_le_mul_right m (by omega)
      rw [Nat.succ_mul] at this
      rw [if_pos (by omega)]
      exact blk_at hc (fun i hi => h i (by omega)) i (by omega)
end
theorem divlt {c n m : Nat} (h : c < n * m) : ∃ i r, i < n ∧ r < m ∧ c = i * m + r := by
  have hm : 0 < m := by
    rcases Nat.eq_zero_or_pos m with z | z
    · subst z; omega
    · exact z
  exact ⟨c / m, c % m, (Nat.div_lt_iff_lt_mul hm).mpr h, Nat.mod_lt _ hm, by rw [Nat.mul_comm]; exact (Nat.div_add_mod c m).symm⟩
def oneRow (n : Nat) (t : List (List (List Int))) (k : Nat) : List Int := blk n fun i => (t.getD k []).getD i [] ++ (t.getD i []).getD k []
def oneRows (n : Nat) (t : List (List (List Int))) : List (List Int) := (List.range n).map (oneRow n t)
def oneGoal (n : Nat) : List Int := blk n fun k => unitL n k ++ unitL n k
section
variable {K : Type} [CommRing K] {p n : Nat} [IsCharP K p] {t : List (List (List Int))}
theorem Shape.at_ (s : Shape p n t) {i j : Nat} (hi : i < n) (hj : j < n) : ((t.getD i []).getD j []).length = n ∧ Can p ((t.getD i []).getD j []) := by
  have h1 : i < t.length := by rw [s.len]; exact hi
  have e1 : t.getD i [] = t[i] := by rw [List.getD_eq_getElem?_getD, List.getElem?_eq_getElem h1]; rfl
  have h2 : j < t[i].length := by rw [s.line _ (List.getElem_mem h1)]; exact hj
  have e2 : t[i].getD j [] = t[i][j] := by rw [List.getD_eq_getElem?_getD, List.getElem?_eq_getElem h2]; rfl
  rw [e1, e2]
  exact s.row _ (List.getElem_mem h1) _ (List.getElem_mem h2)
theorem oneRows_get {k : Nat} (hk : k < n) : (oneRows n t).getD k [] = oneRow n t k := by
  unfold oneRows
  rw [List.getD_eq_getElem?_getD, List.getElem?_map, List.getElem?_range hk]
  rfl
theorem oneRows_len : (oneRows n t).length = n := by unfold oneRows; rw [List.length_map, List.length_range]
theorem oneGoal_len : (oneGoal n).length = n * (n + n) := blk_len fun i _ => by rw [List.length_append, unit_len]
theorem oneRow_len (s : Shape p n t) {k : Nat} (hk : k < n) : (oneRow n t k).length = n * (n + n) := blk_len fun i hi => by rw [List.length_append, (s.at_ hk hi).1, (s.at_ hi hk).1]
theorem oneRow_can (s : Shape p n t) {k : Nat} (hk : k < n) : Can p (oneRow n t k) := blk_mem fun i hi => can_append (s.at_ hk hi).2 (s.at_ hi hk).2
theorem oneGoal_can (hp : 1 < p) : Can p (oneGoal n) := blk_mem fun i hi => can_append (can_unit hp) (can_unit hp)
theorem one_rows_ok (s : Shape p n t) : ∀ r ∈ oneRows n t, r.length = (oneGoal n).length ∧ Can p r := fun r hr => by
  obtain ⟨k, hk, rfl⟩ := List.mem_map.mp hr
  have hk := List.mem_range.mp hk
  exact ⟨by rw [oneRow_len s hk, oneGoal_len], oneRow_can s hk⟩
theorem oneRow_l (s : Shape p n t) {k j c : Nat} (hk : k < n) (hj : j < n) (hc : c < n) : cv K (oneRow n t k) (j * (n + n) + c) = tb K t k j c := by
  unfold oneRow
  rw [blk_at (m := n + n) (by omega) (fun i hi => by rw [List.length_append, (s.at_ hk hi).1, (s.at_ hi hk).1]) j hj, cv_append, (s.at_ hk hj).1, if_pos hc]
  rfl
theorem oneRow_r (s : Shape p n t) {k j c : Nat} (hk : k < n) (hj : j < n) (hc : c < n) : cv K (oneRow n t k) (j * (n + n) + (n + c)) = tb K t j k c := by
  unfold oneRow
  rw [blk_at (m := n + n) (by omega) (fun i hi => by rw [List.length_append, (s.at_ hk hi).1, (s.at_ hi hk).1]) j hj, cv_append, (s.at_ hk hj).1, if_neg (by omega), show n + c - n = c by omega]
  rfl
theorem oneGoal_l {j c : Nat} (hj : j < n) (hc : c < n) : cv K (oneGoal n) (j * (n + n) + c) = dlt c j := by
  unfold oneGoal
  rw [blk_at (m := n + n) (by omega) (fun i hi => by rw [List.length_append, unit_len]) j hj, cv_append, unit_len, if_pos hc, cv_unit]
  unfold dlt
  by_cases z : c = j
  · rw [if_pos ⟨z, hc⟩, if_pos z]
  · rw [if_neg fun h => z h.1, if_neg z]
theorem oneGoal_r {j c : Nat} (hj : j < n) (hc : c < n) : cv K (oneGoal n) (j * (n + n) + (n + c)) = dlt c j := by
  unfold oneGoal
  rw [blk_at (m := n + n) (by omega) (fun i hi => by rw [List.length_append, unit_len]) j hj, cv_append, unit_len, if_neg (by omega), show n + c - n = c by omega, cv_unit]
  unfold dlt
  by_cases z : c = j
  · rw [if_pos ⟨z, hc⟩, if_pos z]
  · rw [if_neg fun h => z h.1, if_neg z]
/-- what solves is the one -/
theorem one_ok (s : Shape p n t) {res : Option (List Int)} (h : Solves K p (oneRows n t) (oneGoal n) res) (hu : ∃ u, IsOne n (tb K t) u) : ∃ x, res = some x ∧ x.length = n ∧ Can p x ∧ IsOne n (tb K t) (cv K x) := by
  obtain ⟨u, hu⟩ := hu
  obtain ⟨x, hx⟩ := h.full u fun c hc => by
    rw [oneGoal_len] at hc
    rw [oneRows_len]
    obtain ⟨j, r, hj, hr, rfl⟩ := divlt hc
    by_cases z : r < n
    · rw [oneGoal_l hj z, ← hu.l j hj r z]
      exact sm_congr fun i hi => by rw [oneRows_get hi, oneRow_l s hi hj z]
    · obtain ⟨q, rfl⟩ : ∃ q, r = n + q := ⟨r - n, by omega⟩
      rw [oneGoal_r hj (by omega), ← hu.r j hj q (by omega)]
      exact sm_congr fun i hi => by rw [oneRows_get hi, oneRow_r s hi hj (by omega)]
  obtain ⟨h1, h2, h3⟩ := h.sound x hx
  rw [oneRows_len] at h1
  have lt : ∀ j r, j < n → r < n + n → j * (n + n) + r < n * (n + n) := fun j r hj hr => by
    have : (j + 1) * (n + n) ≤ n * (n + n) := Nat.mul_le_mul_right _ (by omega)
    rw [Nat.succ_mul] at this
    omega
  refine ⟨x, hx, h1, h2, fun j hj c hc => ?_, fun j hj c hc => ?_⟩
  · rw [← oneGoal_l hj hc, ← h3 _ (by rw [oneGoal_len]; exact lt j c hj (by omega)), oneRows_len]
    exact sm_congr fun i hi => by rw [oneRows_get hi, oneRow_l s hi hj hc]
  · rw [← oneGoal_r hj hc, ← h3 _ (by rw [oneGoal_len]; exact lt j (n + c) hj (by omega)), oneRows_len]
    exact sm_congr fun i hi => by rw [oneRows_get hi, oneRow_r s hi hj hc]
/-- two lists with one vector -/
theorem row_eq {x y : List Int} (h1 : x.length = n) (h2 : Can p x) (h3 : y.length = n) (h4 : Can p y) (h : Eq n (cv K x) (cv K y)) : x = y := cv_inj (K := K) h2 h4 (by rw [h1, h3]) fun i hi => h i (by omega)
/-! ### inverses -/
structure LRow (K : Type) [CommRing K] (p n : Nat) (T : Nat → Nat → Nat → K) (m : Nat → K) (rows : List (List Int)) : Prop where
  len : rows.length = n
  row : ∀ r ∈ rows, r.length = n ∧ Can p r
  at_ : ∀ k, k < n → ∀ c, c < n → cv K (rows.getD k []) c = sm n fun j => m j * T k j c
structure RRow (K : Type) [CommRing K] (p n : Nat) (T : Nat → Nat → Nat → K) (m : Nat → K) (rows : List (List Int)) : Prop where
  len : rows.length = n
  row : ∀ r ∈ rows, r.length = n ∧ Can p r
  at_ : ∀ k, k < n → ∀ c, c < n → cv K (rows.getD k []) c = sm n fun i => m i * T i k c
theorem LRow.sum {T : Nat → Nat → Nat → K} {m : Nat → K} {rows : List (List Int)} (h : LRow K p n T m rows) (y : Nat → K) {c : Nat} (hc : c < n) : (sm rows.length fun i => y i * cv K (rows.getD i []) c) = mul n T y m c := by
  rw [h.len]
  exact sm_congr fun i hi => by rw [h.at_ i hi c hc]
theorem RRow.sum {T : Nat → Nat → Nat → K} {m : Nat → K} {rows : List (List Int)} (h : RRow K p n T m rows) (y : Nat → K) {c : Nat} (hc : c < n) : (sm rows.length fun i => y i * cv K (rows.getD i []) c) = mul n T m y c := by
  rw [h.len, ← op_mul]
  exact sm_congr fun i hi => by rw [h.at_ i hi c hc]; rfl
section
variable {T : Nat → Nat → Nat → K} {one m : List Int} {rl rr : List (List Int)} {al ar : Option (List Int)}
theorem units_ok {val : K → Nat} (F : Fin' K p val) (ha : Assoc n T) (h1 : one.length = n) (hu : IsOne n T (cv K one))
    (L : LRow K p n T (cv K m) rl) (R : RRow K p n T (cv K m) rr) (sl : Solves K p rl one al) (sr : Solves K p rr one ar) :
    al = ar ∧ (∀ x, ar = some x → x.length = n ∧ Can p x ∧ Eq n (mul n T (cv K x) (cv K m)) (cv K one) ∧ Eq n (mul n T (cv K m) (cv K x)) (cv K one)) ∧
      ((∃ y, Eq n (mul n T y (cv K m)) (cv K one)) → ∃ x, ar = some x) := by
  have fl : ∀ x, al = some x → x.length = n ∧ Can p x ∧ Eq n (mul n T (cv K x) (cv K m)) (cv K one) := fun x hx => by
    obtain ⟨k1, k2, k3⟩ := sl.sound x hx
    exact ⟨by rw [k1, L.len], k2, fun c hc => by rw [← L.sum _ hc]; exact k3 c (by omega)⟩
  have fr : ∀ x, ar = some x → x.length = n ∧ Can p x ∧ Eq n (mul n T (cv K m) (cv K x)) (cv K one) := fun x hx => by
    obtain ⟨k1, k2, k3⟩ := sr.sound x hx
    exact ⟨by rw [k1, R.len], k2, fun c hc => by rw [← R.sum _ hc]; exact k3 c (by omega)⟩
  have gl : ∀ y, Eq n (mul n T y (cv K m)) (cv K one) → ∃ x, al = some x := fun y hy => sl.full y fun c hc => by rw [L.sum _ (by omega)]; exact hy c (by omega)
  have gr : ∀ y, Eq n (mul n T (cv K m) y) (cv K one) → ∃ x, ar = some x := fun y hy => sr.full y fun c hc => by rw [R.sum _ (by omega)]; exact hy c (by omega)
  have lr : ∀ x, al = some x → ∀ y, ar = some y → x = y := fun x hx y hy => by
    obtain ⟨a1, a2, a3⟩ := fl x hx
    obtain ⟨b1, b2, b3⟩ := fr y hy
    exact row_eq (K := K) a1 a2 b1 b2 (inv_uniq ha hu a3 b3)
  refine ⟨?_, fun x hx => ?_, fun ⟨y, hy⟩ => ?_⟩
  · cases el : al with
    | none =>
      cases er : ar with
      | none => rfl
      | some y =>
        obtain ⟨b1, b2, b3⟩ := fr y er
        obtain ⟨x, hx⟩ := gl (cv K y) (left_right F ha hu b3)
        rw [hx] at el; cases el
    | some x =>
      obtain ⟨a1, a2, a3⟩ := fl x el
      obtain ⟨y, hy⟩ := gr (cv K x) (left_right F ha hu a3)
      rw [hy, lr x el y hy]
  · obtain ⟨b1, b2, b3⟩ := fr x hx
    exact ⟨b1, b2, left_right F ha hu b3, b3⟩
  · exact gr y (left_right F ha hu hy)
/-- so many lines as places: there is an inverse -/
theorem rank_unit (L : LRow K p n T (cv K m) rl) {S : List (List Int)} (hs : Spec K p n rl S) (h1 : (S.map ldD).Pairwise (· < ·)) (h2 : ∀ l ∈ S, ldD l < n) (h3 : S.length = n) (v : Nat → K) : ∃ y, Eq n (mul n T y (cv K m)) v := by
  obtain ⟨y, hy⟩ := rank_full hs h1 h2 h3 v
  exact ⟨y, fun c hc => by rw [hy c hc, ← L.sum y hc]⟩
end
end
end TRM

/-! Good rings: of a polynomial, beside, by other base members. Plain Lean. -/
namespace TRM
open Lean.Grind
section
variable {K : Type} [CommRing K] {p n m : Nat} [IsCharP K p]
theorem assoc_congr {T T' : Nat → Nat → Nat → K} (h : ∀ i, i < n → ∀ j, j < n → Eq n (T' i j) (T i j)) (ha : Assoc n T) : Assoc n T' := fun i hi j hj k hk l hl => by
  refine (sm_congr fun m hm => ?_).trans ((ha i hi j hj k hk l hl).trans (sm_congr fun m hm => ?_))
  · rw [h i hi j hj m hm, h m hm k hk l hl]
  · rw [h j hj k hk m hm, h i hi m hm l hl]
theorem isOne_congr {T T' : Nat → Nat → Nat → K} {u : Nat → K} (h : ∀ i, i < n → ∀ j, j < n → Eq n (T' i j) (T i j)) (ha : IsOne n T u) : IsOne n T' u := by
  refine ⟨fun j hj c hc => ?_, fun j hj c hc => ?_⟩
  · rw [← ha.l j hj c hc]
    exact sm_congr fun i hi => by rw [h i hi j hj c hc]
  · rw [← ha.r j hj c hc]
    exact sm_congr fun i hi => by rw [h j hj i hi c hc]
theorem good_congr {t : List (List (List Int))} {T : Nat → Nat → Nat → K} (s : Shape p n t) (h : ∀ i, i < n → ∀ j, j < n → Eq n (tb K t i j) (T i j)) (ha : Assoc n T) (hu : ∃ u, IsOne n T u) : Good K p n t := by
  obtain ⟨u, hu⟩ := hu
  exact ⟨s, assoc_congr h ha, u, isOne_congr h hu⟩
theorem getD_at {α : Type} {l : List α} {i : Nat} {d : α} (h : i < l.length) : l.getD i d = l[i] := by rw [List.getD_eq_getElem?_getD, List.getElem?_eq_getElem h]; rfl
theorem getD_map_range {α : Type} {f : Nat → α} {i : Nat} {d : α} (h : i < n) : ((List.range n).map f).getD i d = f i := by rw [getD_at (by rw [List.length_map, List.length_range]; exact h), List.getElem_map, List.getElem_range]
/-! ### of a polynomial -/
def nextP (p : Nat) (poly last : List Int) : List Int := List.zipWith (fun a b => (a - last.getD (last.length - 1) 0 * b) % (p : Int)) (0 :: last.dropLast) poly
def PW (p n : Nat) (poly : List Int) : Nat → List Int
  | 0 => unitL n 0
  | m + 1 => if m + 1 < n then unitL n (m + 1) else nextP p poly (PW p n poly m)
def polyL (p n : Nat) (poly : List Int) : List (List (List Int)) := (List.range n).map fun i => (List.range n).map fun j => PW p n poly (i + j)
theorem next_len {poly last : List Int} (h1 : last.length = n) (h2 : poly.length = n + 1) (hn : 0 < n) : (nextP p poly last).length = n := by
  unfold nextP
  rw [List.length_zipWith, List.length_cons, List.length_dropLast, h1, h2]
  omega
theorem next_can {poly last : List Int} (hp : 0 < p) : Can p (nextP p poly last) := fun x hx => by
  unfold nextP at hx
  obtain ⟨i, hi, rfl⟩ := List.mem_iff_getElem.mp hx
  rw [List.getElem_zipWith]
  exact ⟨Int.emod_nonneg _ (by omega), Int.emod_lt_of_pos _ (by omega)⟩
theorem next_cv {poly last : List Int} (h1 : last.length = n) (h2 : poly.length = n + 1) (hn : 0 < n) : Eq n (cv K (nextP p poly last)) (shf n (cv K poly) (cv K last)) := fun c hc => by
  rw [cv_at (l := nextP p poly last) (by rw [next_len h1 h2 hn]; exact hc)]
  unfold nextP shf
  rw [List.getElem_zipWith, cast_mod, ci_sub, ci_mul, show n - 1 = last.length - 1 by rw [h1]]
  congr 1
  · by_cases z : c = 0
    · subst z
      rw [if_pos rfl]; exact ci_zero
    · rw [if_neg z]
      obtain ⟨d, rfl⟩ : ∃ d, c = d + 1 := ⟨c - 1, by omega⟩
      rw [List.getElem_cons_succ, List.getElem_dropLast, show d + 1 - 1 = d by omega, cv_at (l := last) (by omega)]
  · rw [cv_at (l := poly) (by omega)]
    rfl
theorem shf_congr {f v w : Nat → K} (hn : 0 < n) (h : Eq n v w) : Eq n (shf n f v) (shf n f w) := fun c hc => by
  unfold shf
  rw [h (n - 1) (by omega)]
  by_cases z : c = 0
  · rw [if_pos z, if_pos z]
  · rw [if_neg z, if_neg z, h (c - 1) (by omega)]
theorem PW_ok {poly : List Int} (hp : 1 < p) (hn : 0 < n) (hl : poly.length = n + 1) : ∀ m, (PW p n poly m).length = n ∧ Can p (PW p n poly m) ∧ Eq n (cv K (PW p n poly m)) (pwl n (cv K poly) m)
  | 0 => ⟨unit_len n 0, can_unit hp, fun c hc => by
      show cv K (unitL n 0) c = dlt c 0
      rw [cv_unit]
      unfold dlt
      by_cases z : c = 0
      · rw [if_pos ⟨z, hc⟩, if_pos z]
      · rw [if_neg fun h => z h.1, if_neg z]⟩
  | m + 1 => by
    by_cases z : m + 1 < n
    · rw [PW, if_pos z]
      refine ⟨unit_len n _, can_unit hp, fun c hc => ?_⟩
      rw [pwl_low (m + 1) z, cv_unit]
      unfold dlt
      by_cases z : c = m + 1
      · rw [if_pos ⟨z, hc⟩, if_pos z]
      · rw [if_neg fun h => z h.1, if_neg z]
    · rw [PW, if_neg z]
      obtain ⟨h1, h2, h3⟩ := PW_ok hp hn hl m
      exact ⟨next_len h1 hl hn, next_can (by omega), (next_cv h1 hl hn).trans (shf_congr hn h3)⟩
theorem good_poly {poly : List Int} (hp : 1 < p) (hn : 0 < n) (hl : poly.length = n + 1) : Good K p n (polyL p n poly) := by
  refine good_congr (T := polyT n (cv K poly)) ⟨by unfold polyL; rw [List.length_map, List.length_range], fun l hl => ?_, fun l hl' r hr => ?_⟩ (fun i hi j hj => ?_) (poly_assoc hn) ⟨_, poly_one hn⟩
  · obtain ⟨i, _, rfl⟩ := List.mem_map.mp hl
    rw [List.length_map, List.length_range]
  · obtain ⟨i, _, rfl⟩ := List.mem_map.mp hl'
    obtain ⟨j, _, rfl⟩ := List.mem_map.mp hr
    have := PW_ok (K := K) hp hn hl (i + j)
    exact ⟨this.1, this.2.1⟩
  · unfold tb polyL
    rw [getD_map_range hi, getD_map_range hj]
    exact (PW_ok hp hn hl (i + j)).2.2
/-! ### beside -/
def zrs (n : Nat) : List Int := List.replicate n 0
def besL (n m : Nat) (A B : List (List (List Int))) : List (List (List Int)) := (A.map fun l => l.map (· ++ zrs m) ++ List.replicate m (zrs (n + m))) ++ B.map fun l => List.replicate n (zrs (n + m)) ++ l.map (zrs n ++ ·)
theorem zrs_len (n : Nat) : (zrs n).length = n := List.length_replicate
theorem zrs_can (hp : 0 < p) : Can p (zrs n) := fun x hx => by rw [(List.mem_replicate.mp hx).2]; omega
theorem getD_app {α : Type} {a b : List α} {i : Nat} {d : α} : (a ++ b).getD i d = if i < a.length then a.getD i d else b.getD (i - a.length) d := by
  by_cases h : i < a.length
  · rw [if_pos h, List.getD_eq_getElem?_getD, List.getD_eq_getElem?_getD, List.getElem?_append_left h]
  · rw [if_neg h, List.getD_eq_getElem?_getD, List.getD_eq_getElem?_getD, List.getElem?_append_right (by omega)]
theorem getD_map {α β : Type} {f : α → β} {a : List α} {i : Nat} {d : α} {e : β} (h : i < a.length) : (a.map f).getD i e = f (a.getD i d) := by rw [getD_at (by rw [List.length_map]; exact h), getD_at h, List.getElem_map]
theorem good_bes {A B : List (List (List Int))} (hp : 1 < p) (a : Good K p n A) (b : Good K p m B) : Good K p (n + m) (besL n m A B) := by
  obtain ⟨u, hu⟩ := a.one
  obtain ⟨v, hv⟩ := b.one
  have zz : ∀ r : List Int, r ∈ List.replicate m (zrs (n + m)) ∨ r ∈ List.replicate n (zrs (n + m)) → r.length = n + m ∧ Can p r := fun r hr => by
    have : r = zrs (n + m) := hr.elim (fun h => (List.mem_replicate.mp h).2) fun h => (List.mem_replicate.mp h).2
    rw [this]
    exact ⟨zrs_len _, zrs_can (by omega)⟩
  have al : ∀ i, i < n → (A.getD i []).length = n := fun i hi => by
    have := a.sh.len
    rw [getD_at (by omega)]; exact a.sh.line _ (List.getElem_mem _)
  have bl : ∀ i, i < m → (B.getD i []).length = m := fun i hi => by
    have := b.sh.len
    rw [getD_at (by omega)]; exact b.sh.line _ (List.getElem_mem _)
  refine good_congr (T := besT n (tb K A) (tb K B)) ⟨?_, fun l hl => ?_, fun l hl r hr => ?_⟩ (fun i hi j hj c hc => ?_) (bes_assoc a.asc b.asc) ⟨_, bes_one hu hv⟩
  · unfold besL
    rw [List.length_append, List.length_map, List.length_map, a.sh.len, b.sh.len]
  · rcases List.mem_append.mp hl with h | h
    · obtain ⟨q, hq, rfl⟩ := List.mem_map.mp h
      rw [List.length_append, List.length_map, List.length_replicate, a.sh.line q hq]
    · obtain ⟨q, hq, rfl⟩ := List.mem_map.mp h
      rw [List.length_append, List.length_map, List.length_replicate, b.sh.line q hq]
  · rcases List.mem_append.mp hl with h | h
    · obtain ⟨q, hq, rfl⟩ := List.mem_map.mp h
      rcases List.mem_append.mp hr with h | h
      · obtain ⟨s, hs, rfl⟩ := List.mem_map.mp h
        obtain ⟨k1, k2⟩ := a.sh.row q hq s hs
        exact ⟨by rw [List.length_append, k1, zrs_len], can_append k2 (zrs_can (by omega))⟩
      · exact zz r (.inl h)
    · obtain ⟨q, hq, rfl⟩ := List.mem_map.mp h
      rcases List.mem_append.mp hr with h | h
      · exact zz r (.inr h)
      · obtain ⟨s, hs, rfl⟩ := List.mem_map.mp h
        obtain ⟨k1, k2⟩ := b.sh.row q hq s hs
        exact ⟨by rw [List.length_append, k1, zrs_len], can_append (zrs_can (by omega)) k2⟩
  · have lz : ∀ (k : Nat), cv K ((List.replicate k (zrs (n + m))).getD j []) c = 0 := fun k => by
      by_cases z : j < k
      · rw [getD_at (by rw [List.length_replicate]; exact z), List.getElem_replicate]
        exact cv_zeros _ _
      · rw [List.getD_eq_getElem?_getD, List.getElem?_eq_none (by rw [List.length_replicate]; omega)]
        exact cv_out (Nat.zero_le _)
    have lz2 : ∀ (k l : Nat), cv K ((List.replicate k (zrs (n + m))).getD l []) c = 0 := fun k l => by
      by_cases z : l < k
      · rw [getD_at (by rw [List.length_replicate]; exact z), List.getElem_replicate]
        exact cv_zeros _ _
      · rw [List.getD_eq_getElem?_getD, List.getElem?_eq_none (by rw [List.length_replicate]; omega)]
        exact cv_out (Nat.zero_le _)
    unfold tb besL besT
    rw [getD_app, List.length_map, a.sh.len]
    by_cases hi' : i < n
    · rw [if_pos hi', if_pos hi', getD_map (d := []) (by rw [a.sh.len]; exact hi'), getD_app, List.length_map, al i hi']
      by_cases hj' : j < n
      · rw [if_pos hj', if_pos hj', getD_map (d := []) (by rw [al i hi']; exact hj'), cv_append, (a.sh.at_ hi' hj').1]
        by_cases hc' : c < n
        · rw [if_pos hc', if_pos hc']
        · rw [if_neg hc', if_neg hc']; exact cv_zeros _ _
      · rw [if_neg hj', if_neg hj']; exact lz2 _ _
    · rw [if_neg hi', if_neg hi', getD_map (d := []) (by rw [b.sh.len]; omega), getD_app, List.length_replicate]
      by_cases hj' : j < n
      · rw [if_pos hj', if_pos hj']; exact lz2 _ _
      · rw [if_neg hj', if_neg hj', getD_map (d := []) (by rw [bl _ (by omega)]; omega), cv_append, zrs_len]
        by_cases hc' : c < n
        · rw [if_pos hc', if_pos hc']; exact cv_zeros _ _
        · rw [if_neg hc', if_neg hc']
/-! ### other base members -/
def unitsL (n : Nat) : List (List Int) := (List.range n).map (unitL n)
theorem units_len (n : Nat) : (unitsL n).length = n := by unfold unitsL; rw [List.length_map, List.length_range]
theorem units_row (hp : 1 < p) : ∀ r ∈ unitsL n, r.length = n ∧ Can p r := fun r hr => by
  obtain ⟨k, _, rfl⟩ := List.mem_map.mp hr
  exact ⟨unit_len _ _, can_unit hp⟩
theorem units_cv {k c : Nat} (hk : k < n) (hc : c < n) : cv K ((unitsL n).getD k []) c = dlt c k := by
  unfold unitsL
  rw [getD_map_range hk, cv_unit]
  unfold dlt
  by_cases z : c = k
  · rw [if_pos ⟨z, hc⟩, if_pos z]
  · rw [if_neg fun h => z h.1, if_neg z]
abbrev rws (K : Type) [CommRing K] (l : List (List Int)) : Nat → Nat → K := fun k => cv K (l.getD k [])
structure Bases (K : Type) [CommRing K] (p n : Nat) (one back : List (List Int)) : Prop where
  l1 : one.length = n
  l2 : back.length = n
  r1 : ∀ r ∈ one, r.length = n ∧ Can p r
  r2 : ∀ r ∈ back, r.length = n ∧ Can p r
  pq : Und n (rws K one) (rws K back)
  qp : Und n (rws K back) (rws K one)
theorem und_units : Und n (rws K (unitsL n)) (rws K (unitsL n)) := fun k hk c hc => by
  show (sm n fun i => cv K ((unitsL n).getD k []) i * cv K ((unitsL n).getD i []) c) = _
  rw [sm_congr (g := fun i => dlt i k * dlt c i) fun i hi => by rw [units_cv hk hi, units_cv hi hc]]
  exact dlt_sum (x := fun i => dlt i k) hc
theorem bases_unit (hp : 1 < p) : Bases K p n (unitsL n) (unitsL n) := ⟨units_len n, units_len n, units_row hp, units_row hp, und_units, und_units⟩
def backL (p n : Nat) (i j : Nat) (f : Int) (back : List (List Int)) : List (List Int) := back.map fun row => (List.range n).map fun k => (row.getD k 0 - f * row.getD i 0 * (if k = j then 1 else 0)) % (p : Int)
theorem bases_step (hp : 1 < p) {one back : List (List Int)} {i j : Nat} {f : Int} (b : Bases K p n one back) (hi : i < n) (hj : j < n) (ne : i ≠ j) : Bases K p n (one.set i (plusL p (one.getD i []) (one.getD j []) f)) (backL p n i j f back) := by
  have r1 : ∀ k, k < n → (one.getD k []).length = n ∧ Can p (one.getD k []) := fun k hk => by
    have := b.l1
    rw [getD_at (by omega)]; exact b.r1 _ (List.getElem_mem _)
  have eo : ∀ k, k < n → (one.set i (plusL p (one.getD i []) (one.getD j []) f)).getD k [] = if k = i then plusL p (one.getD i []) (one.getD j []) f else one.getD k [] := fun k hk => by
    have := b.l1
    rw [getD_at (by rw [List.length_set]; omega), List.getElem_set]
    by_cases z : i = k
    · rw [if_pos z, if_pos z.symm]
    · rw [if_neg z, if_neg (Ne.symm z)]
      exact (getD_at (by omega)).symm
  have eb : ∀ k, k < n → ∀ c, c < n → cv K ((backL p n i j f back).getD k []) c = cv K (back.getD k []) c - ci K f * cv K (back.getD k []) i * dlt c j := fun k hk c hc => by
    have := b.l2
    unfold backL
    rw [getD_map (d := []) (by omega)]
    unfold cv
    rw [getD_map_range hc, cast_mod, ci_sub, ci_mul, ci_mul]
    congr 2
    unfold dlt
    by_cases z : c = j
    · rw [if_pos z, if_pos z]; exact ci_one
    · rw [if_neg z, if_neg z]; exact ci_zero
  have sh : Shear n (rws K one) (rws K back) (rws K (one.set i (plusL p (one.getD i []) (one.getD j []) f))) (rws K (backL p n i j f back)) i j (ci K f) := by
    refine ⟨hi, hj, ne, fun k hk c hc => ?_, eb⟩
    show cv K ((one.set i (plusL p (one.getD i []) (one.getD j []) f)).getD k []) c = _
    rw [eo k hk]
    by_cases z : k = i
    · rw [if_pos z, cv_plus (by rw [(r1 i hi).1, (r1 j hj).1]), z]
      unfold dlt
      rw [if_pos rfl]
      grind
    · rw [if_neg z]
      unfold dlt
      rw [if_neg z]
      grind
  refine ⟨by rw [List.length_set, b.l1], by unfold backL; rw [List.length_map, b.l2], fun r hr => ?_, fun r hr => ?_, shear_pq sh b.pq, shear_qp sh b.qp⟩
  · rcases List.mem_or_eq_of_mem_set hr with h | h
    · exact b.r1 r h
    · rw [h]
      exact ⟨by rw [plus_len (by rw [(r1 i hi).1, (r1 j hj).1]), (r1 i hi).1], can_plus (by omega)⟩
  · obtain ⟨q, hq, rfl⟩ := List.mem_map.mp hr
    refine ⟨by rw [List.length_map, List.length_range], fun x hx => ?_⟩
    obtain ⟨k, _, rfl⟩ := List.mem_map.mp hx
    exact ⟨Int.emod_nonneg _ (by omega), Int.emod_lt_of_pos _ (by omega)⟩
theorem good_re {t t' : List (List (List Int))} {one back : List (List Int)} (g : Good K p n t) (b : Bases K p n one back) (s : Shape p n t') (h : ∀ i, i < n → ∀ j, j < n → Eq n (tb K t' i j) (lc n (mul n (tb K t) (cv K (one.getD i [])) (cv K (one.getD j []))) (rws K back))) : Good K p n t' := by
  obtain ⟨u, hu⟩ := g.one
  exact good_congr (T := reT n (tb K t) (rws K one) (rws K back)) s h (re_assoc b.qp g.asc) ⟨_, re_one b.qp b.pq hu⟩
end
end TRM

/-! Products and powers on lists. Plain Lean. -/
namespace TRM
open Lean.Grind
def mulV (p n : Nat) (t : List (List (List Int))) (a b : List Int) : List Int := (List.range n).map fun k => (sm n fun i => a.getD i 0 * sm n fun j => b.getD j 0 * tbI t i j k) % (p : Int)
/-- a row led by a table -/
def ledI (p n m : Nat) (tbl : List (List Int)) (row : List Int) : List Int := (List.range n).map fun k => (sm m fun i => row.getD i 0 * (tbl.getD i []).getD k 0) % (p : Int)
def powL (p n : Nat) (t : List (List (List Int))) : Nat → Nat → List Int → List Int → List Int
  | 0, _, f, _ => f
  | k + 1, e, f, x => if e = 0 then f else powL p n t k (e / 2) (if e % 2 = 1 then mulV p n t f x else f) (mulV p n t x x)
structure Row (p n : Nat) (l : List Int) : Prop where
  len : l.length = n
  can : Can p l
theorem row_map {p n : Nat} (hp : 0 < p) (f : Nat → Int) : Row p n ((List.range n).map fun k => f k % (p : Int)) := ⟨by rw [List.length_map, List.length_range], fun x hx => by
  obtain ⟨k, _, rfl⟩ := List.mem_map.mp hx
  exact ⟨Int.emod_nonneg _ (by omega), Int.emod_lt_of_pos _ (by omega)⟩⟩
section
variable {K : Type} [CommRing K] {p n m : Nat} [IsCharP K p] {t : List (List (List Int))}
theorem cv_map_range {f : Nat → Int} {k : Nat} (hk : k < n) : cv K ((List.range n).map f) k = ci K (f k) := by
  unfold cv
  rw [getD_map_range hk]
theorem mulV_row (hp : 0 < p) (a b : List Int) : Row p n (mulV p n t a b) := row_map hp _
theorem ledI_row (hp : 0 < p) (tbl : List (List Int)) (a : List Int) : Row p n (ledI p n m tbl a) := row_map hp _
theorem mulV_cv (a b : List Int) : Eq n (cv K (mulV p n t a b)) (mul n (tb K t) (cv K a) (cv K b)) := fun k hk => by
  unfold mulV
  rw [cv_map_range hk, cast_mod, ci_sm]
  refine sm_congr fun i _ => ?_
  rw [ci_mul, ci_sm]
  congr 1
  exact sm_congr fun j _ => ci_mul _ _
theorem ledI_cv (tbl : List (List Int)) (a : List Int) : Eq n (cv K (ledI p n m tbl a)) (fun c => sm m fun i => cv K a i * cv K (tbl.getD i []) c) := fun k hk => by
  unfold ledI
  rw [cv_map_range hk, cast_mod, ci_sm]
  exact sm_congr fun i _ => ci_mul _ _
theorem Row.eq {x y : List Int} (hx : Row p n x) (hy : Row p n y) (h : Eq n (cv K x) (cv K y)) : x = y := row_eq hx.len hx.can hy.len hy.can h
theorem powL_ok (hp : 0 < p) {u : Nat → K} (ha : Assoc n (tb K t)) (hu : IsOne n (tb K t) u) : ∀ (k e : Nat) (f x : List Int), e < 2 ^ k → Row p n f → Row p n (powL p n t k e f x) ∧ Eq n (cv K (powL p n t k e f x)) (mul n (tb K t) (cv K f) (pw n (tb K t) u (cv K x) e))
  | 0, e, f, x, he, hf => by
    have : e = 0 := by simpa using he
    subst this
    exact ⟨hf, (mul_one hu _).symm⟩
  | k + 1, e, f, x, he, hf => by
    unfold powL
    by_cases z : e = 0
    · rw [if_pos z, z]
      exact ⟨hf, (mul_one hu _).symm⟩
    · rw [if_neg z]
      have he' : e / 2 < 2 ^ k := by rw [Nat.pow_succ] at he; omega
      have hf' : Row p n (if e % 2 = 1 then mulV p n t f x else f) := by
        split
        · exact mulV_row hp f x
        · exact hf
      obtain ⟨h1, h2⟩ := powL_ok hp ha hu k (e / 2) (if e % 2 = 1 then mulV p n t f x else f) (mulV p n t x x) he' hf'
      refine ⟨h1, h2.trans ?_⟩
      have hsq : Eq n (pw n (tb K t) u (cv K (mulV p n t x x)) (e / 2)) (pw n (tb K t) u (mul n (tb K t) (cv K x) (cv K x)) (e / 2)) := pw_congr ha hu (mulV_cv x x) _
      by_cases o : e % 2 = 1
      · rw [if_pos o]
        have h3 := mul_congr (T := tb K t) (mulV_cv (p := p) (t := t) (n := n) f x) hsq
        have h4 := (pw_step ha hu (mul n (tb K t) (cv K f) (cv K x)) (cv K x) (e / 2)).symm
        have h5 := (pw_odd ha hu (cv K f) (cv K x) (2 * (e / 2))).symm
        rw [show 2 * (e / 2) + 1 = e by omega] at h5
        exact h3.trans (h4.trans h5)
      · rw [if_neg o]
        have h3 := mul_congr (T := tb K t) (Eq.refl (cv K f)) hsq
        have h4 := (pw_step ha hu (cv K f) (cv K x) (e / 2)).symm
        rw [show 2 * (e / 2) = e by omega] at h4
        exact h3.trans h4
/-- the power -/
theorem pow_ok (hp : 0 < p) {one : List Int} (h1 : Row p n one) (ha : Assoc n (tb K t)) (hu : IsOne n (tb K t) (cv K one)) {k e : Nat} (he : e < 2 ^ k) (x : List Int) : Row p n (powL p n t k e one x) ∧ Eq n (cv K (powL p n t k e one x)) (pw n (tb K t) (cv K one) (cv K x) e) := by
  obtain ⟨a, b⟩ := powL_ok hp ha hu k e one x he h1
  exact ⟨a, b.trans (one_mul hu _)⟩
theorem pow_succ (hp : 0 < p) {one : List Int} (h1 : Row p n one) (ha : Assoc n (tb K t)) (hu : IsOne n (tb K t) (cv K one)) {k e : Nat} (he : e + 1 < 2 ^ k) (x : List Int) : mulV p n t (powL p n t k e one x) x = powL p n t k (e + 1) one x := by
  obtain ⟨a, b⟩ := pow_ok hp h1 ha hu (show e < 2 ^ k by omega) x
  obtain ⟨c, d⟩ := pow_ok hp h1 ha hu he x
  exact (mulV_row hp _ _).eq c ((mulV_cv _ _).trans ((mul_congr b (Eq.refl _)).trans d.symm))
theorem plus_row (hp : 0 < p) {a b : List Int} {f : Int} (ha : Row p n a) (hb : Row p n b) : Row p n (plusL p a b f) := ⟨by rw [plus_len (by rw [ha.len, hb.len]), ha.len], can_plus hp⟩
theorem distrib (K : Type) [CommRing K] [IsCharP K p] (hp : 0 < p) {a b c : List Int} (hb : Row p n b) (hc : Row p n c) : mulV p n t a (plusL p b c 1) = plusL p (mulV p n t a b) (mulV p n t a c) 1 := by
  have r1 := mulV_row (n := n) (t := t) hp a b
  have r2 := mulV_row (n := n) (t := t) hp a c
  refine (mulV_row hp _ _).eq (K := K) (plus_row hp r1 r2) ((mulV_cv _ _).trans ?_)
  rw [cv_plus (by rw [hb.len, hc.len]), cv_plus (by rw [r1.len, r2.len])]
  have e : (fun i => cv K b i + ci K 1 * cv K c i) = fun i => cv K b i + cv K c i := by funext i; rw [ci_one]; grind
  rw [e]
  refine (mul_add _ _ _).trans fun k hk => ?_
  dsimp only
  rw [mulV_cv a b k hk, mulV_cv a c k hk, ci_one]
  grind
theorem grouped (hp : 0 < p) (ha : Assoc n (tb K t)) (a b c : List Int) : mulV p n t (mulV p n t a b) c = mulV p n t a (mulV p n t b c) := by
  refine (mulV_row hp _ _).eq (K := K) (mulV_row hp _ _) ((mulV_cv _ _).trans ?_)
  exact (mul_congr (mulV_cv _ _) (Eq.refl _)).trans ((mul_assoc ha _ _ _).trans ((mul_congr (Eq.refl _) (mulV_cv b c)).symm.trans (mulV_cv _ _).symm))
end
theorem times_plus {p n : Nat} (f : Int) {a : List Int} (ha : a.length = n) : plusL p (zrs n) a (f % (p : Int)) = scaleL p f a := by
  unfold plusL scaleL zrs
  refine List.ext_getElem (by rw [List.length_zipWith, List.length_map, List.length_replicate]; omega) fun i h1 h2 => ?_
  rw [List.getElem_zipWith, List.getElem_map, List.getElem_replicate, Int.zero_add, Int.mul_emod, Int.emod_emod_of_dvd _ (Int.dvd_refl _), ← Int.mul_emod]
end TRM

set_option maxHeartbeats 4000000
/-! Data-level layer over the hand layer: data D, what stands for it in a heap, readings refined by functions on data. -/
namespace TR
open PySem PySem.Spec PyProof.Rows L2

inductive D where
  | non | bl (b : Bool) | int (i : Int) | str (s : Str)
  | tup (ds : List D) | lst (ds : List D) | scr (ns : List Int) | kt (ns : List Int)
  | dic (kvs : List (Str × D)) | dit (kvs : List (List Int × D)) | obj (k : Nat) (fs : List D)

/-! ### heaps that grow -/
def Ex (H H' : Hp) : Prop := ∀ a o, H a = some o → H' a = some o
theorem Ex.refl (H : Hp) : Ex H H := fun _ _ h => h
theorem Ex.trans {H H1 H2 : Hp} (a : Ex H H1) (b : Ex H1 H2) : Ex H H2 := fun x o h => b x o (a x o h)
theorem Ex.new {H : Hp} {p : Addr} {o : HO} (h : H p = none) : Ex H (upd H p o) := fun a u e => by
  rw [upd_ne (ne_of_none e h)]
  exact e
theorem Ex.none {G H : Hp} {p : Addr} (e : Ex G H) (h : H p = none) : G p = none := by
  cases q : G p with
  | none => rfl
  | some o => rw [e p o q] at h; cases h
theorem ex_rd {H H' : Hp} {a : Addr} {u : HO} (e : Ex H H') (h : Rd H a u) : Rd H' a u := by
  rcases h with h | ⟨o, h⟩
  · exact .inl (e a _ h)
  · exact .inr ⟨o, e a _ h⟩
theorem ex_l {K : PySem.W.Frag} {H H' : Hp} {a : Addr} {xs : List V} (e : Ex H H') (h : SqL K H a xs) : SqL K H' a xs := by
  rcases h with h | h
  · exact .inl (ex_rd e h)
  · exact .inr h
theorem ex_t {K : PySem.W.Frag} {H H' : Hp} {a : Addr} {xs : List V} (e : Ex H H') (h : SqT K H a xs) : SqT K H' a xs := by
  rcases h with h | h
  · exact .inl (ex_rd e h)
  · exact .inr h
theorem ex_s {H H' : Hp} {a C dx : Addr} {vs : List (Option V)} (e : Ex H H') (h : SlX.Slt H a C dx vs) : SlX.Slt H' a C dx vs := by
  rcases h with ⟨h1, h2⟩ | ⟨h1, h2⟩
  · exact .inl ⟨e _ _ h1, h2⟩
  · exact .inr ⟨e _ _ h1, e _ _ h2⟩

/-! ### what a value stands for -/
section
variable (K : PySem.W.Frag) (C : Nat → Addr) (G : Hp)
mutual
inductive Rep : V → D → Prop
  | non : Rep .non .non
  | bl (b : Bool) : Rep (.bl b) (.bl b)
  | int (i : Int) : Rep (.int i) (.int i)
  | str (s : Str) : Rep (.str s) (.str s)
  | tup {a : Addr} {xs : List V} {ds : List D} : SqT K G a xs → Reps xs ds → Rep (.ref a) (.tup ds)
  | lst {a : Addr} {xs : List V} {ds : List D} : G a = some (.lst xs) → Reps xs ds → Rep (.ref a) (.lst ds)
  | scr {a : Addr} {ns : List Int} : SqL K G a (ns.map V.int) → Rep (.ref a) (.scr ns)
  | kt {a : Addr} {ns : List Int} : G a = some (.tup (ns.map V.int)) → Rep (.ref a) (.kt ns)
  | dic {a : Addr} {kvs : List (Key × V)} {kds : List (Str × D)} : G a = some (.dK kvs) → Repk kvs kds → Rep (.ref a) (.dic kds)
  | dit {a : Addr} {kvs : List (List Key × V)} {kds : List (List Int × D)} : G a = some (.dT kvs) → Rept kvs kds → Rep (.ref a) (.dit kds)
  | obj {a dx : Addr} {k : Nat} {vs : List V} {fs : List D} : SlX.Slt G a (C k) dx (vs.map some) → Reps vs fs → Rep (.ref a) (.obj k fs)
inductive Reps : List V → List D → Prop
  | nil : Reps [] []
  | cons {v : V} {d : D} {vs : List V} {ds : List D} : Rep v d → Reps vs ds → Reps (v :: vs) (d :: ds)
inductive Repk : List (Key × V) → List (Str × D) → Prop
  | nil : Repk [] []
  | cons {v : V} {d : D} {s : Str} {vs : List (Key × V)} {ds : List (Str × D)} : Rep v d → Repk vs ds → Repk ((.inr s, v) :: vs) ((s, d) :: ds)
inductive Rept : List (List Key × V) → List (List Int × D) → Prop
  | nil : Rept [] []
  | cons {v : V} {d : D} {s : List Int} {vs : List (List Key × V)} {ds : List (List Int × D)} : Rep v d → Rept vs ds → Rept ((s.map Sum.inl, v) :: vs) ((s, d) :: ds)
end
end
section
variable {K : PySem.W.Frag} {C : Nat → Addr} {G G' H H' : Hp}
theorem Rep.mono (e : Ex G G') {v : V} {d : D} (h : Rep K C G v d) : Rep K C G' v d :=
  Rep.rec (motive_1 := fun v d _ => Rep K C G' v d) (motive_2 := fun v d _ => Reps K C G' v d) (motive_3 := fun v d _ => Repk K C G' v d) (motive_4 := fun v d _ => Rept K C G' v d)
    .non .bl .int .str (fun h _ i => .tup (ex_t e h) i) (fun h _ i => .lst (e _ _ h) i) (fun h => .scr (ex_l e h)) (fun h => .kt (e _ _ h)) (fun h _ i => .dic (e _ _ h) i) (fun h _ i => .dit (e _ _ h) i) (fun h _ i => .obj (ex_s e h) i)
    .nil (fun _ _ a b => .cons a b) .nil (fun _ _ a b => .cons a b) .nil (fun _ _ a b => .cons a b) h
theorem Reps.mono (e : Ex G G') : ∀ {vs : List V} {ds : List D}, Reps K C G vs ds → Reps K C G' vs ds
  | _, _, .nil => .nil
  | _, _, .cons a b => .cons (a.mono e) (Reps.mono e b)
theorem Reps.length : ∀ {vs : List V} {ds : List D}, Reps K C G vs ds → vs.length = ds.length
  | _, _, .nil => rfl
  | _, _, .cons _ b => congrArg (· + 1) (Reps.length b)
theorem Reps.append : ∀ {vs ws : List V} {ds es : List D}, Reps K C G vs ds → Reps K C G ws es → Reps K C G (vs ++ ws) (ds ++ es)
  | _, _, _, _, .nil, s => s
  | _, _, _, _, .cons a b, s => .cons a (Reps.append b s)
theorem Reps.get : ∀ {vs : List V} {ds : List D} {i : Nat} {d : D}, Reps K C G vs ds → ds[i]? = some d → ∃ v, vs[i]? = some v ∧ Rep K C G v d
  | _, _, _, _, .nil, e => by simp at e
  | _, _, 0, _, .cons a _, e => by simp at e; subst e; exact ⟨_, rfl, a⟩
  | _, _, i + 1, d, .cons _ b, e => by
    obtain ⟨v, h1, h2⟩ := Reps.get (i := i) (d := d) b (by simpa using e)
    exact ⟨v, by simpa using h1, h2⟩
theorem Reps.getV : ∀ {vs : List V} {ds : List D} {i : Nat} {v : V}, Reps K C G vs ds → vs[i]? = some v → ∃ d, ds[i]? = some d ∧ Rep K C G v d
  | _, _, _, _, .nil, e => by simp at e
  | _, _, 0, _, .cons a _, e => by simp at e; subst e; exact ⟨_, rfl, a⟩
  | _, _, i + 1, v, .cons _ b, e => by
    obtain ⟨d, h1, h2⟩ := Reps.getV (i := i) (v := v) b (by simpa using e)
    exact ⟨d, by simpa using h1, h2⟩
theorem Reps.take : ∀ {vs : List V} {ds : List D} (n : Nat), Reps K C G vs ds → Reps K C G (vs.take n) (ds.take n)
  | _, _, 0, _ => .nil
  | _, _, _ + 1, .nil => .nil
  | _, _, n + 1, .cons a b => .cons a (Reps.take n b)
theorem Reps.drop : ∀ {vs : List V} {ds : List D} (n : Nat), Reps K C G vs ds → Reps K C G (vs.drop n) (ds.drop n)
  | _, _, 0, r => r
  | _, _, _ + 1, .nil => .nil
  | _, _, n + 1, .cons _ b => Reps.drop n b
theorem Reps.set {v : V} {d : D} (r : Rep K C G v d) : ∀ {vs : List V} {ds : List D} (i : Nat), Reps K C G vs ds → Reps K C G (vs.set i v) (ds.set i d)
  | _, _, _, .nil => .nil
  | _, _, 0, .cons _ b => .cons r b
  | _, _, i + 1, .cons a b => .cons a (Reps.set r i b)
theorem Reps.dropLast : ∀ {vs : List V} {ds : List D}, Reps K C G vs ds → Reps K C G vs.dropLast ds.dropLast := fun {vs ds} h => by
  rw [List.dropLast_eq_take, List.dropLast_eq_take, h.length]
  exact h.take _
theorem Reps.rep {vs : List V} {ds : List D} (h : Reps K C G vs ds) : ∀ n : Nat, Reps K C G (List.replicate n vs).flatten (List.replicate n ds).flatten
  | 0 => .nil
  | n + 1 => by rw [List.replicate_succ, List.replicate_succ, List.flatten_cons, List.flatten_cons]; exact h.append (Reps.rep h n)
theorem Reps.ints : ∀ ns : List Int, Reps K C G (ns.map V.int) (ns.map D.int)
  | [] => .nil
  | n :: r => .cons (.int n) (Reps.ints r)
theorem Reps.of_ints : ∀ {vs : List V} {ns : List Int}, Reps K C G vs (ns.map D.int) → vs = ns.map V.int
  | _, [], .nil => rfl
  | _, n :: r, .cons a b => by cases a; rw [Reps.of_ints b]; rfl
theorem Reps.bools : ∀ ns : List Bool, Reps K C G (ns.map V.bl) (ns.map D.bl)
  | [] => .nil
  | n :: r => .cons (.bl n) (Reps.bools r)
theorem Reps.of_bools : ∀ {vs : List V} {ns : List Bool}, Reps K C G vs (ns.map D.bl) → vs = ns.map V.bl
  | _, [], .nil => rfl
  | _, n :: r, .cons a b => by cases a; rw [Reps.of_bools b]; rfl

theorem tab_upd {H : Hp} {x p : Addr} {o : HO} (h : GxR.TabG H x) (n : x ≠ p) : GxR.TabG (upd H p o) x := by
  obtain ⟨ps, e, t⟩ := h
  exact ⟨ps, by rw [upd_ne n]; exact e, t⟩

/-! ### a step: what is kept, what is new -/
structure Step (a : Option Addr) (G H G' H' : Hp) : Prop where
  g : Ex G G'
  fr : ∀ x, G x = none → H x ≠ none → G' x = none
  h : ∀ x o, H x = some o → some x ≠ a → (∀ q, o ≠ .tbl q) → H' x = some o
  tb : ∀ x, GxR.TabG H x → GxR.TabG H' x
  dm : ∀ x, H' x = none → H x = none
  gh : Ex G' H'
theorem Step.refl {a : Option Addr} (e : Ex G H) : Step a G H G H := ⟨.refl _, fun _ h _ => h, fun _ _ h _ _ => h, fun _ h => h, fun _ h => h, e⟩
theorem Step.trans {a : Option Addr} {G1 H1 : Hp} (s : Step a G H G1 H1) (t : Step a G1 H1 G' H') : Step a G H G' H' :=
  ⟨s.g.trans t.g, fun x h1 h2 => t.fr x (s.fr x h1 h2) fun z => h2 (s.dm x z), fun x o h1 h2 h3 => t.h x o (s.h x o h1 h2 h3) h2 h3, fun x z => t.tb x (s.tb x z), fun x z => s.dm x (t.dm x z), t.gh⟩
theorem Step.any {a : Option Addr} (s : Step none G H G' H') : Step a G H G' H' := ⟨s.g, s.fr, fun x o h _ => s.h x o h (by simp), s.tb, s.dm, s.gh⟩
theorem ne_fresh {p x : Addr} (hp : H p = none) (h : H x ≠ none) : x ≠ p := fun z => h (by rw [z]; exact hp)
/-- a new object, known to be frozen -/
theorem Step.new {a : Option Addr} {p : Addr} {o : HO} (e : Ex G H) (hp : H p = none) : Step a G H (upd G p o) (upd H p o) where
  g := .new (e.none hp)
  fr := fun x h1 h2 => by rw [upd_ne (ne_fresh hp h2)]; exact h1
  h := fun x u h1 _ _ => by rw [upd_ne (ne_of_none h1 hp)]; exact h1
  tb := fun x h1 => tab_upd h1 (fun z => by obtain ⟨ps, e, _⟩ := h1; rw [z, hp] at e; cases e)
  dm := fun x h1 => by
    by_cases z : x = p
    · rw [z]; exact hp
    · rw [upd_ne z] at h1; exact h1
  gh := fun x u h1 => by
    by_cases z : x = p
    · rw [z, upd_same] at h1 ⊢; exact h1
    · rw [upd_ne z] at h1 ⊢; exact e x u h1
/-- a new object of one's own -/
theorem Step.newH {a : Option Addr} {p : Addr} {o : HO} (e : Ex G H) (hp : H p = none) : Step a G H G (upd H p o) where
  g := .refl _
  fr := fun x h1 _ => h1
  h := fun x u h1 _ _ => by rw [upd_ne (ne_of_none h1 hp)]; exact h1
  tb := fun x h1 => tab_upd h1 (fun z => by obtain ⟨ps, e, _⟩ := h1; rw [z, hp] at e; cases e)
  dm := fun x h1 => by
    by_cases z : x = p
    · rw [z]; exact hp
    · rw [upd_ne z] at h1; exact h1
  gh := fun x u h1 => by rw [upd_ne (ne_of_none (e x u h1) hp)]; exact e x u h1
/-- a list of one's own, made known as it stands -/
theorem Step.freeze {a : Option Addr} {p : Addr} {o : HO} {G1 H1 : Hp} (s : Step a G H G1 H1) (e : Ex G H) (hp : H p = none) (ho : H1 p = some o) : Step a G H (upd G1 p o) H1 where
  g := fun x u h1 => by
    rw [upd_ne (ne_of_none (e x u h1) hp)]
    exact s.g x u h1
  fr := fun x h1 h2 => by rw [upd_ne (ne_fresh hp h2)]; exact s.fr x h1 h2
  h := s.h
  tb := s.tb
  dm := s.dm
  gh := fun x u h1 => by
    by_cases z : x = p
    · rw [z, upd_same] at h1; rw [z, ho]; exact h1
    · rw [upd_ne z] at h1; exact s.gh x u h1
/-- a list of one's own changes -/
theorem Step.mut {a : Option Addr} {p : Addr} {o : HO} {G1 H1 : Hp} (s : Step a G H G1 H1) (hg : G1 p = none) (hp : H p = none ∨ a = some p) (hl : ∃ vs, H1 p = some (.lst vs)) : Step a G H G1 (upd H1 p o) where
  g := s.g
  fr := s.fr
  tb := fun x h1 => by
    have h2 := s.tb x h1
    refine tab_upd h2 fun z => ?_
    obtain ⟨ps, e, _⟩ := h2
    obtain ⟨vs, e2⟩ := hl
    rw [z, e2] at e
    cases e
  h := fun x u h1 h2 h3 => by
    have z : x ≠ p := by
      rcases hp with z | z
      · exact ne_of_none h1 z
      · intro e; rw [e, z] at h2; exact h2 rfl
    rw [upd_ne z]; exact s.h x u h1 h2 h3
  dm := fun x h1 => by
    by_cases z : x = p
    · rw [z, upd_same] at h1; cases h1
    · rw [upd_ne z] at h1; exact s.dm x h1
  gh := fun x u h1 => by rw [upd_ne (ne_of_none h1 hg)]; exact s.gh x u h1
end

/-! ### the state at the data level -/
/-- a slot: unbound, a value, a list of one's own, the tank -/
inductive SV where
  | un | val (d : D) | own (ds : List D) | tnk
abbrev Tn := Option (List D)
section
variable (K : PySem.W.Frag) (C : Nat → Addr)
def Tk (T : Tn) (a : Option Addr) (G H : Hp) : Prop := match T, a with
  | none, none => True
  | some ds, some p => ∃ vs, H p = some (.lst vs) ∧ G p = none ∧ Reps K C G vs ds
  | _, _ => False
/-- the table of code objects of the one def that makes a generator -/
structure Tb (C : Nat → Addr) (G H : Hp) : Prop where
  h : GxR.TabG H (C 9)
  g : G (C 9) = none
structure Ok (σ : L2.St) (ρ : List SV) (T : Tn) (a : Option Addr) (G H : Hp) : Prop where
  gh : Ex G H
  len : ρ.length = σ.length
  val : ∀ (i : Nat) (d : D), ρ[i]? = some (SV.val d) → ∃ v, σ[i]? = some (some v) ∧ Rep K C G v d
  own : ∀ (i : Nat) (ds : List D), ρ[i]? = some (SV.own ds) → ∃ p vs, σ[i]? = some (some (V.ref p)) ∧ H p = some (.lst vs) ∧ G p = none ∧ a ≠ some p ∧ Reps K C G vs ds
  dis : ∀ (i j : Nat) (ds es : List D) (p : Addr), ρ[i]? = some (SV.own ds) → ρ[j]? = some (SV.own es) → σ[i]? = some (some (V.ref p)) → σ[j]? = some (some (V.ref p)) → i = j
  tnk : ∀ (i : Nat), ρ[i]? = some SV.tnk → ∃ p, a = some p ∧ σ[i]? = some (some (V.ref p))
  tk : Tk K C T a G H
  tb : Tb C G H
end
section
variable {K : PySem.W.Frag} {C : Nat → Addr} {G G' H H' : Hp} {σ : L2.St} {ρ : List SV} {T T' : Tn} {a : Option Addr}
theorem Tk.pure (t : Tk K C T a G H) (s : Step none G H G' H') : Tk K C T a G' H' := by
  unfold Tk at t ⊢
  cases T with
  | none => cases a with
    | none => trivial
    | some p => exact t
  | some ds => cases a with
    | none => exact t
    | some p =>
      obtain ⟨vs, h1, h2, h3⟩ := t
      exact ⟨vs, s.h p _ h1 (fun z => nomatch z) (fun _ z => nomatch z), s.fr p h2 (by rw [h1]; exact fun z => nomatch z), h3.mono s.g⟩
theorem Tk.there (t : Tk K C T a G H) {p : Addr} (e : a = some p) : H p ≠ none ∧ G p = none := by
  subst e
  unfold Tk at t
  cases T with
  | none => exact t.elim
  | some ds =>
    obtain ⟨vs, h1, h2, h3⟩ := t
    exact ⟨by rw [h1]; exact (fun z => nomatch z), h2⟩
theorem Tb.step (t : Tb C G H) (s : Step a G H G' H') : Tb C G' H' := ⟨s.tb _ t.h, s.fr _ t.g (by obtain ⟨ps, e, _⟩ := t.h; rw [e]; exact (fun z => nomatch z))⟩
theorem Tb.ne_lst (t : Tb C G H) {p : Addr} {vs : List V} (h : H p = some (.lst vs)) : C 9 ≠ p := fun z => by
  obtain ⟨ps, e, _⟩ := t.h
  rw [z, h] at e
  cases e
theorem Ok.step (o : Ok K C σ ρ T a G H) (s : Step a G H G' H') (t : Tk K C T' a G' H') : Ok K C σ ρ T' a G' H' where
  gh := s.gh
  len := o.len
  val := fun i d e => by
    obtain ⟨v, h1, h2⟩ := o.val i d e
    exact ⟨v, h1, h2.mono s.g⟩
  own := fun i ds e => by
    obtain ⟨p, vs, h1, h2, h3, h4, h5⟩ := o.own i ds e
    exact ⟨p, vs, h1, s.h p _ h2 (Ne.symm h4) (fun _ z => nomatch z), s.fr p h3 (by rw [h2]; exact fun z => nomatch z), h4, h5.mono s.g⟩
  dis := o.dis
  tnk := o.tnk
  tk := t
  tb := o.tb.step s
theorem Ok.pure (o : Ok K C σ ρ T a G H) (s : Step none G H G' H') : Ok K C σ ρ T a G' H' := o.step s.any (o.tk.pure s)
end

/-! ### readings refined by functions on data -/
abbrev FE := List SV → Tn → Option (D × Tn)
abbrev FL := List SV → Tn → Option (List D × Tn)
abbrev FB := List SV → Tn → Option (Bool × Tn)
section
variable (K : PySem.W.Frag) (C : Nat → Addr)
/-- an expression -/
def Sd (te : TE) (f : FE) : Prop := ∀ σ ρ T a G H d T', Ok K C σ ρ T a G H → f ρ T = some (d, T') → ∀ Q : VK, (∀ v G' H', Step a G H G' H' → Tk K C T' a G' H' → Rep K C G' v d → Q v H') → te σ H Q
/-- a new list -/
def Sf (te : TE) (f : FL) : Prop := ∀ σ ρ T a G H ds T', Ok K C σ ρ T a G H → f ρ T = some (ds, T') → ∀ Q : VK, (∀ p vs G' H', Step a G H G' H' → Tk K C T' a G' H' → H p = none → H' p = some (.lst vs) → G' p = none → Reps K C G' vs ds → Q (.ref p) H') → te σ H Q
/-- arguments -/
def Sa (ta : TA) (f : FL) : Prop := ∀ σ ρ T a G H ds T', Ok K C σ ρ T a G H → f ρ T = some (ds, T') → ∀ Q : List V → Hp → Prop, (∀ vs G' H', Step a G H G' H' → Tk K C T' a G' H' → Reps K C G' vs ds → Q vs H') → ta σ H Q
/-- a test -/
def Sb (tt : TT) (f : FB) : Prop := ∀ σ ρ T a G H b T', Ok K C σ ρ T a G H → f ρ T = some (b, T') → ∀ Q : Bool → Hp → Prop, (∀ G' H', Step a G H G' H' → Tk K C T' a G' H' → Q b H') → tt σ H Q
/-- an operation on two values, on one, a call on values -/
def RD (r : R2) (o : D → D → Option D) : Prop := ∀ G H x y dx dy dz, Ex G H → Rep K C G x dx → Rep K C G y dy → o dx dy = some dz → ∀ Q : VK, (∀ v G' H', Step none G H G' H' → Rep K C G' v dz → Q v H') → r x y H Q
def UD (r : V → Hp → VK → Prop) (o : D → Option D) : Prop := ∀ G H x dx dz, Ex G H → Rep K C G x dx → o dx = some dz → ∀ Q : VK, (∀ v G' H', Step none G H G' H' → Rep K C G' v dz → Q v H') → r x H Q
def CD (r : List V → Hp → VK → Prop) (o : List D → Option D) : Prop := ∀ G H xs ds dz, Ex G H → Reps K C G xs ds → o ds = some dz → ∀ Q : VK, (∀ v G' H', Step none G H G' H' → Rep K C G' v dz → Q v H') → r xs H Q
end
structure PD (X : Cx) (C : Nat → Addr) (e : Expr) (te : TE) (f : FE) : Prop where
  pe : PE X e te
  sd : Sd X.K C te f
structure PF (X : Cx) (C : Nat → Addr) (e : Expr) (te : TE) (f : FL) : Prop where
  pe : PE X e te
  sd : Sf X.K C te f
structure PAD (X : Cx) (C : Nat → Addr) (es : List Expr) (ta : TA) (f : FL) : Prop where
  pe : PA X es ta
  sd : Sa X.K C ta f
structure PTD (X : Cx) (C : Nat → Addr) (e : Expr) (tt : TT) (f : FB) : Prop where
  pe : PT X e tt
  sd : Sb X.K C tt f

/-! ### the functions -/
def vr (i : Nat) : FE := fun ρ T => match ρ[i]? with
  | some (.val d) => some (d, T)
  | _ => none
def cD (d : D) : FE := fun _ T => some (d, T)
def bO (o : D → D → Option D) (f g : FE) : FE := fun ρ T => (f ρ T).bind fun p => (g ρ p.2).bind fun q => (o p.1 q.1).map fun z => (z, q.2)
def uO (o : D → Option D) (f : FE) : FE := fun ρ T => (f ρ T).bind fun p => (o p.1).map fun z => (z, p.2)
def cO (o : List D → Option D) (f : FL) : FE := fun ρ T => (f ρ T).bind fun p => (o p.1).map fun z => (z, p.2)
def aN : FL := fun _ T => some ([], T)
def aC (f : FE) (g : FL) : FL := fun ρ T => (f ρ T).bind fun p => (g ρ p.2).map fun q => (p.1 :: q.1, q.2)
def items : D → Option (List D)
  | .tup ds => some ds
  | .lst ds => some ds
  | _ => none
def aS (f : FE) (g : FL) : FL := fun ρ T => (f ρ T).bind fun p => (items p.1).bind fun xs => (g ρ p.2).map fun q => (xs ++ q.1, q.2)
def frz (f : FL) : FE := fun ρ T => (f ρ T).map fun p => (.lst p.1, p.2)
def tupE (f : FL) : FE := fun ρ T => (f ρ T).map fun p => (.tup p.1, p.2)
def tst (f : FE) : FB := fun ρ T => (f ρ T).bind fun p => match p.1 with
  | .bl b => some (b, p.2)
  | _ => none
def ifE (c : FB) (f g : FE) : FE := fun ρ T => (c ρ T).bind fun p => if p.1 = true then f ρ p.2 else g ρ p.2
def andB (c d : FB) : FB := fun ρ T => (c ρ T).bind fun p => if p.1 = true then d ρ p.2 else some (false, p.2)
def orB (c d : FB) : FB := fun ρ T => (c ρ T).bind fun p => if p.1 = true then some (true, p.2) else d ρ p.2
def notB (c : FB) : FB := fun ρ T => (c ρ T).map fun p => (!p.1, p.2)
def andE (c d : FE) : FE := fun ρ T => (tst c ρ T).bind fun p => if p.1 = true then d ρ p.2 else some (.bl false, p.2)
def orE (c d : FE) : FE := fun ρ T => (tst c ρ T).bind fun p => if p.1 = true then some (.bl true, p.2) else d ρ p.2
def notE (c : FE) : FE := fun ρ T => (tst c ρ T).map fun p => (.bl (!p.1), p.2)
def chE (o o' : D → D → Option D) (f g h : FE) : FE := fun ρ T => (f ρ T).bind fun p => (g ρ p.2).bind fun q => (o p.1 q.1).bind fun z => match z with
  | .bl true => (h ρ q.2).bind fun r => (o' q.1 r.1).map fun z => (z, r.2)
  | .bl false => some (.bl false, q.2)
  | _ => none

/-! ### the lemmas -/
section
variable {K : PySem.W.Frag} {C : Nat → Addr} {te ta tb tc : TE} {f g h : FE} {r r' : R2} {o o' : D → D → Option D}
theorem sd_var {i : Nat} : Sd K C (tVar i) (vr i) := fun σ ρ T a G H d T' ok e Q q => by
  unfold vr at e
  cases e1 : ρ[i]? with
  | none => rw [e1] at e; cases e
  | some s =>
    rw [e1] at e
    cases s with
    | val d' =>
      cases e
      obtain ⟨v, h1, h2⟩ := ok.val i _ e1
      exact ⟨v, h1, q v G H (.refl ok.gh) ok.tk h2⟩
    | _ => cases e
theorem sd_c {v : V} {d : D} (h : ∀ G, Rep K C G v d) : Sd K C (tC v) (cD d) := fun σ ρ T a G H d' T' ok e Q q => by
  cases e
  exact q v G H (.refl ok.gh) ok.tk (h G)
theorem sd_op (ha : Sd K C ta f) (hb : Sd K C tb g) (hr : RD K C r o) : Sd K C (tOp r ta tb) (bO o f g) := fun σ ρ T a G H d T' ok e Q q => by
  unfold bO at e
  obtain ⟨⟨x, T1⟩, e1, e⟩ := Option.bind_eq_some_iff.mp e
  obtain ⟨⟨y, T2⟩, e2, e⟩ := Option.bind_eq_some_iff.mp e
  obtain ⟨z, e3, e⟩ := Option.map_eq_some_iff.mp e
  cases e
  refine ha σ ρ T a G H x T1 ok e1 _ fun v G1 H1 s1 t1 r1 => hb σ ρ T1 a G1 H1 y T2 (ok.step s1 t1) e2 _ fun w G2 H2 s2 t2 r2 => ?_
  exact hr G2 H2 v w x y _ s2.gh (r1.mono s2.g) r2 e3 _ fun u G3 H3 s3 r3 => q u G3 H3 ((s1.trans s2).trans s3.any) (t2.pure s3) r3
theorem sd_un {r : V → Hp → VK → Prop} {o : D → Option D} (ha : Sd K C ta f) (hr : UD K C r o) : Sd K C (tUn r ta) (uO o f) := fun σ ρ T a G H d T' ok e Q q => by
  unfold uO at e
  obtain ⟨⟨x, T1⟩, e1, e⟩ := Option.bind_eq_some_iff.mp e
  obtain ⟨z, e3, e⟩ := Option.map_eq_some_iff.mp e
  cases e
  refine ha σ ρ T a G H x T1 ok e1 _ fun v G1 H1 s1 t1 r1 => ?_
  exact hr G1 H1 v x _ s1.gh r1 e3 _ fun u G3 H3 s3 r3 => q u G3 H3 (s1.trans s3.any) (t1.pure s3) r3
theorem sa_nil : Sa K C tNil aN := fun σ ρ T a G H d T' ok e Q q => by
  cases e
  exact q [] G H (.refl ok.gh) ok.tk .nil
theorem sa_cons {t : TA} {g : FL} (ha : Sd K C ta f) (hb : Sa K C t g) : Sa K C (tCons ta t) (aC f g) := fun σ ρ T a G H d T' ok e Q q => by
  unfold aC at e
  obtain ⟨⟨x, T1⟩, e1, e⟩ := Option.bind_eq_some_iff.mp e
  obtain ⟨⟨y, T2⟩, e2, e⟩ := Option.map_eq_some_iff.mp e
  cases e
  refine ha σ ρ T a G H x T1 ok e1 _ fun v G1 H1 s1 t1 r1 => hb σ ρ T1 a G1 H1 y T2 (ok.step s1 t1) e2 _ fun w G2 H2 s2 t2 r2 => ?_
  exact q _ G2 H2 (s1.trans s2) t2 (.cons (r1.mono s2.g) r2)
theorem sa_star {t : TA} {g : FL} (ha : Sd K C ta f) (hb : Sa K C t g) : Sa K C (StX.tStar K ta t) (aS f g) := fun σ ρ T a G H d T' ok e Q q => by
  unfold aS at e
  obtain ⟨⟨x, T1⟩, e1, e⟩ := Option.bind_eq_some_iff.mp e
  obtain ⟨xs, e4, e⟩ := Option.bind_eq_some_iff.mp e
  obtain ⟨⟨y, T2⟩, e2, e⟩ := Option.map_eq_some_iff.mp e
  cases e
  refine ha σ ρ T a G H x T1 ok e1 _ fun v G1 H1 s1 t1 r1 => ?_
  have key : ∃ p vs, v = .ref p ∧ (SqT K H1 p vs ∨ SqL K H1 p vs) ∧ Reps K C G1 vs xs := by
    cases r1 with
    | tup h1 h2 => cases e4; exact ⟨_, _, rfl, .inl (ex_t s1.gh h1), h2⟩
    | lst h1 h2 => cases e4; exact ⟨_, _, rfl, .inr (.of (s1.gh _ _ h1)), h2⟩
    | _ => cases e4
  obtain ⟨p, vs, hv, hs, hr⟩ := key
  exact ⟨p, vs, hv, hs, hb σ ρ T1 a G1 H1 y T2 (ok.step s1 t1) e2 _ fun w G2 H2 s2 t2 r2 => q _ G2 H2 (s1.trans s2) t2 ((hr.mono s2.g).append r2)⟩
theorem sd_call {r : List V → Hp → VK → Prop} {o : List D → Option D} {t : TA} {g : FL} (ha : Sa K C t g) (hr : CD K C r o) : Sd K C (tCB r t) (cO o g) := fun σ ρ T a G H d T' ok e Q q => by
  unfold cO at e
  obtain ⟨⟨x, T1⟩, e1, e⟩ := Option.bind_eq_some_iff.mp e
  obtain ⟨z, e3, e⟩ := Option.map_eq_some_iff.mp e
  cases e
  refine ha σ ρ T a G H x T1 ok e1 _ fun v G1 H1 s1 t1 r1 => ?_
  exact hr G1 H1 v x _ s1.gh r1 e3 _ fun u G3 H3 s3 r3 => q u G3 H3 (s1.trans s3.any) (t1.pure s3) r3
theorem sd_freeze {f : FL} (h : Sf K C te f) : Sd K C te (TR.frz f) := fun σ ρ T a G H d T' ok e Q q => by
  unfold TR.frz at e
  obtain ⟨⟨x, T1⟩, e1, e⟩ := Option.map_eq_some_iff.mp e
  cases e
  refine h σ ρ T a G H x T1 ok e1 _ fun p vs G1 H1 s1 t1 hn hp hg r1 => ?_
  have s2 := s1.freeze (o := .lst vs) ok.gh hn hp
  refine q (.ref p) _ H1 s2 ?_ (.lst upd_same (r1.mono (.new hg)))
  unfold Tk at t1 ⊢
  have tk0 := ok.tk
  cases T1 with
  | none => cases a with
    | none => trivial
    | some p => exact t1
  | some ds => cases a with
    | none => exact t1
    | some p' =>
      obtain ⟨ws, h1, h2, h3⟩ := t1
      have z : p' ≠ p := fun z => (tk0.there rfl).1 (by rw [z]; exact hn)
      exact ⟨ws, h1, by rw [upd_ne z]; exact h2, h3.mono (.new hg)⟩
def lenOk (f : FL) : FL := fun ρ T => (f ρ T).bind fun p => if p.1.length ≤ 100000 then some p else none
theorem sz_of {n : Nat} (h : n ≤ 100000) : n ≤ sizeLine := Nat.le_trans h (by decide)
theorem sz_lt {n : Nat} (h : n < 100000) : n < sizeLine := Nat.lt_of_lt_of_le h (by decide)
theorem sd_tup {t : TA} {g : FL} (ha : Sa K C t g) : Sd K C (tTup t) (tupE (lenOk g)) := fun σ ρ T a G H d T' ok e Q q => by
  unfold tupE lenOk at e
  obtain ⟨⟨x, T1⟩, e1, e⟩ := Option.map_eq_some_iff.mp e
  obtain ⟨⟨y, T2⟩, e2, e1⟩ := Option.bind_eq_some_iff.mp e1
  cases e
  split at e1
  · rename_i hl
    cases e1
    refine ha σ ρ T a G H x T1 ok e2 _ fun vs G1 H1 s1 t1 r1 => ⟨sz_of (by rw [r1.length]; exact hl), fun p hp => ?_⟩
    have s2 : Step none G1 H1 (upd G1 p (.tup vs)) (upd H1 p (.tup vs)) := .new s1.gh hp
    exact q _ _ _ (s1.trans s2.any) (t1.pure s2) (.tup (.of upd_same) (r1.mono s2.g))
  · cases e1
theorem sf_lst {t : TA} {g : FL} (ha : Sa K C t g) : Sf K C (tLst t) (lenOk g) := fun σ ρ T a G H ds T' ok e Q q => by
  unfold lenOk at e
  obtain ⟨⟨y, T2⟩, e2, e1⟩ := Option.bind_eq_some_iff.mp e
  split at e1
  · rename_i hl
    cases e1
    refine ha σ ρ T a G H _ _ ok e2 _ fun vs G1 H1 s1 t1 r1 => ⟨sz_of (by rw [r1.length]; exact hl), fun p hp => ?_⟩
    have s2 : Step none G1 H1 G1 (upd H1 p (.lst vs)) := .newH s1.gh hp
    exact q p vs G1 _ (s1.trans s2.any) (t1.pure s2) (s1.dm p hp) upd_same (s1.gh.none hp) r1
  · cases e1
theorem sb_test (h : Sd K C te f) : Sb K C (tTest te) (tst f) := fun σ ρ T a G H b T' ok e Q q => by
  unfold tst at e
  obtain ⟨⟨x, T1⟩, e1, e⟩ := Option.bind_eq_some_iff.mp e
  refine h σ ρ T a G H x T1 ok e1 _ fun v G1 H1 s1 t1 r1 => ?_
  cases r1 with
  | bl k => cases e; exact ⟨_, rfl, q G1 H1 s1 t1⟩
  | _ => cases e
theorem sb_B (h : Sd K C te f) : Sb K C (tB te) (tst f) := sb_test h
variable {tt uu : TT} {c d : FB}
theorem sb_and (h1 : Sb K C tt c) (h2 : Sb K C uu d) : Sb K C (tAnd tt uu) (andB c d) := fun σ ρ T a G H b T' ok e Q q => by
  unfold andB at e
  obtain ⟨⟨x, T1⟩, e1, e⟩ := Option.bind_eq_some_iff.mp e
  refine h1 σ ρ T a G H x T1 ok e1 _ fun G1 H1 s1 t1 => ?_
  cases x with
  | true => exact h2 σ ρ T1 a G1 H1 b T' (ok.step s1 t1) e _ fun G2 H2 s2 t2 => q G2 H2 (s1.trans s2) t2
  | false => cases e; exact q G1 H1 s1 t1
theorem sb_or (h1 : Sb K C tt c) (h2 : Sb K C uu d) : Sb K C (tOr tt uu) (orB c d) := fun σ ρ T a G H b T' ok e Q q => by
  unfold orB at e
  obtain ⟨⟨x, T1⟩, e1, e⟩ := Option.bind_eq_some_iff.mp e
  refine h1 σ ρ T a G H x T1 ok e1 _ fun G1 H1 s1 t1 => ?_
  cases x with
  | false => exact h2 σ ρ T1 a G1 H1 b T' (ok.step s1 t1) e _ fun G2 H2 s2 t2 => q G2 H2 (s1.trans s2) t2
  | true => cases e; exact q G1 H1 s1 t1
theorem sb_not (h1 : Sb K C tt c) : Sb K C (tNot tt) (notB c) := fun σ ρ T a G H b T' ok e Q q => by
  unfold notB at e
  obtain ⟨⟨x, T1⟩, e1, e⟩ := Option.map_eq_some_iff.mp e
  cases e
  exact h1 σ ρ T a G H x T1 ok e1 _ fun G1 H1 s1 t1 => q G1 H1 s1 t1
theorem sd_if (h1 : Sb K C tt c) (ha : Sd K C ta f) (hb : Sd K C tb g) : Sd K C (tIf tt ta tb) (ifE c f g) := fun σ ρ T a G H d T' ok e Q q => by
  unfold ifE at e
  obtain ⟨⟨x, T1⟩, e1, e⟩ := Option.bind_eq_some_iff.mp e
  refine h1 σ ρ T a G H x T1 ok e1 _ fun G1 H1 s1 t1 => ?_
  cases x with
  | true => exact ha σ ρ T1 a G1 H1 d T' (ok.step s1 t1) e _ fun v G2 H2 s2 t2 r => q v G2 H2 (s1.trans s2) t2 r
  | false => exact hb σ ρ T1 a G1 H1 d T' (ok.step s1 t1) e _ fun v G2 H2 s2 t2 r => q v G2 H2 (s1.trans s2) t2 r
theorem sd_and (ha : Sd K C ta f) (hb : Sd K C tb g) : Sd K C (tAndV ta tb) (andE f g) := fun σ ρ T a G H d T' ok e Q q => by
  unfold andE at e
  obtain ⟨⟨x, T1⟩, e1, e⟩ := Option.bind_eq_some_iff.mp e
  refine sb_test ha σ ρ T a G H x T1 ok e1 (fun b H' => if b = true then tb σ H' Q else Q (.bl false) H') fun G1 H1 s1 t1 => ?_
  cases x with
  | true => exact hb σ ρ T1 a G1 H1 d T' (ok.step s1 t1) e _ fun v G2 H2 s2 t2 r => q v G2 H2 (s1.trans s2) t2 r
  | false => cases e; exact q _ G1 H1 s1 t1 (.bl _)
theorem sd_or (ha : Sd K C ta f) (hb : Sd K C tb g) : Sd K C (tOrV ta tb) (orE f g) := fun σ ρ T a G H d T' ok e Q q => by
  unfold orE at e
  obtain ⟨⟨x, T1⟩, e1, e⟩ := Option.bind_eq_some_iff.mp e
  refine sb_test ha σ ρ T a G H x T1 ok e1 (fun b H' => if b = true then Q (.bl true) H' else tb σ H' Q) fun G1 H1 s1 t1 => ?_
  cases x with
  | false => exact hb σ ρ T1 a G1 H1 d T' (ok.step s1 t1) e _ fun v G2 H2 s2 t2 r => q v G2 H2 (s1.trans s2) t2 r
  | true => cases e; exact q _ G1 H1 s1 t1 (.bl _)
theorem sd_not (ha : Sd K C ta f) : Sd K C (tNotV ta) (notE f) := fun σ ρ T a G H d T' ok e Q q => by
  unfold notE at e
  obtain ⟨⟨x, T1⟩, e1, e⟩ := Option.map_eq_some_iff.mp e
  cases e
  exact sb_test ha σ ρ T a G H x T1 ok e1 (fun b H' => Q (.bl (!b)) H') fun G1 H1 s1 t1 => q _ G1 H1 s1 t1 (.bl _)
theorem sd_chain (ha : Sd K C ta f) (hb : Sd K C tb g) (hc : Sd K C tc h) (hr : RD K C r o) (hr' : RD K C r' o') : Sd K C (tChain r r' ta tb tc) (chE o o' f g h) := fun σ ρ T a G H d T' ok e Q q => by
  unfold chE at e
  obtain ⟨⟨x, T1⟩, e1, e⟩ := Option.bind_eq_some_iff.mp e
  obtain ⟨⟨y, T2⟩, e2, e⟩ := Option.bind_eq_some_iff.mp e
  obtain ⟨z, e3, e⟩ := Option.bind_eq_some_iff.mp e
  refine ha σ ρ T a G H x T1 ok e1 _ fun v G1 H1 s1 t1 r1 => hb σ ρ T1 a G1 H1 y T2 (ok.step s1 t1) e2 _ fun w G2 H2 s2 t2 r2 => ?_
  refine hr G2 H2 v w x y _ s2.gh (r1.mono s2.g) r2 e3 _ fun u G3 H3 s3 r3 => ?_
  cases r3 with
  | bl k =>
    refine ⟨k, rfl, ?_⟩
    cases k with
    | false => cases e; exact q _ G3 H3 ((s1.trans s2).trans s3.any) (t2.pure s3) (.bl _)
    | true =>
      obtain ⟨⟨y', T3⟩, e4, e⟩ := Option.bind_eq_some_iff.mp e
      obtain ⟨z, e5, e⟩ := Option.map_eq_some_iff.mp e
      cases e
      refine hc σ ρ T2 a G3 H3 y' T3 ((ok.step (s1.trans s2) t2).pure s3) e4 _ fun v' G4 H4 s4 t4 r4 => ?_
      exact hr' G4 H4 w v' y y' _ s4.gh (r2.mono (s3.g.trans s4.g)) r4 e5 _ fun u' G5 H5 s5 r5 => q u' G5 H5 ((((s1.trans s2).trans s3.any).trans s4).trans s5.any) (t4.pure s5) r5
  | _ => cases e
end
end TR

/-! Operations on data and the readings that they refine. -/
namespace TR
open PySem PySem.Spec PyProof.Rows L2

/-! ### ints -/
def orO (o o' : D → D → Option D) : D → D → Option D := fun x y => match o x y with
  | some z => some z
  | none => o' x y
def I2 (g : Int → Int → Option D) : D → D → Option D := fun x y => match x, y with
  | .int i, .int j => g i j
  | _, _ => none
section
variable {K : PySem.W.Frag} {C : Nat → Addr}
theorem I2_some {g : Int → Int → Option D} {x y z : D} (h : I2 g x y = some z) : ∃ i j, x = .int i ∧ y = .int j ∧ g i j = some z := by
  unfold I2 at h
  split at h
  · exact ⟨_, _, rfl, rfl, h⟩
  · cases h
theorem rd_or {r r' : R2} {o o' : D → D → Option D} (h : RD K C r o) (h' : RD K C r' o') : RD K C (fun x y H Q => r x y H Q ∨ r' x y H Q) (orO o o') := fun G H x y dx dy dz e rx ry ez Q q => by
  unfold orO at ez
  split at ez
  · rename_i z hz
    cases ez
    exact .inl (h G H x y dx dy _ e rx ry hz Q q)
  · exact .inr (h' G H x y dx dy dz e rx ry ez Q q)
theorem rd_I0 {g : Int → Int → Int} : RD K C (rI0 fun i j => .int (g i j)) (I2 fun i j => some (.int (g i j))) := fun G H x y dx dy dz e rx ry ez Q q => by
  obtain ⟨i, j, rfl, rfl, h⟩ := I2_some ez
  cases h; cases rx; cases ry
  exact ⟨i, j, rfl, rfl, q _ G H (.refl e) (.int _)⟩
theorem rd_B0 {g : Int → Int → Bool} : RD K C (rI0 fun i j => .bl (g i j)) (I2 fun i j => some (.bl (g i j))) := fun G H x y dx dy dz e rx ry ez Q q => by
  obtain ⟨i, j, rfl, rfl, h⟩ := I2_some ez
  cases h; cases rx; cases ry
  exact ⟨i, j, rfl, rfl, q _ G H (.refl e) (.bl _)⟩
theorem rd_I {P : Int → Int → Prop} {c : Int → Int → Bool} {g : Int → Int → Int} (hc : ∀ i j, c i j = true → P i j) : RD K C (rI P fun i j => .int (g i j)) (I2 fun i j => if c i j = true then some (.int (g i j)) else none) := fun G H x y dx dy dz e rx ry ez Q q => by
  obtain ⟨i, j, rfl, rfl, h⟩ := I2_some ez
  split at h
  · rename_i h1
    cases h; cases rx; cases ry
    exact ⟨i, j, rfl, rfl, hc i j h1, q _ G H (.refl e) (.int _)⟩
  · cases h
def subD : D → D → Option D := I2 fun i j => some (.int (i - j))
def ltD : D → D → Option D := I2 fun i j => some (.bl (decide (i < j)))
def leD : D → D → Option D := I2 fun i j => some (.bl (decide (i ≤ j)))
def gtD : D → D → Option D := I2 fun i j => some (.bl (decide (j < i)))
def geD : D → D → Option D := I2 fun i j => some (.bl (decide (j ≤ i)))
def mulI : D → D → Option D := I2 fun i j => if (decide (i.natAbs < 2 ^ 64) || decide (j.natAbs < 2 ^ 64)) = true then some (.int (i * j)) else none
def fdivD : D → D → Option D := I2 fun i j => if (decide (j ≠ 0) && decide (j.natAbs < 1073741824)) = true then some (.int (i.fdiv j)) else none
def modD : D → D → Option D := I2 fun i j => if decide (j ≠ 0) = true then some (.int (i.fmod j)) else none
theorem rd_sub : RD K C (rI0 fun i j => .int (i - j)) subD := rd_I0
theorem rd_lt : RD K C (rI0 fun i j => .bl (decide (i < j))) ltD := rd_B0
theorem rd_le : RD K C (rI0 fun i j => .bl (decide (i ≤ j))) leD := rd_B0
theorem rd_gt : RD K C (rI0 fun i j => .bl (decide (j < i))) gtD := rd_B0
theorem rd_ge : RD K C (rI0 fun i j => .bl (decide (j ≤ i))) geD := rd_B0
theorem rd_mulI : RD K C (rI CMul fun i j => .int (i * j)) mulI := rd_I fun i j h => by
  rcases Bool.or_eq_true_iff.mp h with h | h
  · exact .inl (by have := of_decide_eq_true h; omega)
  · exact .inr (by have := of_decide_eq_true h; omega)
theorem rd_fdiv : RD K C (rI CDivN fun i j => .int (i.fdiv j)) fdivD := rd_I fun i j h => by
  obtain ⟨h1, h2⟩ := Bool.and_eq_true_iff.mp h
  exact ⟨of_decide_eq_true h1, of_decide_eq_true h2⟩
theorem rd_mod : RD K C (rI (fun _ j => j ≠ 0) fun i j => .int (i.fmod j)) modD := rd_I fun i j h => of_decide_eq_true h
end
section
variable {X : Cx}
def CPowW (i j : Int) : Prop := 0 ≤ j ∧ (Builtin.Int.intBits i : Int) * j ≤ 2 ^ 27
theorem op_powW : OpR X (binaryOp .Pow) (rI CPowW fun i j => .int (i ^ j.toNat)) := opI fun _ _ _ _ _ _ _ hc q => pow_int hc.1 hc.2 q
end
def powD : D → D → Option D := I2 fun i j => if (decide (0 ≤ j) && decide ((Builtin.Int.intBits i : Int) * j ≤ 2 ^ 27)) = true then some (.int (i ^ j.toNat)) else none
def addI : D → D → Option D := I2 fun i j => some (.int (i + j))
def catL : D → D → Option D := fun x y => match x, y with
  | .lst a, .lst b => if a.length + b.length ≤ 100000 then some (.lst (a ++ b)) else none
  | _, _ => none
def catT : D → D → Option D := fun x y => match x, y with
  | .tup a, .tup b => if a.length + b.length ≤ 100000 then some (.tup (a ++ b)) else none
  | _, _ => none
def addD : D → D → Option D := orO addI (orO catL catT)
def repL : D → D → Option D := fun x y => match x, y with
  | .lst a, .int k => if 0 ≤ k ∧ k ≤ 1000 ∧ a.length ≤ 100 then some (.lst (List.replicate k.toNat a).flatten) else none
  | _, _ => none
def repT : D → D → Option D := fun x y => match x, y with
  | .tup a, .int k => if 0 ≤ k ∧ k ≤ 1000 ∧ a.length ≤ 100 ∧ a.length ≠ 0 then some (.tup (List.replicate k.toNat a).flatten) else none
  | _, _ => none
def mulD : D → D → Option D := orO mulI (orO repL repT)
section
variable {K : PySem.W.Frag} {C : Nat → Addr}
theorem rd_pow : RD K C (rI CPowW fun i j => .int (i ^ j.toNat)) powD := rd_I fun i j h => by
  obtain ⟨h1, h2⟩ := Bool.and_eq_true_iff.mp h
  exact ⟨of_decide_eq_true h1, of_decide_eq_true h2⟩
theorem rd_addI : RD K C (rI0 fun i j => .int (i + j)) addI := rd_I0
theorem rd_catL : RD K C rCat catL := fun G H x y dx dy dz e rx ry ez Q q => by
  unfold catL at ez
  split at ez
  · split at ez
    · rename_i hl
      cases ez
      cases rx with
      | lst h1 h2 => cases ry with
        | lst h3 h4 =>
          refine ⟨_, _, _, _, rfl, rfl, e _ _ h1, e _ _ h3, sz_of (by rw [h2.length, h4.length]; exact hl), fun p hp => ?_⟩
          exact q _ _ _ (.new e hp) (.lst upd_same ((h2.append h4).mono (.new (e.none hp))))
    · cases ez
  · cases ez
theorem rd_catT : RD K C (rCatA K) catT := fun G H x y dx dy dz e rx ry ez Q q => by
  unfold catT at ez
  split at ez
  · split at ez
    · rename_i hl
      cases ez
      cases rx with
      | tup h1 h2 => cases ry with
        | tup h3 h4 =>
          refine ⟨_, _, _, _, rfl, rfl, ex_t e h1, ex_t e h3, sz_of (by rw [h2.length, h4.length]; exact hl), fun z => ?_, fun _ z => ?_, fun _ _ p hp => ?_⟩
          · subst z; cases h2; exact q _ G H (.refl e) (.tup h3 h4)
          · subst z; cases h4; exact q _ G H (.refl e) (by rw [List.append_nil]; exact .tup h1 h2)
          · exact q _ _ _ (.new e hp) (.tup (.of upd_same) ((h2.append h4).mono (.new (e.none hp))))
    · cases ez
  · cases ez
abbrev rAddD (K : PySem.W.Frag) : R2 := fun x y H Q => (rI0 (fun i j => .int (i + j))) x y H Q ∨ (rCat x y H Q ∨ rCatA K x y H Q)
theorem rd_add : RD K C (rAddD K) addD := rd_or rd_addI (rd_or rd_catL rd_catT)
theorem rd_repL : RD K C rRep repL := fun G H x y dx dy dz e rx ry ez Q q => by
  unfold repL at ez
  split at ez
  · split at ez
    · rename_i a k hl
      obtain ⟨k0, k1, hl⟩ := hl
      cases ez
      cases ry
      cases rx with
      | lst h1 h2 =>
        refine ⟨_, _, _, rfl, rfl, e _ _ h1, by omega, by omega, ?_, fun p hp => ?_⟩
        · rw [h2.length]
          have : a.length * k.toNat ≤ 100 * 1000 := Nat.mul_le_mul hl (by omega)
          exact sz_of (by omega)
        · exact q _ _ _ (.new e hp) (.lst upd_same ((h2.rep _).mono (.new (e.none hp))))
    · cases ez
  · cases ez
end
section
variable {X : Cx}
theorem op_addD : OpR X (binaryOp .Add) (rAddD X.K) := op_add.or (op_cat.or op_catA)
end
/-! ### a tuple, none or one times -/
section
open PySem PySem.Spec PyProof.Rows
theorem tuple_mul1 (l : Addr) (items : Array Value) (n : Nat) (dd : Option Addr) (sl : Array (Option Value)) (u : Tok) :
    Meets (Builtin.«tuple.__mul__» ⟨[.ref l, .int 1 u], []⟩) (fun _ R s => s.heap.get? l = some { cls := .type "tuple", dict := dd, data := .seq items n, slots := sl } ∧
      R (.ok (.ret (Value.ref l))) s) :=
  .of_wp fun prog w A R s h => by
    obtain ⟨hp, g, d, tk, os⟩ := s
    obtain ⟨hl, h⟩ := h
    have f1 := AutoSeq1.idx_int
    wp_walk using wpAny_loadPart' hl
    exact ⟨_, rfl, h⟩
theorem tuple_mul0 (l : Addr) (items : Array Value) (n : Nat) (dd : Option Addr) (sl : Array (Option Value)) (u : Tok) (hi : items.isEmpty = false) :
    Meets (Builtin.«tuple.__mul__» ⟨[.ref l, .int 0 u], []⟩) (fun _ R s => s.heap.get? l = some { cls := .type "tuple", dict := dd, data := .seq items n, slots := sl } ∧
      R (.ok (.ret (Value.ref s.heap.objs.size))) { s with heap := s.heap.push { cls := Value.type "tuple", data := Data.seq #[] }, toks := s.toks }) :=
  .of_wp fun prog w A R s h => by
    obtain ⟨hp, g, d, tk, os⟩ := s
    obtain ⟨hl, h⟩ := h
    have f1 := AutoSeq1.idx_int
    wp_walk using wpAny_loadPart' hl
    exact ⟨_, rfl, h⟩
end
def rRepA (K : PySem.W.Frag) : R2 := fun x y H Q => ∃ l k xs, x = .ref l ∧ y = .int k ∧ SqT K H l xs ∧ xs ≠ [] ∧ 0 ≤ k ∧ k ≤ 1000 ∧ xs.length ≤ 1000 ∧ (k = 1 → Q (.ref l) H) ∧ (k ≠ 1 → ∀ p, H p = none → Q (.ref p) (upd H p (.tup (List.replicate k.toNat xs).flatten)))
section
variable {X : Cx}
theorem op_repA : OpR X (binaryOp .Mult) (rRepA X.K) := by
  intro pins s σ H x y v u Q I rx ry h
  obtain ⟨l, k, xs, rfl, rfl, hT, hne, h0, h2, hz, q1, q2⟩ := h
  by_cases hk2 : 2 ≤ k
  · exact op_repT pins s σ H _ _ v u Q I rx ry ⟨l, k, xs, rfl, rfl, hT, hne, hk2, h2, hz, q2 (by omega)⟩
  cases rx
  obtain ⟨t, rfl⟩ := ry
  obtain ⟨its, r, ⟨⟨cls, dd, data, sl⟩, ho, hc, n, hd⟩, hs⟩ := I.tuple hT
  simp only at hc hd
  subst hc hd
  have hle : its.length = xs.length := r.length.symm
  have hn : its ≠ [] := fun e => hne (by
    rw [e] at hle
    exact List.eq_nil_of_length_eq_zero hle.symm)
  have hi : its.toArray.isEmpty = false := by
    cases its with
    | nil => exact absurd rfl hn
    | cons a b => rfl
  by_cases hk : k = 1
  · subst hk
    exact wpAny_binaryOp_repeat_ref (T := "tuple") (U := "int") (by decide) ⟨_, ho, rfl⟩ (fun s' => typeIs_int s' 1 t) noFill_tuple_mul F.fills_int_mul F.slot_int_rmul repeat_tuple F.slot_int_index.lookup
      (call_meets F.slot_int_rmul (typeIs_int s 1 t) F.entry_int_rmul (F.args_int_rmul_2 _ _) (int_rmul_tuple 1 t l its.toArray n dd sl)
        ⟨ho, rfl, ⟨_, ho, rfl⟩, call_meets F.slot_tuple_mul ⟨_, ho, rfl⟩ F.entry_tuple_mul (F.args_tuple_mul_2 _ _) (tuple_mul1 l its.toArray n dd sl t) ⟨ho, ⟨.ref l, H, I, rfl, q1 rfl⟩⟩⟩)
  · have hk0 : k = 0 := by omega
    subst hk0
    refine wpAny_binaryOp_repeat_ref (T := "tuple") (U := "int") (by decide) ⟨_, ho, rfl⟩ (fun s' => typeIs_int s' 0 t) noFill_tuple_mul F.fills_int_mul F.slot_int_rmul repeat_tuple F.slot_int_index.lookup
      (call_meets F.slot_int_rmul (typeIs_int s 0 t) F.entry_int_rmul (F.args_int_rmul_2 _ _) (int_rmul_tuple 0 t l its.toArray n dd sl)
        ⟨ho, rfl, ⟨_, ho, rfl⟩, call_meets F.slot_tuple_mul ⟨_, ho, rfl⟩ F.entry_tuple_mul (F.args_tuple_mul_2 _ _) (tuple_mul0 l its.toArray n dd sl t hi) ⟨ho, ?_⟩⟩)
    refine ⟨.ref s.heap.objs.size, _, I.laid (t' := s.toks) (fun b o e => Heap.get?_push_of_some _ e) (Nat.le_refl _) (?_ : ObjOk X.prog X.w (upd H s.heap.objs.size (.tup (List.replicate (0 : Int).toNat xs).flatten)) _ s.heap.objs.size (.tup (List.replicate (0 : Int).toNat xs).flatten)), rfl, q2 (by omega) _ I.fresh⟩
    exact ⟨Nat.zero_le _, [], .nil, IsTup.new _ _⟩
abbrev rMulD (K : PySem.W.Frag) : R2 := fun x y H Q => (rI CMul (fun i j => .int (i * j))) x y H Q ∨ (rRep x y H Q ∨ rRepA K x y H Q)
theorem op_mulD : OpR X (binaryOp .Mult) (rMulD X.K) := op_mul.or (op_rep.or op_repA)
end
section
variable {K : PySem.W.Frag} {C : Nat → Addr}
theorem rd_repT : RD K C (rRepA K) repT := fun G H x y dx dy dz e rx ry ez Q q => by
  unfold repT at ez
  split at ez
  · split at ez
    · rename_i a k hl
      obtain ⟨k0, k1, hl, h0⟩ := hl
      cases ez
      cases ry
      cases rx with
      | tup h1 h2 =>
        refine ⟨_, _, _, rfl, rfl, ex_t e h1, fun z => ?_, k0, k1, by rw [h2.length]; omega, fun z => ?_, fun _ p hp => ?_⟩
        · subst z; cases h2; exact h0 rfl
        · subst z
          have e1 : (List.replicate (1 : Int).toNat a).flatten = a := by simp
          exact q _ G H (.refl e) (by rw [e1]; exact .tup h1 h2)
        · exact q _ _ _ (.new e hp) (.tup (.of upd_same) ((h2.rep _).mono (.new (e.none hp))))
    · cases ez
  · cases ez
theorem rd_mul : RD K C (rMulD K) mulD := rd_or rd_mulI (rd_or rd_repL rd_repT)
end
end TR

/-! Statements, loops, comprehensions, calls at the data level. -/
namespace TR
open PySem PySem.Spec PyProof.Rows L2

/-- how a statement ends -/
inductive Out where
  | nx (ρ : List SV) (T : Tn) | ret (d : D) (T : Tn) | retF (ds : List D) (T : Tn) | bk (ρ : List SV) (T : Tn) | ct (ρ : List SV) (T : Tn)
abbrev FS := List SV → Tn → Option Out
section
variable (K : PySem.W.Frag) (C : Nat → Addr)
/-- the state within a def that was entered at G0, H0 -/
structure OkS (a : Option Addr) (G0 H0 : Hp) (σ : L2.St) (ρ : List SV) (T : Tn) (G H : Hp) : Prop where
  ok : Ok K C σ ρ T a G H
  st : Step a G0 H0 G H
  fresh : ∀ (i : Nat) (ds : List D) (p : Addr), ρ[i]? = some (SV.own ds) → σ[i]? = some (some (V.ref p)) → H0 p = none
  e0 : Ex G0 H0
def Post (a : Option Addr) (G0 H0 Gs : Hp) (D : Ends) : Out → Prop
  | .nx ρ T => ∀ σ G H, OkS K C a G0 H0 σ ρ T G H → Ex Gs G → D.nx σ H
  | .bk ρ T => ∀ σ G H, OkS K C a G0 H0 σ ρ T G H → Ex Gs G → D.bk σ H
  | .ct ρ T => ∀ σ G H, OkS K C a G0 H0 σ ρ T G H → Ex Gs G → D.ct σ H
  | .ret d T => ∀ v G H, Step a G0 H0 G H → Tk K C T a G H → Rep K C G v d → D.rt v H
  | .retF ds T => ∀ p vs G H, Step a G0 H0 G H → Tk K C T a G H → H0 p = none → H p = some (.lst vs) → G p = none → Reps K C G vs ds → D.rt (.ref p) H
def Ss (ts : TS) (f : FS) : Prop := ∀ a G0 H0 σ ρ T G H out (D : Ends), OkS K C a G0 H0 σ ρ T G H → f ρ T = some out → Post K C a G0 H0 G D out → ts D σ H
end
structure PSD (X : Cx) (C : Nat → Addr) (st : Stmt) (ts : TS) (f : FS) : Prop where
  ps : PS X st ts
  ss : Ss X.K C ts f
structure PSsD (X : Cx) (C : Nat → Addr) (st : List Stmt) (ts : TS) (f : FS) : Prop where
  ps : PSs X st ts
  ss : Ss X.K C ts f
section
variable {K : PySem.W.Frag} {C : Nat → Addr} {a : Option Addr} {G0 H0 G G' H H' : Hp} {σ : L2.St} {ρ : List SV} {T T' : Tn}
theorem Post.mono {Gs Gs' : Hp} {D : Ends} {out : Out} (e : Ex Gs Gs') (p : Post K C a G0 H0 Gs D out) : Post K C a G0 H0 Gs' D out := by
  cases out with
  | nx ρ T => exact fun σ G H o x => p σ G H o (e.trans x)
  | bk ρ T => exact fun σ G H o x => p σ G H o (e.trans x)
  | ct ρ T => exact fun σ G H o x => p σ G H o (e.trans x)
  | ret d T => exact p
  | retF d T => exact p
theorem OkS.step (o : OkS K C a G0 H0 σ ρ T G H) (s : Step a G H G' H') (t : Tk K C T' a G' H') : OkS K C a G0 H0 σ ρ T' G' H' :=
  ⟨o.ok.step s t, o.st.trans s, o.fresh, o.e0⟩
/-- a slot gets a value -/
theorem Ok.setVal (o : Ok K C σ ρ T a G H) (i : Nat) {v : V} {d : D} (r : Rep K C G v d) : Ok K C (σ.set i (some v)) (ρ.set i (.val d)) T a G H where
  gh := o.gh
  len := by rw [List.length_set, List.length_set]; exact o.len
  val := fun j e h => by
    by_cases z : i = j
    · subst z
      have hl : i < ρ.length := by
        have := (List.getElem?_eq_some_iff.mp h).1
        rw [List.length_set] at this; exact this
      rw [List.getElem?_set_self hl] at h
      cases h
      exact ⟨v, List.getElem?_set_self (by rw [← o.len]; exact hl), r⟩
    · rw [List.getElem?_set_ne z] at h
      rw [List.getElem?_set_ne z]
      exact o.val j e h
  own := fun j e h => by
    by_cases z : i = j
    · subst z
      have hl : i < ρ.length := by
        have := (List.getElem?_eq_some_iff.mp h).1
        rw [List.length_set] at this; exact this
      rw [List.getElem?_set_self hl] at h
      cases h
    · rw [List.getElem?_set_ne z] at h
      rw [List.getElem?_set_ne z]
      exact o.own j e h
  dis := fun j k ds es p h1 h2 h3 h4 => by
    have ne : ∀ (m : Nat) (fs : List D), (ρ.set i (SV.val d))[m]? = some (SV.own fs) → i ≠ m := fun m fs h z => by
      subst z
      have hl : i < ρ.length := by
        have := (List.getElem?_eq_some_iff.mp h).1
        rw [List.length_set] at this; exact this
      rw [List.getElem?_set_self hl] at h
      cases h
    have n1 := ne j ds h1
    have n2 := ne k es h2
    rw [List.getElem?_set_ne n1] at h1 h3
    rw [List.getElem?_set_ne n2] at h2 h4
    exact o.dis j k ds es p h1 h2 h3 h4
  tnk := fun j h => by
    by_cases z : i = j
    · subst z
      have hl : i < ρ.length := by
        have := (List.getElem?_eq_some_iff.mp h).1
        rw [List.length_set] at this; exact this
      rw [List.getElem?_set_self hl] at h
      cases h
    · rw [List.getElem?_set_ne z] at h
      rw [List.getElem?_set_ne z]
      exact o.tnk j h
  tk := o.tk
  tb := o.tb
theorem own_set {i j : Nat} {s : SV} {fs : List D} (h : (ρ.set i s)[j]? = some (SV.own fs)) (hs : i = j → s ≠ SV.own fs) : i ≠ j ∧ ρ[j]? = some (SV.own fs) := by
  by_cases z : i = j
  · subst z
    have hl : i < ρ.length := by
      have := (List.getElem?_eq_some_iff.mp h).1
      rw [List.length_set] at this; exact this
    rw [List.getElem?_set_self hl] at h
    exact absurd (Option.some.inj h) (hs rfl)
  · rw [List.getElem?_set_ne z] at h
    exact ⟨z, h⟩
theorem OkS.setVal (o : OkS K C a G0 H0 σ ρ T G H) (i : Nat) {v : V} {d : D} (r : Rep K C G v d) : OkS K C a G0 H0 (σ.set i (some v)) (ρ.set i (.val d)) T G H :=
  ⟨o.ok.setVal i r, o.st, fun j ds p h1 h2 => by
    obtain ⟨z, h⟩ := own_set h1 (fun _ z => nomatch z)
    rw [List.getElem?_set_ne z] at h2
    exact o.fresh j ds p h h2, o.e0⟩
/-- a slot gets a list of one's own, that none other has -/
theorem Ok.setOwn (o : Ok K C σ ρ T a G H) (i : Nat) {p : Addr} {vs : List V} {ds : List D} (hp : H p = some (.lst vs)) (hg : G p = none) (ha : a ≠ some p) (r : Reps K C G vs ds)
    (hne : ∀ (j : Nat) (es : List D), i ≠ j → ρ[j]? = some (SV.own es) → σ[j]? ≠ some (some (V.ref p))) : Ok K C (σ.set i (some (.ref p))) (ρ.set i (.own ds)) T a G H where
  gh := o.gh
  len := by rw [List.length_set, List.length_set]; exact o.len
  val := fun j e h => by
    by_cases z : i = j
    · subst z
      have hl : i < ρ.length := by
        have := (List.getElem?_eq_some_iff.mp h).1
        rw [List.length_set] at this; exact this
      rw [List.getElem?_set_self hl] at h
      cases h
    · rw [List.getElem?_set_ne z] at h
      rw [List.getElem?_set_ne z]
      exact o.val j e h
  own := fun j e h => by
    by_cases z : i = j
    · subst z
      have hl : i < ρ.length := by
        have := (List.getElem?_eq_some_iff.mp h).1
        rw [List.length_set] at this; exact this
      rw [List.getElem?_set_self hl] at h
      cases h
      exact ⟨p, vs, List.getElem?_set_self (by rw [← o.len]; exact hl), hp, hg, ha, r⟩
    · rw [List.getElem?_set_ne z] at h
      rw [List.getElem?_set_ne z]
      exact o.own j e h
  dis := fun j k es fs q h1 h2 h3 h4 => by
    by_cases zj : i = j
    · by_cases zk : i = k
      · exact zj.symm.trans zk
      · subst zj
        rw [List.getElem?_set_ne zk] at h2 h4
        have hl : i < σ.length := by
          have := (List.getElem?_eq_some_iff.mp h3).1
          rw [List.length_set] at this; exact this
        rw [List.getElem?_set_self hl] at h3
        cases h3
        exact absurd h4 (hne k fs zk h2)
    · rw [List.getElem?_set_ne zj] at h1 h3
      by_cases zk : i = k
      · subst zk
        have hl : i < σ.length := by
          have := (List.getElem?_eq_some_iff.mp h4).1
          rw [List.length_set] at this; exact this
        rw [List.getElem?_set_self hl] at h4
        cases h4
        exact absurd h3 (hne j es zj h1)
      · rw [List.getElem?_set_ne zk] at h2 h4
        exact o.dis j k es fs q h1 h2 h3 h4
  tnk := fun j h => by
    by_cases z : i = j
    · subst z
      have hl : i < ρ.length := by
        have := (List.getElem?_eq_some_iff.mp h).1
        rw [List.length_set] at this; exact this
      rw [List.getElem?_set_self hl] at h
      cases h
    · rw [List.getElem?_set_ne z] at h
      rw [List.getElem?_set_ne z]
      exact o.tnk j h
  tk := o.tk
  tb := o.tb
end

/-! ### the functions -/
def sNx : FS := fun ρ T => some (.nx ρ T)
def sSeq (f g : FS) : FS := fun ρ T => (f ρ T).bind fun o => match o with
  | .nx ρ T => g ρ T
  | o => some o
def sAsg (i : Nat) (f : FE) : FS := fun ρ T => (f ρ T).map fun p => .nx (ρ.set i (.val p.1)) p.2
def sOwn (i : Nat) (f : FL) : FS := fun ρ T => (f ρ T).map fun p => .nx (ρ.set i (.own p.1)) p.2
def sIf (c : FB) (f g : FS) : FS := fun ρ T => (c ρ T).bind fun p => if p.1 = true then f ρ p.2 else g ρ p.2
def sRet (f : FE) : FS := fun ρ T => (f ρ T).map fun p => .ret p.1 p.2
def sRetF (f : FL) : FS := fun ρ T => (f ρ T).map fun p => .retF p.1 p.2
def sRetN : FS := fun _ T => some (.ret .non T)
def sCt : FS := fun ρ T => some (.ct ρ T)
def sBad : FS := fun _ _ => none
def sDrop (f : FE) : FS := fun ρ T => (f ρ T).map fun p => .nx ρ p.2
/-- the i-th slot's own list made a value -/
def frzS (i : Nat) (f : FS) : FS := fun ρ T => match ρ[i]? with
  | some (.own ds) => f (ρ.set i (.val (.lst ds))) T
  | _ => none
def sApp (i : Nat) (f : FE) : FS := fun ρ T => match ρ[i]? with
  | some (.own ds) => (f ρ T).bind fun p => if ds.length < 100000 then some (.nx (ρ.set i (.own (ds ++ [p.1]))) p.2) else none
  | _ => none
def sExt (i : Nat) (f : FE) : FS := fun ρ T => match ρ[i]? with
  | some (.own ds) => (f ρ T).bind fun p => match p.1 with
    | .lst es => if ds.length + es.length ≤ 100000 then some (.nx (ρ.set i (.own (ds ++ es))) p.2) else none
    | _ => none
  | _ => none
/-- x[e] = value, x the i-th slot's own list -/
def sSet (i : Nat) (v ix : FE) : FS := fun ρ T => (v ρ T).bind fun p => (ix ρ p.2).bind fun q => match ρ[i]?, q.1 with
  | some (.own ds), .int k => (ixN ds.length k).map fun j => .nx (ρ.set i (.own (ds.set j p.1))) q.2
  | _, _ => none
/-- .. the tank -/
def sSetT (i : Nat) (v ix : FE) : FS := fun ρ T => (v ρ T).bind fun p => (ix ρ p.2).bind fun q => match ρ[i]?, q.2, q.1 with
  | some .tnk, some ds, .int k => (ixN ds.length k).map fun j => .nx ρ (some (ds.set j p.1))
  | _, _, _ => none
/-- x = y.pop(), y the j-th slot's own list -/
def sPop (i j : Nat) : FS := fun ρ T => match ρ[j]? with
  | some (.own ds) => (ds[ds.length - 1]?).map fun d => .nx ((ρ.set j (.own ds.dropLast)).set i (.val d)) T
  | _ => none

section
variable {K : PySem.W.Frag} {C : Nat → Addr} {te : TE} {f : FE} {t u : TS} {g h : FS}
theorem ss_nx : Ss K C tNext sNx := fun a G0 H0 σ ρ T G H out D ok e q => by
  cases e
  exact q σ G H ok (.refl _)
theorem ss_seq (h1 : Ss K C t g) (h2 : Ss K C u h) : Ss K C (tSeq t u) (sSeq g h) := fun a G0 H0 σ ρ T G H out D ok e q => by
  unfold sSeq at e
  obtain ⟨o, e1, e2⟩ := Option.bind_eq_some_iff.mp e
  refine h1 a G0 H0 σ ρ T G H o _ ok e1 ?_
  cases o with
  | nx ρ' T' => exact fun σ' G' H' ok' x => h2 a G0 H0 σ' ρ' T' G' H' out D ok' e2 (q.mono x)
  | _ => cases e2; exact q
theorem ss_asg {i : Nat} (h : Sd K C te f) : Ss K C (tAsg te (gName i)) (sAsg i f) := fun a G0 H0 σ ρ T G H out D ok e q => by
  unfold sAsg at e
  obtain ⟨⟨d, T1⟩, e1, e2⟩ := Option.map_eq_some_iff.mp e
  cases e2
  exact h σ ρ T a G H d T1 ok.ok e1 _ fun v G1 H1 s1 t1 r1 => q _ G1 H1 ((ok.step s1 t1).setVal i r1) s1.g
theorem new_ne {a : Option Addr} {G H G' H' : Hp} {σ : L2.St} {ρ : List SV} {T T' : Tn} (ok : Ok K C σ ρ T a G H) {p : Addr} (hp : H p = none) : a ≠ some p ∧ ∀ (j : Nat) (es : List D), ρ[j]? = some (SV.own es) → σ[j]? ≠ some (some (V.ref p)) := by
  refine ⟨fun z => (ok.tk.there z).1 hp, fun j es h z => ?_⟩
  obtain ⟨p', vs, h1, h2, _⟩ := ok.own j es h
  rw [z] at h1
  cases h1
  rw [hp] at h2
  cases h2
theorem OkS.setOwn {a : Option Addr} {G0 H0 G H G' H' : Hp} {σ : L2.St} {ρ : List SV} {T T' : Tn} (o : OkS K C a G0 H0 σ ρ T G H) (i : Nat) {p : Addr} {vs : List V} {ds : List D} (s : Step a G H G' H') (tk : Tk K C T' a G' H') (hn : H p = none) (hp : H' p = some (.lst vs)) (hg : G' p = none) (r : Reps K C G' vs ds) :
    OkS K C a G0 H0 (σ.set i (some (.ref p))) (ρ.set i (.own ds)) T' G' H' := by
  have o2 := o.step s tk
  obtain ⟨n1, n2⟩ := new_ne (G' := G) (H' := H) (T' := T) o.ok hn
  refine ⟨o2.ok.setOwn i hp hg n1 r (fun j es _ h => n2 j es h), o2.st, fun j es q h1 h2 => ?_, o.e0⟩
  by_cases z : i = j
  · subst z
    have hl : i < σ.length := by
      have := (List.getElem?_eq_some_iff.mp h2).1
      rw [List.length_set] at this; exact this
    rw [List.getElem?_set_self hl] at h2
    cases h2
    exact o.st.dm p hn
  · rw [List.getElem?_set_ne z] at h1 h2
    exact o.fresh j es q h1 h2
theorem ss_own {i : Nat} {f : FL} (h : Sf K C te f) : Ss K C (tAsg te (gName i)) (sOwn i f) := fun a G0 H0 σ ρ T G H out D ok e q => by
  unfold sOwn at e
  obtain ⟨⟨d, T1⟩, e1, e2⟩ := Option.map_eq_some_iff.mp e
  cases e2
  exact h σ ρ T a G H d T1 ok.ok e1 _ fun p vs G1 H1 s1 t1 hn hp hg r1 => q _ G1 H1 (ok.setOwn i s1 t1 hn hp hg r1) s1.g
theorem ss_if {tt : TT} {c : FB} (hc : Sb K C tt c) (h1 : Ss K C t g) (h2 : Ss K C u h) : Ss K C (tIfS tt t u) (sIf c g h) := fun a G0 H0 σ ρ T G H out D ok e q => by
  unfold sIf at e
  obtain ⟨⟨b, T1⟩, e1, e2⟩ := Option.bind_eq_some_iff.mp e
  refine hc σ ρ T a G H b T1 ok.ok e1 _ fun G1 H1 s1 t1 => ?_
  cases b with
  | true => exact h1 a G0 H0 σ ρ T1 G1 H1 out D (ok.step s1 t1) e2 (q.mono s1.g)
  | false => exact h2 a G0 H0 σ ρ T1 G1 H1 out D (ok.step s1 t1) e2 (q.mono s1.g)
theorem ss_ret (h : Sd K C te f) : Ss K C (tRet te) (sRet f) := fun a G0 H0 σ ρ T G H out D ok e q => by
  unfold sRet at e
  obtain ⟨⟨d, T1⟩, e1, e2⟩ := Option.map_eq_some_iff.mp e
  cases e2
  exact h σ ρ T a G H d T1 ok.ok e1 _ fun v G1 H1 s1 t1 r1 => q v G1 H1 (ok.st.trans s1) t1 r1
theorem ss_retF {f : FL} (h : Sf K C te f) : Ss K C (tRet te) (sRetF f) := fun a G0 H0 σ ρ T G H out D ok e q => by
  unfold sRetF at e
  obtain ⟨⟨d, T1⟩, e1, e2⟩ := Option.map_eq_some_iff.mp e
  cases e2
  exact h σ ρ T a G H d T1 ok.ok e1 _ fun p vs G1 H1 s1 t1 hn hp hg r1 => q p vs G1 H1 (ok.st.trans s1) t1 (ok.st.dm p hn) hp hg r1
theorem ss_retN : Ss K C tRetN sRetN := fun a G0 H0 σ ρ T G H out D ok e q => by
  cases e
  exact q .non G H ok.st ok.ok.tk .non
theorem ss_ct : Ss K C tCont sCt := fun a G0 H0 σ ρ T G H out D ok e q => by
  cases e
  exact q σ G H ok (.refl _)
theorem ss_bad : Ss K C tNever sBad := fun a G0 H0 σ ρ T G H out D ok e q => by cases e
theorem ss_drop (h : Sd K C te f) : Ss K C (tDrop te) (sDrop f) := fun a G0 H0 σ ρ T G H out D ok e q => by
  unfold sDrop at e
  obtain ⟨⟨d, T1⟩, e1, e2⟩ := Option.map_eq_some_iff.mp e
  cases e2
  exact h σ ρ T a G H d T1 ok.ok e1 _ fun v G1 H1 s1 t1 r1 => q σ G1 H1 (ok.step s1 t1) s1.g
/-- a list of one's own becomes a value -/
theorem OkS.freeze {a : Option Addr} {G0 H0 G H : Hp} {σ : L2.St} {ρ : List SV} {T : Tn} {i : Nat} {ds : List D} (o : OkS K C a G0 H0 σ ρ T G H) (hi : ρ[i]? = some (SV.own ds)) :
    ∃ G', OkS K C a G0 H0 σ (ρ.set i (.val (.lst ds))) T G' H ∧ Ex G G' := by
  obtain ⟨p, vs, h1, h2, h3, h4, h5⟩ := o.ok.own i ds hi
  have hn := o.fresh i ds p hi h1
  have s2 := o.st.freeze (o := .lst vs) o.e0 hn h2
  have gm : Ex G (upd G p (.lst vs)) := .new h3
  have nep : ∀ (j : Nat) (es : List D) (q : Addr), i ≠ j → ρ[j]? = some (SV.own es) → σ[j]? = some (some (V.ref q)) → q ≠ p := fun j es q z e1 e2 w => z (o.ok.dis i j ds es p hi e1 h1 (by rw [e2, w]))
  refine ⟨upd G p (.lst vs), ⟨⟨s2.gh, by rw [List.length_set]; exact o.ok.len, fun j d h => ?_, fun j es h => ?_, fun j k es fs q k1 k2 k3 k4 => ?_, fun j h => ?_, ?_, ⟨o.ok.tb.h, by rw [upd_ne (o.ok.tb.ne_lst h2)]; exact o.ok.tb.g⟩⟩, s2, fun j es q k1 k2 => ?_, o.e0⟩, gm⟩
  · by_cases z : i = j
    · subst z
      have hl : i < ρ.length := (List.getElem?_eq_some_iff.mp hi).1
      rw [List.getElem?_set_self hl] at h
      cases h
      exact ⟨_, h1, .lst upd_same (h5.mono gm)⟩
    · rw [List.getElem?_set_ne z] at h
      obtain ⟨v, k1, k2⟩ := o.ok.val j d h
      exact ⟨v, k1, k2.mono gm⟩
  · obtain ⟨z, h⟩ := own_set h (fun _ z => nomatch z)
    obtain ⟨q, ws, k1, k2, k3, k4, k5⟩ := o.ok.own j es h
    exact ⟨q, ws, k1, k2, by rw [upd_ne (nep j es q z h k1)]; exact k3, k4, k5.mono gm⟩
  · exact o.ok.dis j k es fs q (own_set k1 (fun _ z => nomatch z)).2 (own_set k2 (fun _ z => nomatch z)).2 k3 k4
  · by_cases z : i = j
    · subst z
      have hl : i < ρ.length := (List.getElem?_eq_some_iff.mp hi).1
      rw [List.getElem?_set_self hl] at h
      cases h
    · rw [List.getElem?_set_ne z] at h
      exact o.ok.tnk j h
  · have t := o.ok.tk
    unfold Tk at t ⊢
    cases T with
    | none => cases a with
      | none => trivial
      | some q => exact t
    | some ts => cases a with
      | none => exact t
      | some q =>
        obtain ⟨ws, k1, k2, k3⟩ := t
        exact ⟨ws, k1, by rw [upd_ne (fun z => h4 (by rw [z]))]; exact k2, k3.mono gm⟩
  · obtain ⟨z, h⟩ := own_set k1 (fun _ z => nomatch z)
    exact o.fresh j es q h k2
theorem ss_frz {i : Nat} (h : Ss K C t g) : Ss K C t (frzS i g) := fun a G0 H0 σ ρ T G H out D ok e q => by
  unfold frzS at e
  cases e1 : ρ[i]? with
  | none => rw [e1] at e; cases e
  | some s =>
    rw [e1] at e
    cases s with
    | own ds =>
      obtain ⟨G', ok', x⟩ := ok.freeze e1
      exact h a G0 H0 σ _ T G' H out D ok' e (q.mono x)
    | _ => cases e
/-- a list of one's own changes -/
theorem OkS.mut {a : Option Addr} {G0 H0 G H : Hp} {σ : L2.St} {ρ : List SV} {T : Tn} {i : Nat} {ds ds' : List D} {p : Addr} {vs' : List V} (o : OkS K C a G0 H0 σ ρ T G H) (hi : ρ[i]? = some (SV.own ds)) (h1 : σ[i]? = some (some (.ref p)))
    (r : Reps K C G vs' ds') : OkS K C a G0 H0 σ (ρ.set i (.own ds')) T G (upd H p (.lst vs')) := by
  obtain ⟨p', vs, k1, h2, h3, h4, h5⟩ := o.ok.own i ds hi
  rw [h1] at k1
  cases k1
  have hn := o.fresh i ds p hi h1
  have s2 := o.st.mut (o := .lst vs') h3 (.inl hn) ⟨_, h2⟩
  have hl : i < ρ.length := (List.getElem?_eq_some_iff.mp hi).1
  have nep : ∀ (j : Nat) (es : List D) (q : Addr), i ≠ j → ρ[j]? = some (SV.own es) → σ[j]? = some (some (V.ref q)) → q ≠ p := fun j es q z e1 e2 w => z (o.ok.dis i j ds es p hi e1 h1 (by rw [e2, w]))
  have ow : ∀ (j : Nat) (es : List D), (ρ.set i (SV.own ds'))[j]? = some (SV.own es) → (i = j ∧ es = ds') ∨ (i ≠ j ∧ ρ[j]? = some (SV.own es)) := fun j es h => by
    by_cases z : i = j
    · subst z
      rw [List.getElem?_set_self hl] at h
      cases h
      exact .inl ⟨rfl, rfl⟩
    · rw [List.getElem?_set_ne z] at h
      exact .inr ⟨z, h⟩
  have ow2 : ∀ (j : Nat) (es : List D), (ρ.set i (SV.own ds'))[j]? = some (SV.own es) → ∃ fs, ρ[j]? = some (SV.own fs) := fun j es h => by
    rcases ow j es h with ⟨rfl, rfl⟩ | ⟨_, h⟩
    · exact ⟨_, hi⟩
    · exact ⟨_, h⟩
  refine ⟨⟨s2.gh, by rw [List.length_set]; exact o.ok.len, fun j d h => ?_, fun j es h => ?_, fun j k es fs q k1 k2 k3 k4 => ?_, fun j h => ?_, ?_, ⟨tab_upd o.ok.tb.h (o.ok.tb.ne_lst h2), o.ok.tb.g⟩⟩, s2, fun j es q k1 k2 => ?_, o.e0⟩
  · by_cases z : i = j
    · subst z
      rw [List.getElem?_set_self hl] at h
      cases h
    · rw [List.getElem?_set_ne z] at h
      exact o.ok.val j d h
  · rcases ow j es h with ⟨rfl, rfl⟩ | ⟨z, h⟩
    · exact ⟨p, vs', h1, upd_same, h3, h4, r⟩
    · obtain ⟨q, ws, k1, k2, k3, k4, k5⟩ := o.ok.own j es h
      exact ⟨q, ws, k1, by rw [upd_ne (nep j es q z h k1)]; exact k2, k3, k4, k5⟩
  · obtain ⟨es', k1⟩ := ow2 j es k1
    obtain ⟨fs', k2⟩ := ow2 k fs k2
    exact o.ok.dis j k es' fs' q k1 k2 k3 k4
  · by_cases z : i = j
    · subst z
      rw [List.getElem?_set_self hl] at h
      cases h
    · rw [List.getElem?_set_ne z] at h
      exact o.ok.tnk j h
  · have t := o.ok.tk
    unfold Tk at t ⊢
    cases T with
    | none => cases a with
      | none => trivial
      | some q => exact t
    | some ts => cases a with
      | none => exact t
      | some q =>
        obtain ⟨ws, k1, k2, k3⟩ := t
        exact ⟨ws, by rw [upd_ne (fun z => h4 (by rw [z]))]; exact k1, k2, k3⟩
  · obtain ⟨es', k1⟩ := ow2 j es k1
    exact o.fresh j es' q k1 k2
/-- the tank changes -/
theorem OkS.mutT {p : Addr} {G0 H0 G H : Hp} {σ : L2.St} {ρ : List SV} {ts ts' : List D} {vs' : List V} (o : OkS K C (some p) G0 H0 σ ρ (some ts) G H) (r : Reps K C G vs' ts') :
    OkS K C (some p) G0 H0 σ ρ (some ts') G (upd H p (.lst vs')) := by
  obtain ⟨vs, h1, h2, h3⟩ : ∃ vs, H p = some (.lst vs) ∧ G p = none ∧ Reps K C G vs ts := o.ok.tk
  have s2 := o.st.mut (o := .lst vs') h2 (.inr rfl) ⟨_, h1⟩
  refine ⟨⟨s2.gh, o.ok.len, o.ok.val, fun j es h => ?_, o.ok.dis, o.ok.tnk, ⟨vs', upd_same, h2, r⟩, ⟨tab_upd o.ok.tb.h (o.ok.tb.ne_lst h1), o.ok.tb.g⟩⟩, s2, o.fresh, o.e0⟩
  obtain ⟨q, ws, k1, k2, k3, k4, k5⟩ := o.ok.own j es h
  exact ⟨q, ws, k1, by rw [upd_ne (fun z => k4 (by rw [z]))]; exact k2, k3, k4, k5⟩
theorem own_at {a : Option Addr} {G0 H0 G H : Hp} {σ : L2.St} {ρ : List SV} {T : Tn} {i : Nat} {ds : List D} (o : OkS K C a G0 H0 σ ρ T G H) (hi : ρ[i]? = some (SV.own ds)) : ∃ p vs, σ[i]? = some (some (.ref p)) ∧ H p = some (.lst vs) ∧ Reps K C G vs ds := by
  obtain ⟨p, vs, h1, h2, _, _, h5⟩ := o.ok.own i ds hi
  exact ⟨p, vs, h1, h2, h5⟩
theorem ss_app {i : Nat} (h : Sd K C te f) : Ss K C (tDrop (tBM K "list" rAppend (tVar i) (tCons te tNil))) (sApp i f) := fun a G0 H0 σ ρ T G H out D ok e q => by
  unfold sApp at e
  cases e1 : ρ[i]? with
  | none => rw [e1] at e; cases e
  | some s =>
    rw [e1] at e
    cases s with
    | own ds =>
      obtain ⟨⟨d, T1⟩, e2, e⟩ := Option.bind_eq_some_iff.mp e
      obtain ⟨p, vs, h1, h2, h3⟩ := own_at ok e1
      split at e
      · rename_i hz
        cases e
        refine ⟨.ref p, h1, .inl ⟨rfl, vs, .of h2⟩, ?_⟩
        refine h σ ρ T a G H d T1 ok.ok e2 _ fun v G1 H1 s1 t1 r1 => ?_
        have ok1 := ok.step s1 t1
        obtain ⟨p', ws, k1, k2, k3⟩ := own_at ok1 e1
        rw [h1] at k1
        cases k1
        exact ⟨p, ws, v, rfl, rfl, k2, sz_lt (by rw [k3.length]; exact hz), q σ _ _ (ok1.mut e1 h1 (k3.append (.cons r1 .nil))) s1.g⟩
      · cases e
    | _ => cases e
theorem ss_ext {i : Nat} (h : Sd K C te f) : Ss K C (tDrop (tBM K "list" rExtend (tVar i) (tCons te tNil))) (sExt i f) := fun a G0 H0 σ ρ T G H out D ok e q => by
  unfold sExt at e
  cases e1 : ρ[i]? with
  | none => rw [e1] at e; cases e
  | some s =>
    rw [e1] at e
    cases s with
    | own ds =>
      obtain ⟨⟨d, T1⟩, e2, e⟩ := Option.bind_eq_some_iff.mp e
      obtain ⟨p, vs, h1, h2, h3⟩ := own_at ok e1
      split at e
      · rename_i es hd
        split at e
        · rename_i hz
          cases e
          refine ⟨.ref p, h1, .inl ⟨rfl, vs, .of h2⟩, ?_⟩
          refine h σ ρ T a G H d T1 ok.ok e2 _ fun v G1 H1 s1 t1 r1 => ?_
          have ok1 := ok.step s1 t1
          obtain ⟨p', ws, k1, k2, k3⟩ := own_at ok1 e1
          rw [h1] at k1
          cases k1
          have hd' : d = .lst es := hd
          subst hd'
          cases r1 with
          | lst m1 m2 =>
            exact ⟨p, _, ws, _, rfl, rfl, k2, s1.gh _ _ m1, sz_of (by rw [k3.length, m2.length]; exact hz), q σ _ _ (ok1.mut e1 h1 (k3.append m2)) s1.g⟩
        · cases e
      · cases e
    | _ => cases e
theorem ss_set {i : Nat} {tv ti : TE} {v ix : FE} (hv : Sd K C tv v) (hi : Sd K C ti ix) : Ss K C (tAsg tv (gSub (tVar i) ti rSetL)) (sSet i v ix) := fun a G0 H0 σ ρ T G H out D ok e q => by
  unfold sSet at e
  obtain ⟨⟨d, T1⟩, e1, e⟩ := Option.bind_eq_some_iff.mp e
  obtain ⟨⟨k, T2⟩, e2, e⟩ := Option.bind_eq_some_iff.mp e
  refine hv σ ρ T a G H d T1 ok.ok e1 _ fun w G1 H1 s1 t1 r1 => ?_
  have ok1 := ok.step s1 t1
  cases e3 : ρ[i]? with
  | none => rw [e3] at e; cases e
  | some s =>
    rw [e3] at e
    cases s with
    | own ds =>
      obtain ⟨p, vs, h1, h2, h3⟩ := own_at ok1 e3
      refine ⟨.ref p, h1, ?_⟩
      refine hi σ ρ T1 a G1 H1 k T2 ok1.ok e2 _ fun z G2 H2 s2 t2 r2 => ?_
      cases r2 with
      | int n =>
        obtain ⟨j, e4, e⟩ := Option.map_eq_some_iff.mp e
        cases e
        have ok2 := ok1.step s2 t2
        obtain ⟨p', ws, k1, k2, k3⟩ := own_at ok2 e3
        rw [h1] at k1
        cases k1
        exact ⟨p, ws, n, j, rfl, rfl, k2, by rw [k3.length]; exact e4, q σ _ _ (ok2.mut e3 h1 (k3.set (r1.mono s2.g) j)) (s1.g.trans s2.g)⟩
      | _ => cases e
    | _ => cases e
theorem ss_setT {i : Nat} {tv ti : TE} {v ix : FE} (hv : Sd K C tv v) (hi : Sd K C ti ix) : Ss K C (tAsg tv (gSub (tVar i) ti rSetL)) (sSetT i v ix) := fun a G0 H0 σ ρ T G H out D ok e q => by
  unfold sSetT at e
  obtain ⟨⟨d, T1⟩, e1, e⟩ := Option.bind_eq_some_iff.mp e
  obtain ⟨⟨k, T2⟩, e2, e⟩ := Option.bind_eq_some_iff.mp e
  refine hv σ ρ T a G H d T1 ok.ok e1 _ fun w G1 H1 s1 t1 r1 => ?_
  have ok1 := ok.step s1 t1
  cases e3 : ρ[i]? with
  | none => rw [e3] at e; cases e
  | some s =>
    rw [e3] at e
    cases s with
    | tnk =>
      obtain ⟨p, ea, h1⟩ := ok1.ok.tnk i e3
      subst ea
      refine ⟨.ref p, h1, ?_⟩
      refine hi σ ρ T1 (some p) G1 H1 k T2 ok1.ok e2 _ fun z G2 H2 s2 t2 r2 => ?_
      cases T2 with
      | none => cases e
      | some ts =>
        cases r2 with
        | int n =>
          obtain ⟨j, e4, e⟩ := Option.map_eq_some_iff.mp e
          cases e
          have ok2 := ok1.step s2 t2
          obtain ⟨ws, k2, _, k3⟩ : ∃ vs, H2 p = some (.lst vs) ∧ G2 p = none ∧ Reps K C G2 vs ts := t2
          exact ⟨p, ws, n, j, rfl, rfl, k2, by rw [k3.length]; exact e4, q σ _ _ (ok2.mutT (k3.set (r1.mono s2.g) j)) (s1.g.trans s2.g)⟩
        | _ => cases e
    | _ => cases e
theorem ss_pop {i j : Nat} : Ss K C (tAsg (tBM0 K "list" rPop (tVar j)) (gName i)) (sPop i j) := fun a G0 H0 σ ρ T G H out D ok e q => by
  unfold sPop at e
  cases e1 : ρ[j]? with
  | none => rw [e1] at e; cases e
  | some s =>
    rw [e1] at e
    cases s with
    | own ds =>
      obtain ⟨d, e2, e⟩ := Option.map_eq_some_iff.mp e
      cases e
      obtain ⟨p, vs, h1, h2, h3⟩ := own_at ok e1
      obtain ⟨y, g1, g2⟩ := h3.get e2
      refine ⟨.ref p, h1, .inl ⟨rfl, vs, .of h2⟩, p, vs, y, rfl, rfl, h2, by rw [h3.length]; exact g1, ?_⟩
      exact q _ _ _ ((ok.mut e1 h1 h3.dropLast).setVal i g2) (.refl _)
    | _ => cases e

/-! ### targets -/
abbrev FG := D → List SV → Option (List SV)
/-- a target: it sets slots of vs alone -/
def Sg (K : PySem.W.Frag) (C : Nat → Addr) (vs : List Nat) (tg : TG) (g : FG) : Prop := ∀ (d : D) (ρ ρ' : List SV), g d ρ = some ρ' → ∀ (v : V) (σ : L2.St) (G H : Hp) (Q : L2.St → Hp → Prop), Rep K C G v d → Ex G H →
  (∀ σ', σ'.length = σ.length → (∀ i, i ∉ vs → σ'[i]? = σ[i]?) → (∀ a G0 H0 T, OkS K C a G0 H0 σ ρ T G H → OkS K C a G0 H0 σ' ρ' T G H) → (∀ a T, Ok K C σ ρ T a G H → Ok K C σ' ρ' T a G H) → Q σ' H) → tg v σ H Q
def gN (i : Nat) : FG := fun d ρ => some (ρ.set i (.val d))
def gT2 (i j : Nat) : FG := fun d ρ => match d with
  | .tup [x, y] => some ((ρ.set i (.val x)).set j (.val y))
  | .kt [x, y] => some ((ρ.set i (.val (.int x))).set j (.val (.int y)))
  | _ => none
theorem sg_name {i : Nat} : Sg K C [i] (gName i) (gN i) := fun d ρ ρ' e v σ G H Q r x q => by
  cases e
  exact q _ (List.length_set ..) (fun j hj => List.getElem?_set_ne (fun z => hj (by rw [z]; exact List.mem_cons_self))) (fun a G0 H0 T o => o.setVal i r) (fun a T o => o.setVal i r)
theorem sg_tup2 {i j : Nat} : Sg K C [i, j] (gTup K 2 (gCons (gName i) (gCons (gName j) gNil))) (gT2 i j) := fun d ρ ρ' e v σ G H Q r x q => by
  unfold gT2 at e
  split at e
  · cases e
    cases r with
    | tup h1 h2 =>
      cases h2 with
      | cons r1 h2 => cases h2 with
        | cons r2 h2 =>
          cases h2
          refine ⟨_, _, rfl, ex_t x h1, rfl, _, _, rfl, _, _, rfl, rfl, ?_⟩
          refine q _ (by rw [List.length_set, List.length_set]) (fun k hk => ?_) (fun a G0 H0 T o => (o.setVal i r1).setVal j r2) (fun a T o => (o.setVal i r1).setVal j r2)
          rw [List.getElem?_set_ne (fun z => hk (by rw [← z]; simp)), List.getElem?_set_ne (fun z => hk (by rw [← z]; simp))]
  · cases e
    cases r with
    | kt h1 =>
      refine ⟨_, _, rfl, .of (x _ _ h1), rfl, _, _, rfl, _, _, rfl, rfl, ?_⟩
      refine q _ (by rw [List.length_set, List.length_set]) (fun k hk => ?_) (fun a G0 H0 T o => (o.setVal i (.int _)).setVal j (.int _)) (fun a T o => (o.setVal i (.int _)).setVal j (.int _))
      rw [List.getElem?_set_ne (fun z => hk (by rw [← z]; simp)), List.getElem?_set_ne (fun z => hk (by rw [← z]; simp))]
  · cases e

/-! ### what is walked -/
def Wk (K : PySem.W.Frag) (C : Nat → Addr) (J : It) (G : Hp) (ds : List D) : Prop := ∀ (i : Nat) (G1 H1 : Hp), Ex G G1 → Ex G1 H1 → (i = ds.length → J.stop i H1) ∧ (∀ d, ds[i]? = some d → J.go i H1 ∧ ∀ x H2, J.yld i H1 x H2 → ∃ G2, Step none G1 H1 G2 H2 ∧ Rep K C G2 x d)
def Si (K : PySem.W.Frag) (C : Nat → Addr) (wi : TI) (f : FL) : Prop := ∀ σ ρ T a G H ds T', Ok K C σ ρ T a G H → f ρ T = some (ds, T') → ∀ R : It → Hp → Prop, (∀ J G' H', Step a G H G' H' → Tk K C T' a G' H' → Wk K C J G' ds → R J H') → wi σ H R
theorem wk_list {G : Hp} {p : Addr} {xs : List V} {ds : List D} (h : G p = some (.lst xs)) (r : Reps K C G xs ds) : Wk K C (Itl K p) G ds := fun i G1 H1 e1 e2 => by
  have hs : SqL K H1 p xs := .of (e2 _ _ (e1 _ _ h))
  refine ⟨fun hi => ⟨xs, hs, by rw [r.length]; exact Nat.le_of_eq hi.symm⟩, fun d hd => ?_⟩
  obtain ⟨v, hv, rv⟩ := r.get hd
  refine ⟨⟨xs, v, hs, hv⟩, fun x H2 hy => ?_⟩
  obtain ⟨rfl, hx⟩ := hy
  have e := (hx xs hs).symm.trans hv
  cases e
  exact ⟨G1, .refl e2, rv.mono e1⟩
theorem wk_tup {G : Hp} {p : Addr} {xs : List V} {ds : List D} (h : SqT K G p xs) (r : Reps K C G xs ds) : Wk K C (Itt K p) G ds := fun i G1 H1 e1 e2 => by
  have hs : SqT K H1 p xs := ex_t e2 (ex_t e1 h)
  refine ⟨fun hi => ⟨xs, hs, by rw [r.length]; exact Nat.le_of_eq hi.symm⟩, fun d hd => ?_⟩
  obtain ⟨v, hv, rv⟩ := r.get hd
  refine ⟨⟨xs, v, hs, hv⟩, fun x H2 hy => ?_⟩
  obtain ⟨rfl, hx⟩ := hy
  have e := (hx xs hs).symm.trans hv
  cases e
  exact ⟨G1, .refl e2, rv.mono e1⟩
def rngD (lo : Int) (n : Nat) : List D := (List.range n).map fun k => .int (lo + (k : Nat))
theorem wk_range {G : Hp} {lo : Int} {n : Nat} : Wk K C (Itr lo n) G (rngD lo n) := fun i G1 H1 e1 e2 => by
  unfold rngD
  refine ⟨fun hi => ?_, fun d hd => ?_⟩
  · show n ≤ i
    simp at hi; omega
  by_cases z : i < n
  · rw [List.getElem?_map, List.getElem?_range z] at hd
    cases hd
    refine ⟨z, fun x H2 hy => ?_⟩
    obtain ⟨rfl, rfl⟩ := hy
    exact ⟨G1, .refl e2, .int _⟩
  · rw [List.getElem?_eq_none (by simp; omega)] at hd
    cases hd
def itL (f : FE) : FL := fun ρ T => (f ρ T).bind fun p => match p.1 with
  | .lst ds => some (ds, p.2)
  | _ => none
def itT (f : FE) : FL := fun ρ T => (f ρ T).bind fun p => match p.1 with
  | .tup ds => some (ds, p.2)
  | _ => none
theorem si_list (h : Sd K C te f) : Si K C (iList K te) (itL f) := fun σ ρ T a G H ds T' ok e R q => by
  unfold itL at e
  obtain ⟨⟨d, T1⟩, e1, e⟩ := Option.bind_eq_some_iff.mp e
  refine h σ ρ T a G H d T1 ok e1 _ fun v G1 H1 s1 t1 r1 => ?_
  cases r1 with
  | lst h1 h2 => cases e; exact ⟨_, rfl, ⟨_, .of (s1.gh _ _ h1)⟩, q _ G1 H1 s1 t1 (wk_list h1 h2)⟩
  | _ => cases e
theorem si_tup (h : Sd K C te f) : Si K C (iTup K te) (itT f) := fun σ ρ T a G H ds T' ok e R q => by
  unfold itT at e
  obtain ⟨⟨d, T1⟩, e1, e⟩ := Option.bind_eq_some_iff.mp e
  refine h σ ρ T a G H d T1 ok e1 _ fun v G1 H1 s1 t1 r1 => ?_
  cases r1 with
  | tup h1 h2 => cases e; exact ⟨_, rfl, ⟨_, ex_t s1.gh h1⟩, q _ G1 H1 s1 t1 (wk_tup h1 h2)⟩
  | _ => cases e
def itR1 (f : FL) : FL := fun ρ T => (f ρ T).bind fun p => match p.1 with
  | [.int n] => if -1000000 ≤ n ∧ n ≤ 1000000 then some (rngD 0 n.toNat, p.2) else none
  | _ => none
def itR2 (f : FL) : FL := fun ρ T => (f ρ T).bind fun p => match p.1 with
  | [.int m, .int n] => if -1000000 ≤ m ∧ m ≤ 1000000 ∧ -1000000 ≤ n ∧ n ≤ 1000000 then some (rngD m (n - m).toNat, p.2) else none
  | _ => none
theorem si_rng1 {ta : TA} {f : FL} (h : Sa K C ta f) : Si K C (iRng1 ta) (itR1 f) := fun σ ρ T a G H ds T' ok e R q => by
  unfold itR1 at e
  obtain ⟨⟨d, T1⟩, e1, e⟩ := Option.bind_eq_some_iff.mp e
  refine h σ ρ T a G H d T1 ok e1 _ fun vs G1 H1 s1 t1 r1 => ?_
  split at e
  · rename_i n hd
    split at e
    · rename_i hn
      cases e
      have hd' : d = [.int n] := hd
      subst hd'
      cases r1 with
      | cons r1 r2 =>
        cases r2
        cases r1
        exact ⟨n, rfl, by omega, by omega, q _ G1 H1 s1 t1 wk_range⟩
    · cases e
  · cases e
theorem si_rng2 {ta : TA} {f : FL} (h : Sa K C ta f) : Si K C (iRng2 ta) (itR2 f) := fun σ ρ T a G H ds T' ok e R q => by
  unfold itR2 at e
  obtain ⟨⟨d, T1⟩, e1, e⟩ := Option.bind_eq_some_iff.mp e
  refine h σ ρ T a G H d T1 ok e1 _ fun vs G1 H1 s1 t1 r1 => ?_
  split at e
  · rename_i m n hd
    split at e
    · rename_i hn
      cases e
      have hd' : d = [.int m, .int n] := hd
      subst hd'
      cases r1 with
      | cons r1 r2 =>
        cases r2 with
        | cons r2 r3 =>
          cases r3
          cases r1
          cases r2
          exact ⟨m, n, rfl, by omega, q _ G1 H1 s1 t1 wk_range⟩
    · cases e
  · cases e

/-! ### for -/
def forS (g : FG) (b : FS) : List D → FS
  | [], ρ, T => some (.nx ρ T)
  | d :: ds, ρ, T => (g d ρ).bind fun ρ1 => (b ρ1 T).bind fun o => match o with
    | .nx ρ T => forS g b ds ρ T
    | .ct ρ T => forS g b ds ρ T
    | .bk ρ T => some (.nx ρ T)
    | o => some o
def sFor (it : FL) (g : FG) (b : FS) : FS := fun ρ T => (it ρ T).bind fun p => forS g b p.1 ρ p.2
theorem ss_for {wi : TI} {it : FL} {vs : List Nat} {tg : TG} {fg : FG} {tb : TS} {fb : FS} (hi : Si K C wi it) (hg : Sg K C vs tg fg) (hb : Ss K C tb fb) : Ss K C (tFor wi tg tb) (sFor it fg fb) := fun a G0 H0 σ ρ T G H out D ok e q => by
  unfold sFor at e
  obtain ⟨⟨ds, T1⟩, e1, e⟩ := Option.bind_eq_some_iff.mp e
  refine hi σ ρ T a G H ds T1 ok.ok e1 _ fun J G1 H1 s1 t1 wk => ?_
  have ok1 := ok.step s1 t1
  refine ⟨fun i m σ' H' => m = ds.length - i ∧ i ≤ ds.length ∧ ∃ ρ' T' G', OkS K C a G0 H0 σ' ρ' T' G' H' ∧ Ex G1 G' ∧ forS fg fb (ds.drop i) ρ' T' = some out,
    ⟨ds.length, by simp, Nat.zero_le _, ρ, T1, G1, ok1, .refl _, e⟩, ?_⟩
  rintro i m σ' H' ⟨rfl, hi', ρ', T', G', ok', x', e'⟩
  by_cases hl : i < ds.length
  · right
    rw [List.drop_eq_getElem_cons hl] at e'
    unfold forS at e'
    obtain ⟨ρ1, e2, e'⟩ := Option.bind_eq_some_iff.mp e'
    obtain ⟨o, e3, e'⟩ := Option.bind_eq_some_iff.mp e'
    obtain ⟨go, yl⟩ := (wk i G' H' x' ok'.ok.gh).2 _ (List.getElem?_eq_getElem hl)
    refine ⟨go, _, fun _ _ z => z, fun x H2 hy => ?_⟩
    obtain ⟨G2, s2, r2⟩ := yl x H2 hy
    have ok2 := ok'.step s2.any (ok'.ok.tk.pure s2)
    refine hg _ ρ' ρ1 e2 x σ' G2 H2 _ r2 s2.gh fun σ3 _ _ f1 _ => ?_
    refine hb a G0 H0 σ3 ρ1 T' G2 H2 o _ (f1 a G0 H0 T' ok2) e3 ?_
    cases o with
    | nx ρ4 T4 => exact fun σ5 G5 H5 ok5 x5 => ⟨ds.length - (i + 1), by omega, rfl, hl, ρ4, T4, G5, ok5, x'.trans (s2.g.trans x5), e'⟩
    | ct ρ4 T4 => exact fun σ5 G5 H5 ok5 x5 => ⟨ds.length - (i + 1), by omega, rfl, hl, ρ4, T4, G5, ok5, x'.trans (s2.g.trans x5), e'⟩
    | bk ρ4 T4 => cases e'; exact q.mono (s1.g.trans (x'.trans s2.g))
    | ret d4 T4 => cases e'; exact q
    | retF d4 T4 => cases e'; exact q
  · left
    have : i = ds.length := by omega
    subst this
    rw [List.drop_length] at e'
    cases e'
    exact ⟨(wk _ G' H' x' ok'.ok.gh).1 rfl, q σ' G' H' ok' (s1.g.trans x')⟩

/-! ### while -/
def whS (c : FB) (b : FS) : Nat → FS
  | 0, _, _ => none
  | n + 1, ρ, T => (c ρ T).bind fun p => if p.1 = true then (b ρ p.2).bind fun o => match o with
    | .nx ρ T => whS c b n ρ T
    | .ct ρ T => whS c b n ρ T
    | .bk ρ T => some (.nx ρ T)
    | o => some o
    else some (.nx ρ p.2)
theorem ss_while {tt : TT} {c : FB} {tb : TS} {fb : FS} (n : Nat) (hc : Sb K C tt c) (hb : Ss K C tb fb) : Ss K C (tWhile tt tb) (whS c fb n) := fun a G0 H0 σ ρ T G H out D ok e q => by
  refine ⟨fun m σ' H' => ∃ ρ' T' G', OkS K C a G0 H0 σ' ρ' T' G' H' ∧ Ex G G' ∧ whS c fb m ρ' T' = some out, ⟨n, ρ, T, G, ok, .refl _, e⟩, ?_⟩
  rintro m σ' H' ⟨ρ', T', G', ok', x', e'⟩
  cases m with
  | zero => cases e'
  | succ m =>
    unfold whS at e'
    obtain ⟨⟨b, T1⟩, e1, e'⟩ := Option.bind_eq_some_iff.mp e'
    refine hc σ' ρ' T' a G' H' b T1 ok'.ok e1 _ fun G1 H1 s1 t1 => ?_
    cases b with
    | true =>
      obtain ⟨o, e2, e'⟩ := Option.bind_eq_some_iff.mp e'
      rw [if_pos rfl]
      refine ⟨_, fun _ _ z => z, hb a G0 H0 σ' ρ' T1 G1 H1 o _ (ok'.step s1 t1) e2 ?_⟩
      cases o with
      | nx ρ4 T4 => exact fun σ5 G5 H5 ok5 x5 => ⟨m, Nat.lt_succ_self m, ρ4, T4, G5, ok5, x'.trans (s1.g.trans x5), e'⟩
      | ct ρ4 T4 => exact fun σ5 G5 H5 ok5 x5 => ⟨m, Nat.lt_succ_self m, ρ4, T4, G5, ok5, x'.trans (s1.g.trans x5), e'⟩
      | bk ρ4 T4 => cases e'; exact q.mono (x'.trans s1.g)
      | ret d4 T4 => cases e'; exact q
      | retF d4 T4 => cases e'; exact q
    | false =>
      cases e'
      exact q σ' G1 H1 (ok'.step s1 t1) (x'.trans s1.g)

/-! ### comprehensions -/
def wipeE (ρ : List SV) : List Nat → List SV
  | [] => ρ
  | v :: vs => (wipeE ρ vs).set v .un
theorem Ok.setUn {a : Option Addr} {G H : Hp} {σ : L2.St} {ρ : List SV} {T : Tn} (o : Ok K C σ ρ T a G H) (i : Nat) : Ok K C (σ.set i none) (ρ.set i .un) T a G H := by
  have sp : ∀ (j : Nat) (s : SV), s ≠ .un → (ρ.set i SV.un)[j]? = some s → i ≠ j ∧ ρ[j]? = some s := fun j s hs h => by
    by_cases z : i = j
    · subst z
      have hl : i < ρ.length := by
        have := (List.getElem?_eq_some_iff.mp h).1
        rw [List.length_set] at this; exact this
      rw [List.getElem?_set_self hl] at h
      exact absurd (Option.some.inj h).symm hs
    · rw [List.getElem?_set_ne z] at h
      exact ⟨z, h⟩
  refine ⟨o.gh, by rw [List.length_set, List.length_set]; exact o.len, fun j d h => ?_, fun j ds h => ?_, fun j k ds es p h1 h2 h3 h4 => ?_, fun j h => ?_, o.tk, o.tb⟩
  · obtain ⟨z, h⟩ := sp j (.val d) (fun z => SV.noConfusion z) h
    rw [List.getElem?_set_ne z]
    exact o.val j d h
  · obtain ⟨z, h⟩ := sp j (.own ds) (fun z => SV.noConfusion z) h
    rw [List.getElem?_set_ne z]
    exact o.own j ds h
  · obtain ⟨z1, h1⟩ := sp j (.own ds) (fun z => SV.noConfusion z) h1
    obtain ⟨z2, h2⟩ := sp k (.own es) (fun z => SV.noConfusion z) h2
    rw [List.getElem?_set_ne z1] at h3
    rw [List.getElem?_set_ne z2] at h4
    exact o.dis j k ds es p h1 h2 h3 h4
  · obtain ⟨z, h⟩ := sp j .tnk (fun z => SV.noConfusion z) h
    rw [List.getElem?_set_ne z]
    exact o.tnk j h
theorem Ok.wipe {a : Option Addr} {G H : Hp} {σ : L2.St} {ρ : List SV} {T : Tn} (o : Ok K C σ ρ T a G H) : ∀ vs : List Nat, Ok K C (L2.wipe σ vs) (wipeE ρ vs) T a G H
  | [] => o
  | v :: vs => (o.wipe vs).setUn v
theorem wipe_at (σ : L2.St) : ∀ (vs : List Nat) (i : Nat), (L2.wipe σ vs)[i]? = if i ∈ vs ∧ i < σ.length then some none else σ[i]?
  | [], i => by simp [L2.wipe]
  | v :: vs, i => by
    unfold L2.wipe
    by_cases z : v = i
    · subst z
      by_cases hl : v < σ.length
      · rw [List.getElem?_set_self (by rw [wipe_length]; exact hl), if_pos ⟨List.mem_cons_self, hl⟩]
      · rw [List.getElem?_eq_none (by rw [List.length_set, wipe_length]; omega), if_neg (fun h => hl h.2), List.getElem?_eq_none (by omega)]
    · rw [List.getElem?_set_ne z, wipe_at σ vs i]
      have : (i ∈ v :: vs ∧ i < σ.length) ↔ (i ∈ vs ∧ i < σ.length) := by
        rw [List.mem_cons]
        exact ⟨fun h => ⟨h.1.resolve_left (fun e => z e.symm), h.2⟩, fun h => ⟨.inr h.1, h.2⟩⟩
      simp only [this]
theorem wipe_same {σ σ' : L2.St} {vs ws : List Nat} (hl : σ'.length = (L2.wipe σ vs).length) (h : ∀ i, i ∉ ws → σ'[i]? = (L2.wipe σ vs)[i]?) (hs : ∀ i ∈ ws, i ∈ vs) : L2.wipe σ' vs = L2.wipe σ vs := by
  rw [wipe_length] at hl
  apply List.ext_getElem?
  intro i
  rw [wipe_at, wipe_at, hl]
  by_cases z : i ∈ vs
  · by_cases zl : i < σ.length
    · rw [if_pos ⟨z, zl⟩, if_pos ⟨z, zl⟩]
    · rw [if_neg (fun h => zl h.2), if_neg (fun h => zl h.2), List.getElem?_eq_none (by omega), List.getElem?_eq_none (by omega)]
  · rw [if_neg (fun h => z h.1), if_neg (fun h => z h.1), h i (fun w => z (hs i w)), wipe_at, if_neg (fun h => z h.1)]
def lcS (g : FG) (t : FB) (e : FE) (ρ : List SV) : List D → Tn → Option (List D × Tn)
  | [], T => some ([], T)
  | d :: ds, T => (g d ρ).bind fun ρ1 => (t ρ1 T).bind fun b => if b.1 = true then (e ρ1 b.2).bind fun x => (lcS g t e ρ ds x.2).map fun r => (x.1 :: r.1, r.2) else lcS g t e ρ ds b.2
def lcE (it : FL) (g : FG) (t : FB) (e : FE) (vs : List Nat) : FL := fun ρ T => (it ρ T).bind fun p => if p.1.length ≤ 50000 then lcS g t e (wipeE ρ vs) p.1 p.2 else none
theorem Tk.upd {T : Tn} {a : Option Addr} {G H : Hp} {p : Addr} {o : HO} (t : Tk K C T a G H) (h : a ≠ some p) : Tk K C T a G (L2.upd H p o) := by
  unfold Tk at t ⊢
  cases T with
  | none => cases a with
    | none => trivial
    | some q => exact t
  | some ts => cases a with
    | none => exact t
    | some q =>
      obtain ⟨ws, k1, k2, k3⟩ := t
      exact ⟨ws, by rw [upd_ne (fun z => h (by rw [z]))]; exact k1, k2, k3⟩
def yesB : FB := fun _ T => some (true, T)
theorem sb_yes : Sb K C tYes yesB := fun σ ρ T a G H b T' ok e Q q => by
  cases e
  exact q G H (.refl ok.gh) ok.tk
theorem sf_lc {wi : TI} {it : FL} {vs ws : List Nat} {tg : TG} {fg : FG} {tt : TT} {ft : FB} (hi : Si K C wi it) (hg : Sg K C ws tg fg) (hs : ∀ i ∈ ws, i ∈ vs) (ht : Sb K C tt ft) (he : Sd K C te f) : Sf K C (tLc wi tg tt te vs) (lcE it fg ft f vs) := fun σ ρ T a G H res Tf ok e Q q => by
  unfold lcE at e
  obtain ⟨⟨ds, T1⟩, e1, e⟩ := Option.bind_eq_some_iff.mp e
  split at e
  case isFalse => cases e
  rename_i hz
  have hz : ds.length ≤ 50000 := hz
  refine hi σ ρ T a G H ds T1 ok e1 _ fun J G1 H1 s1 t1 wk => ?_
  intro D hD
  have okw := (ok.step s1 t1).wipe vs
  have na : a ≠ some D := fun z => (t1.there z).1 hD
  refine ⟨fun i m H' => m = ds.length - i ∧ i ≤ ds.length ∧ ∃ T' G' vacc acc rest, Step a G1 H1 G' H' ∧ Tk K C T' a G' H' ∧ H' D = some (.lst vacc) ∧ G' D = none ∧ Reps K C G' vacc acc ∧ acc.length ≤ i ∧
      lcS fg ft f (wipeE ρ vs) (ds.drop i) T' = some (rest, Tf) ∧ acc ++ rest = res,
    ⟨ds.length, by simp, Nat.zero_le _, T1, G1, [], [], res, .newH s1.gh hD, t1.upd na, upd_same, s1.gh.none hD, .nil, Nat.le_refl _, e, rfl⟩, ?_⟩
  rintro i m H' ⟨rfl, hi', T', G', vacc, acc, rest, s', t', hD', gD', racc, hal, e', er⟩
  by_cases hl : i < ds.length
  · right
    rw [List.drop_eq_getElem_cons hl] at e'
    unfold lcS at e'
    obtain ⟨ρ1, e2, e'⟩ := Option.bind_eq_some_iff.mp e'
    obtain ⟨⟨b, T2⟩, e3, e'⟩ := Option.bind_eq_some_iff.mp e'
    obtain ⟨go, yl⟩ := (wk i G' H' s'.g s'.gh).2 _ (List.getElem?_eq_getElem hl)
    refine ⟨go, _, fun _ z => z, fun x H2 hy => ?_⟩
    obtain ⟨G2, s2, r2⟩ := yl x H2 hy
    have nD : ∀ {X : Hp}, X D ≠ none → True := fun _ => trivial
    refine hg _ _ ρ1 e2 x (L2.wipe σ vs) G2 H2 _ r2 s2.gh fun σ3 l3 o3 _ f3 => ?_
    refine ⟨wipe_same l3 o3 hs, ?_⟩
    have ok3 : Ok K C σ3 ρ1 T' a G2 H2 := f3 a T' ((okw.step s' t').pure s2)
    have hD2 : H2 D = some (.lst vacc) := s2.h D _ hD' (fun z => nomatch z) (fun _ z => nomatch z)
    have gD2 : G2 D = none := s2.fr D gD' (by rw [hD']; exact (fun z => nomatch z))
    refine ht σ3 ρ1 T' a G2 H2 b T2 ok3 e3 _ fun G3 H3 s3 t3 => ?_
    have hD3 : H3 D = some (.lst vacc) := s3.h D _ hD2 (Ne.symm na) (fun _ z => nomatch z)
    have gD3 : G3 D = none := s3.fr D gD2 (by rw [hD2]; exact (fun z => nomatch z))
    cases b with
    | true =>
      obtain ⟨⟨y, T4⟩, e4, e'⟩ := Option.bind_eq_some_iff.mp e'
      obtain ⟨⟨rest', Tf'⟩, e5, e'⟩ := Option.map_eq_some_iff.mp e'
      cases e'
      rw [if_pos rfl]
      refine he σ3 ρ1 T2 a G3 H3 y T4 (ok3.step s3 t3) e4 _ fun w G4 H4 s4 t4 r4 => ?_
      have hD4 : H4 D = some (.lst vacc) := s4.h D _ hD3 (Ne.symm na) (fun _ z => nomatch z)
      have gD4 : G4 D = none := s4.fr D gD3 (by rw [hD3]; exact (fun z => nomatch z))
      refine ⟨vacc, hD4, sz_lt (by rw [racc.length]; omega), ds.length - (i + 1), by omega, rfl, hl, T4, G4, vacc ++ [w], acc ++ [y], rest', ?_, t4.upd na, upd_same, gD4, (racc.mono (s2.g.trans (s3.g.trans s4.g))).append (.cons r4 .nil), by rw [List.length_append]; exact Nat.succ_le_succ hal, e5, ?_⟩
      · exact (((s'.trans s2.any).trans s3).trans s4).mut gD4 (.inl hD) ⟨_, hD4⟩
      · rw [List.append_assoc]; exact er
    | false =>
      rw [if_neg Bool.false_ne_true]
      exact ⟨ds.length - (i + 1), by omega, rfl, hl, T2, G3, vacc, acc, rest, (s'.trans s2.any).trans s3, t3, hD3, gD3, racc.mono (s2.g.trans s3.g), Nat.le_succ_of_le hal, e', er⟩
  · left
    have : i = ds.length := by omega
    subst this
    rw [List.drop_length] at e'
    cases e'
    rw [List.append_nil] at er
    subst er
    exact ⟨(wk _ G' H' s'.g s'.gh).1 rfl, q D vacc G' H' (s1.trans s') t' (s1.dm D hD) hD' gD' racc⟩
end
end TR

/-! Promises of defs, calls, and the rules for expressions and statements at the data level. -/
namespace TR
open PySem PySem.Spec PyProof.Rows L2

/-! ### promises -/
section
variable (K : PySem.W.Frag) (C : Nat → Addr)
def spP (F : List D → Option D) : Sp := fun vs H Q _ => ∃ G ds d, Ex G H ∧ Tb C G H ∧ Reps K C G vs ds ∧ F ds = some d ∧ ∀ v G' H', Step none G H G' H' → Rep K C G' v d → Q v H'
def spF (F : List D → Option (List D)) : Sp := fun vs H Q _ => ∃ G ds es, Ex G H ∧ Tb C G H ∧ Reps K C G vs ds ∧ F ds = some es ∧ ∀ p ws G' H', Step none G H G' H' → H p = none → H' p = some (.lst ws) → G' p = none → Reps K C G' ws es → Q (.ref p) H'
def spT (F : List D → List D → Option (D × List D)) : Sp := fun vs H Q _ => ∃ G p ts tk ws ds d tk', vs = .ref p :: ws ∧ Ex G H ∧ Tb C G H ∧ H p = some (.lst ts) ∧ G p = none ∧ Reps K C G ts tk ∧ Reps K C G ws ds ∧ F tk ds = some (d, tk') ∧
  ∀ v G' H', Step (some p) G H G' H' → Tk K C (some tk') (some p) G' H' → Rep K C G' v d → Q v H'
end
def startE (n : Nat) (ds : List D) : List SV := ds.map .val ++ List.replicate (n - ds.length) .un
def runP (n m : Nat) (f : FS) (ds : List D) : Option D := if ds.length = m then match f (startE n ds) none with
  | some (.ret d _) => some d
  | some (.nx _ _) => some .non
  | _ => none
  else none
def runF (n m : Nat) (f : FS) (ds : List D) : Option (List D) := if ds.length = m then match f (startE n ds) none with
  | some (.retF es _) => some es
  | _ => none
  else none
def runT (n m : Nat) (f : FS) (tk ds : List D) : Option (D × List D) := if ds.length + 1 = m then match f (.tnk :: startE (n - 1) ds) (some tk) with
  | some (.ret d (some tk')) => some (d, tk')
  | _ => none
  else none
section
variable {K : PySem.W.Frag} {C : Nat → Addr}
theorem startE_len {n : Nat} {ds : List D} (h : ds.length ≤ n) : (startE n ds).length = n := by unfold startE; simp; omega
theorem ok_start {G H : Hp} {N : List Str} {vs : List V} {ds : List D} (e : Ex G H) (tb : Tb C G H) (r : Reps K C G vs ds) (h : vs.length ≤ N.length) : Ok K C (L2.start N vs) (startE N.length ds) none none G H := by
  have hl := r.length
  have key : ∀ (i : Nat) (s : SV), (startE N.length ds)[i]? = some s → (∃ d, s = .val d ∧ ds[i]? = some d) ∨ s = .un := fun i s h => by
    unfold startE at h
    by_cases z : i < ds.length
    · rw [List.getElem?_append_left (by simpa using z), List.getElem?_map, List.getElem?_eq_getElem z] at h
      cases h
      exact .inl ⟨_, rfl, List.getElem?_eq_getElem z⟩
    · rw [List.getElem?_append_right (by simpa using z), List.getElem?_replicate] at h
      split at h
      · cases h; exact .inr rfl
      · cases h
  refine ⟨e, ?_, fun i d h => ?_, fun i ds h => ?_, fun i j ds es p h1 h2 h3 h4 => ?_, fun i h => ?_, trivial, tb⟩
  · rw [startE_len (by omega)]
    unfold L2.start
    simp; omega
  · rcases key i _ h with ⟨d', e1, e2⟩ | e1
    · cases e1
      obtain ⟨v, h1, h2⟩ := r.get e2
      refine ⟨v, ?_, h2⟩
      unfold L2.start
      rw [List.getElem?_append_left (by rw [List.length_map]; exact (List.getElem?_eq_some_iff.mp h1).1), List.getElem?_map, h1]
      rfl
    · cases e1
  · rcases key i _ h with ⟨d', e1, e2⟩ | e1 <;> cases e1
  · rcases key i _ h1 with ⟨d', e1, e2⟩ | e1 <;> cases e1
  · rcases key i _ h with ⟨d', e1, e2⟩ | e1 <;> cases e1
theorem startE_own {n : Nat} {ds : List D} (i : Nat) (es : List D) : (startE n ds)[i]? ≠ some (SV.own es) := fun h => by
  unfold startE at h
  by_cases z : i < (List.map SV.val ds).length
  · rw [List.getElem?_append_left z, List.getElem?_map] at h
    cases q : ds[i]? with
    | none => rw [q] at h; cases h
    | some d => rw [q] at h; cases h
  · rw [List.getElem?_append_right (by omega), List.getElem?_replicate] at h
    split at h <;> cases h
theorem ok_startT {G H : Hp} {N : List Str} {vs : List V} {ds : List D} {p : Addr} {ts : List V} {tk : List D} (e : Ex G H) (tb : Tb C G H) (r : Reps K C G vs ds) (h : vs.length + 1 ≤ N.length) (hp : H p = some (.lst ts)) (hg : G p = none) (rt : Reps K C G ts tk) :
    Ok K C (L2.start N (.ref p :: vs)) (.tnk :: startE (N.length - 1) ds) (some tk) (some p) G H := by
  have e1 : L2.start N (V.ref p :: vs) = some (.ref p) :: L2.start (N.drop 1) vs := by
    unfold L2.start
    rw [List.map_cons, List.cons_append, List.length_cons, List.length_drop]
    congr 3
    omega
  have o := ok_start (N := N.drop 1) e tb r (by rw [List.length_drop]; omega)
  rw [List.length_drop] at o
  rw [e1]
  refine ⟨e, by rw [List.length_cons, List.length_cons, o.len], fun i d h => ?_, fun i ds h => ?_, fun i j ds es p h1 h2 h3 h4 => ?_, fun i h => ?_, ⟨ts, hp, hg, rt⟩, tb⟩
  · cases i with
    | zero => cases h
    | succ i => exact o.val i d (by simpa using h)
  · cases i with
    | zero => cases h
    | succ i =>
      obtain ⟨p', vs, h1, h2, h3, h4, h5⟩ := o.own i ds (by simpa using h)
      exact absurd (by simpa using h) (startE_own i ds)
  · cases i with
    | zero => cases h1
    | succ i =>
      cases j with
      | zero => cases h2
      | succ j => exact congrArg (· + 1) (o.dis i j ds es p (by simpa using h1) (by simpa using h2) (by simpa using h3) (by simpa using h4))
  · cases i with
    | zero => exact ⟨p, rfl, rfl⟩
    | succ i =>
      obtain ⟨q, h1, _⟩ := o.tnk i (by simpa using h)
      cases h1
end
/-! ### bodies -/
section
variable {K : PySem.W.Frag} {C : Nat → Addr}
theorem oks_start {a : Option Addr} {σ : L2.St} {ρ : List SV} {T : Tn} {G H : Hp} (o : Ok K C σ ρ T a G H) (h : ∀ (i : Nat) (ds : List D), ρ[i]? ≠ some (SV.own ds)) : OkS K C a G H σ ρ T G H :=
  ⟨o, .refl o.gh, fun i ds p e => absurd e (h i ds), o.gh⟩
theorem body_P {N : List Str} {m : Nat} {t : TS} {f : FS} (hb : Ss K C t f) (hm : m ≤ N.length) {vs : List V} {H : Hp} {Q : VK} {E : XK} (h : spP K C (runP N.length m f) vs H Q E) : t { nx := fun _ H' => Q .non H', rt := Q } (L2.start N vs) H := by
  obtain ⟨G, ds, d, e, tb, r, hf, q⟩ := h
  unfold runP at hf
  split at hf
  case isFalse => cases hf
  rename_i hl
  have o := oks_start (ok_start (N := N) e tb r (by rw [r.length]; omega)) startE_own
  cases ho : f (startE N.length ds) none with
  | none => rw [ho] at hf; cases hf
  | some out =>
    rw [ho] at hf
    refine hb none G H (L2.start N vs) _ none G H out _ o ho ?_
    cases out with
    | nx ρ T => cases hf; exact fun σ' G' H' ok' _ => q _ G' H' ok'.st .non
    | ret d' T => cases hf; exact fun v G' H' s' _ r' => q v G' H' s' r'
    | _ => cases hf
theorem body_F {N : List Str} {m : Nat} {t : TS} {f : FS} (hb : Ss K C t f) (hm : m ≤ N.length) {vs : List V} {H : Hp} {Q : VK} {E : XK} (h : spF K C (runF N.length m f) vs H Q E) : t { nx := fun _ H' => Q .non H', rt := Q } (L2.start N vs) H := by
  obtain ⟨G, ds, d, e, tb, r, hf, q⟩ := h
  unfold runF at hf
  split at hf
  case isFalse => cases hf
  rename_i hl
  have o := oks_start (ok_start (N := N) e tb r (by rw [r.length]; omega)) startE_own
  cases ho : f (startE N.length ds) none with
  | none => rw [ho] at hf; cases hf
  | some out =>
    rw [ho] at hf
    refine hb none G H (L2.start N vs) _ none G H out _ o ho ?_
    cases out with
    | retF d' T => cases hf; exact fun p ws G' H' s' _ h1 h2 h3 r' => q p ws G' H' s' h1 h2 h3 r'
    | _ => cases hf
theorem body_T {N : List Str} {m : Nat} {t : TS} {f : FS} (hb : Ss K C t f) (hm : m ≤ N.length) {vs : List V} {H : Hp} {Q : VK} {E : XK} (h : spT K C (runT N.length m f) vs H Q E) : t { nx := fun _ H' => Q .non H', rt := Q } (L2.start N vs) H := by
  obtain ⟨G, p, ts, tk, ws, ds, d, tk', rfl, e, tb, hp, hg, rt, r, hf, q⟩ := h
  unfold runT at hf
  split at hf
  case isFalse => cases hf
  rename_i hl
  have o := oks_start (ok_startT (N := N) e tb r (by rw [r.length]; omega) hp hg rt) (fun i es h => by
    cases i with
    | zero => cases h
    | succ i => exact startE_own i es (by simpa using h))
  cases ho : f (.tnk :: startE (N.length - 1) ds) (some tk) with
  | none => rw [ho] at hf; cases hf
  | some out =>
    rw [ho] at hf
    refine hb (some p) G H _ _ (some tk) G H out _ o ho ?_
    cases out with
    | ret d' T => cases T with
      | none => cases hf
      | some tk2 => cases hf; exact fun v G' H' s' t' r' => q v G' H' s' t' r'
    | _ => cases hf
theorem spP_len {n m : Nat} {f : FS} {vs : List V} {H : Hp} {Q : VK} {E : XK} (h : spP K C (runP n m f) vs H Q E) : vs.length = m := by
  obtain ⟨G, ds, d, e, tb, r, hf, q⟩ := h
  unfold runP at hf
  split at hf
  · rename_i hl; rw [r.length]; exact hl
  · cases hf
theorem spF_len {n m : Nat} {f : FS} {vs : List V} {H : Hp} {Q : VK} {E : XK} (h : spF K C (runF n m f) vs H Q E) : vs.length = m := by
  obtain ⟨G, ds, d, e, tb, r, hf, q⟩ := h
  unfold runF at hf
  split at hf
  · rename_i hl; rw [r.length]; exact hl
  · cases hf
theorem spT_len {n m : Nat} {f : FS} {vs : List V} {H : Hp} {Q : VK} {E : XK} (h : spT K C (runT n m f) vs H Q E) : vs.length = m := by
  obtain ⟨G, p, ts, tk, ws, ds, d, tk', rfl, e, tb, hp, hg, rt, r, hf, q⟩ := h
  unfold runT at hf
  split at hf
  · rename_i hl; rw [List.length_cons, r.length]; exact hl
  · cases hf
end
/-- a def that is known by its name -/
structure Kn (P : Program) (w : World) (K : PySem.W.Frag) (mg : Str → Option Value) (base : Heap) (x : Str) (k : Nat) (ps : List Str) (sp : Sp) : Prop where
  ex : ∃ f fd, FnOk P w K mg base CX0 k f fd ps sp ∧ mg x = some (.ref f) ∧ PySem.W.keepIn K (.ref f) = true ∧ Binds K fd ps []
/-- a def's object, as it stands behind the top -/
structure Fx (K : PySem.W.Frag) (mg : Str → Option Value) (x : Str) (st : Stmt) (ps : List Str) : Prop where
  ex : ∃ f fd, Fun K x x st f fd ∧ mg x = some (.ref f) ∧ Binds K fd ps []
section
variable {P : Program} {w : World} {K : PySem.W.Frag} {mg : Str → Option Value} {base : Heap} {C : Nat → Addr} {x : Str} {st : Stmt} {N ps : List Str} {k : Nat}
abbrev bCx (P : Program) (w : World) (K : PySem.W.Frag) (mg : Str → Option Value) (base : Heap) (N : List Str) (qual : Str) (st : Stmt) (f : Addr) (cdv : Value) (A : Around) (outer : List Env) (s : Shared) (H : Hp) (E : XK) : Cx := (cxOf CX0 P w K mg base N qual (defScope st) f cdv A outer s H E).nox
abbrev Bd (P : Program) (w : World) (K : PySem.W.Frag) (mg : Str → Option Value) (base : Heap) (C : Nat → Addr) (N : List Str) (qual : Str) (st : Stmt) (k : Nat) (fs : FS) : Prop :=
  ∀ (f : Addr) (cdv : Value) (A : Around) (outer : List Env) (s : Shared) (H : Hp) (E : XK), Room k (A.deeper (envOfC qual (defScope st) s.heap.objs.size f cdv)) → ∃ t, PSsD (bCx P w K mg base N qual st f cdv A outer s H E) C (defBody st) t fs
theorem kn_P {fs : FS} {n m : Nat} (F : Fx K mg x st ps) (S : FnScope N ps (defScope st)) (hn : N.length = n) (hm : ps.length = m) (hb : Bd P w K mg base C N x st k fs) : Kn P w K mg base x (k + 1) ps (spP K C (runP n m fs)) := by
  obtain ⟨f, fd, F, g, b⟩ := F.ex
  subst hn hm
  have hpl : ps.length ≤ N.length := by have := congrArg List.length S.pre; rw [List.length_take] at this; omega
  exact ⟨f, fd, F.ok S (fun vs H Q E h => spP_len h) (fun cdv A outer s H vs Q E hr h => let ⟨t, z⟩ := hb f cdv A outer s H E hr; ⟨t, z.ps, body_P z.ss hpl h⟩), g, F.kp, b⟩
theorem kn_F {fs : FS} {n m : Nat} (F : Fx K mg x st ps) (S : FnScope N ps (defScope st)) (hn : N.length = n) (hm : ps.length = m) (hb : Bd P w K mg base C N x st k fs) : Kn P w K mg base x (k + 1) ps (spF K C (runF n m fs)) := by
  obtain ⟨f, fd, F, g, b⟩ := F.ex
  subst hn hm
  have hpl : ps.length ≤ N.length := by have := congrArg List.length S.pre; rw [List.length_take] at this; omega
  exact ⟨f, fd, F.ok S (fun vs H Q E h => spF_len h) (fun cdv A outer s H vs Q E hr h => let ⟨t, z⟩ := hb f cdv A outer s H E hr; ⟨t, z.ps, body_F z.ss hpl h⟩), g, F.kp, b⟩
theorem kn_T {fs : FS} {n m : Nat} (F : Fx K mg x st ps) (S : FnScope N ps (defScope st)) (hn : N.length = n) (hm : ps.length = m) (hb : Bd P w K mg base C N x st k fs) : Kn P w K mg base x (k + 1) ps (spT K C (runT n m fs)) := by
  obtain ⟨f, fd, F, g, b⟩ := F.ex
  subst hn hm
  have hpl : ps.length ≤ N.length := by have := congrArg List.length S.pre; rw [List.length_take] at this; omega
  exact ⟨f, fd, F.ok S (fun vs H Q E h => spT_len h) (fun cdv A outer s H vs Q E hr h => let ⟨t, z⟩ := hb f cdv A outer s H E hr; ⟨t, z.ps, body_T z.ss hpl h⟩), g, F.kp, b⟩
end
/-- a fresh list, as a value -/
theorem spF_P {K : PySem.W.Frag} {C : Nat → Addr} {F : List D → Option (List D)} (vs : List V) (H : Hp) (Q : VK) (E : XK) (h : spP K C (fun ds => (F ds).map .lst) vs H Q E) : spF K C F vs H Q E := by
  obtain ⟨G, ds, d, e, tb, r, hf, q⟩ := h
  obtain ⟨es, h1, h2⟩ := Option.map_eq_some_iff.mp hf
  subst h2
  exact ⟨G, ds, es, e, tb, r, h1, fun p ws G' H' s' hn hp hg r' => q (.ref p) _ H' (s'.freeze (o := .lst ws) e hn hp) (.lst upd_same (r'.mono (.new hg)))⟩
theorem Kn.toP {P : Program} {w : World} {K : PySem.W.Frag} {mg : Str → Option Value} {base : Heap} {C : Nat → Addr} {x : Str} {ps : List Str} {k : Nat} {F : List D → Option (List D)} (h : Kn P w K mg base x k ps (spF K C F)) : Kn P w K mg base x k ps (spP K C fun ds => (F ds).map .lst) := by
  obtain ⟨f, fd, F1, g, kp, b⟩ := h.ex
  exact ⟨f, fd, F1.imp spF_P, g, kp, b⟩

/-! ### calls -/
def tcE (i : Nat) (F : List D → List D → Option (D × List D)) (g : FL) : FE := fun ρ T => match ρ[i]? with
  | some .tnk => (g ρ T).bind fun p => match p.2 with
    | some tk => (F tk p.1).map fun q => (q.1, some q.2)
    | none => none
  | _ => none
def cF (F : List D → Option (List D)) (g : FL) : FL := fun ρ T => (g ρ T).bind fun p => (F p.1).map fun es => (es, p.2)
section
variable {K : PySem.W.Frag} {C : Nat → Addr} {t : TA} {g : FL}
theorem sd_callP {F : List D → Option D} (h : Sa K C t g) : Sd K C (tCall (spP K C F) [] E0 t) (cO F g) := fun σ ρ T a G H d T' ok e Q q => by
  unfold cO at e
  obtain ⟨⟨ds, T1⟩, e1, e⟩ := Option.bind_eq_some_iff.mp e
  obtain ⟨z, e3, e⟩ := Option.map_eq_some_iff.mp e
  cases e
  refine h σ ρ T a G H ds T1 ok e1 _ fun vs G1 H1 s1 t1 r1 => ?_
  rw [List.append_nil]
  exact ⟨G1, ds, _, s1.gh, (ok.step s1 t1).tb, r1, e3, fun v G2 H2 s2 r2 => q v G2 H2 (s1.trans s2.any) (t1.pure s2) r2⟩
theorem sf_callF {F : List D → Option (List D)} (h : Sa K C t g) : Sf K C (tCall (spF K C F) [] E0 t) (cF F g) := fun σ ρ T a G H d T' ok e Q q => by
  unfold cF at e
  obtain ⟨⟨ds, T1⟩, e1, e⟩ := Option.bind_eq_some_iff.mp e
  obtain ⟨z, e3, e⟩ := Option.map_eq_some_iff.mp e
  cases e
  refine h σ ρ T a G H ds T1 ok e1 _ fun vs G1 H1 s1 t1 r1 => ?_
  rw [List.append_nil]
  exact ⟨G1, ds, _, s1.gh, (ok.step s1 t1).tb, r1, e3, fun p ws G2 H2 s2 hn hp hg r2 => q p ws G2 H2 (s1.trans s2.any) (t1.pure s2) (s1.dm p hn) hp hg r2⟩
theorem sd_callT {i : Nat} {F : List D → List D → Option (D × List D)} (h : Sa K C t g) : Sd K C (tCall (spT K C F) [] E0 (tCons (tVar i) t)) (tcE i F g) := fun σ ρ T a G H d T' ok e Q q => by
  unfold tcE at e
  cases e0 : ρ[i]? with
  | none => rw [e0] at e; cases e
  | some s =>
    rw [e0] at e
    cases s with
    | tnk =>
      obtain ⟨⟨ds, T1⟩, e1, e⟩ := Option.bind_eq_some_iff.mp e
      obtain ⟨p, ha, hp⟩ := ok.tnk i e0
      subst ha
      refine ⟨.ref p, hp, ?_⟩
      refine h σ ρ T (some p) G H ds T1 ok e1 _ fun vs G1 H1 s1 t1 r1 => ?_
      cases T1 with
      | none => cases e
      | some tk =>
        obtain ⟨⟨z, tk'⟩, e3, e⟩ := Option.map_eq_some_iff.mp e
        cases e
        have tb1 := (ok.step s1 t1).tb
        obtain ⟨ts, k1, k2, k3⟩ : ∃ vs, H1 p = some (.lst vs) ∧ G1 p = none ∧ Reps K C G1 vs tk := t1
        rw [List.append_nil]
        exact ⟨G1, p, ts, tk, vs, ds, _, tk', rfl, s1.gh, tb1, k1, k2, k3, r1, e3, fun v G2 H2 s2 t2 r2 => q v G2 H2 (s1.trans s2) t2 r2⟩
    | _ => cases e
end

/-! ### rules: expressions -/
section
variable {X : Cx} {C : Nat → Addr} {a b c : Expr} {ta tb tc te : TE} {f g h : FE} {pos p : Pos} {r r' : R2} {o o' : D → D → Option D}
theorem q_var (i : Nat) {x : Str} (hN : X.N[i]? = some x := by rfl) (hv : Vis X.env.scope x := by first | exact Or.inl rfl | exact Or.inr (Or.inl rfl) | exact Or.inr (Or.inr rfl)) (hd : (x == ("__debug__" : Str)) = false := by decide)
    (hcd : (x == ("__classdict__" : Str)) = false := by decide) : PD X C (.Name x pos) (tVar i) (vr i) := ⟨pe_var hN hv hd hcd, sd_var⟩
theorem q_int {i : Int} {j} : PD X C (.Constant (.int i) j pos) (tC (.int i)) (cD (.int i)) := ⟨pe_int, sd_c fun _ => .int i⟩
theorem q_bl {i : Bool} {j} : PD X C (.Constant (.bool i) j pos) (tC (.bl i)) (cD (.bl i)) := ⟨pe_bl, sd_c fun _ => .bl i⟩
theorem q_non {j} : PD X C (.Constant .none j pos) (tC .non) (cD .non) := ⟨pe_non, sd_c fun _ => .non⟩
theorem q_str {i : Str} {j} : PD X C (.Constant (.str i) j pos) (tC (.str i)) (cD (.str i)) := ⟨pe_str, sd_c fun _ => .str i⟩
theorem q_glob {x : Str} {v : V} {u : Value} {d : D} (hm : X.mg x = some u) (rv : RelV v u) (hd : ∀ G, Rep X.K C G v d) (hg : Gl X x := by rfl) (hdb : (x == ("__debug__" : Str)) = false := by decide) : PD X C (.Name x pos) (tC v) (cD d) :=
  ⟨pe_glob hg hm rv hdb, sd_c hd⟩
theorem q_op {op : Operator} (ho : OpR X (binaryOp op) r) (hr : RD X.K C r o) (ha : PD X C a ta f) (hb : PD X C b tb g) : PD X C (.BinOp a op b pos) (tOp r ta tb) (bO o f g) := ⟨pe_op ho ha.pe hb.pe, sd_op ha.sd hb.sd hr⟩
theorem q_add (ha : PD X C a ta f) (hb : PD X C b tb g) : PD X C (.BinOp a .Add b pos) (tOp (rAddD X.K) ta tb) (bO addD f g) := q_op op_addD rd_add ha hb
theorem q_sub (ha : PD X C a ta f) (hb : PD X C b tb g) : PD X C (.BinOp a .Sub b pos) (tOp (rI0 fun i j => .int (i - j)) ta tb) (bO subD f g) := q_op op_sub rd_sub ha hb
theorem q_mul (ha : PD X C a ta f) (hb : PD X C b tb g) : PD X C (.BinOp a .Mult b pos) (tOp (rMulD X.K) ta tb) (bO mulD f g) := q_op op_mulD rd_mul ha hb
theorem q_fdiv (ha : PD X C a ta f) (hb : PD X C b tb g) : PD X C (.BinOp a .FloorDiv b pos) (tOp (rI CDivN fun i j => .int (i.fdiv j)) ta tb) (bO fdivD f g) := q_op op_fdivN rd_fdiv ha hb
theorem q_mod (ha : PD X C a ta f) (hb : PD X C b tb g) : PD X C (.BinOp a .Mod b pos) (tOp (rI (fun _ j => j ≠ 0) fun i j => .int (i.fmod j)) ta tb) (bO modD f g) := q_op op_modN rd_mod ha hb
theorem q_pow (ha : PD X C a ta f) (hb : PD X C b tb g) : PD X C (.BinOp a .Pow b pos) (tOp (rI CPowW fun i j => .int (i ^ j.toNat)) ta tb) (bO powD f g) := q_op op_powW rd_pow ha hb
def negD : D → Option D
  | .int i => some (.int (-i))
  | _ => none
theorem ud_neg {K : PySem.W.Frag} : UD K C (rU fun i => .int (-i)) negD := fun G H x dx dz e rx ez Q q => by
  unfold negD at ez
  split at ez
  · cases ez; cases rx; exact ⟨_, rfl, q _ G H (.refl e) (.int _)⟩
  · cases ez
theorem q_neg (ha : PD X C a ta f) : PD X C (.UnaryOp .USub a pos) (tUn (rU fun i => .int (-i)) ta) (uO negD f) := ⟨pe_un un_neg ha.pe, sd_un ha.sd ud_neg⟩
theorem q_cmp {op : CmpOp} (ho : OpR X (compareOp op) r) (hr : RD X.K C r o) (ha : PD X C a ta f) (hb : PD X C b tb g) (hm : behindInMarks op b = false) : PD X C (.Compare a [op] [b] pos) (tOp r ta tb) (bO o f g) := ⟨pe_cmpR ho ha.pe hb.pe hm, sd_op ha.sd hb.sd hr⟩
theorem q_lt (ha : PD X C a ta f) (hb : PD X C b tb g) : PD X C (.Compare a [.Lt] [b] pos) (tOp (rI0 fun i j => .bl (decide (i < j))) ta tb) (bO ltD f g) := q_cmp op_lt rd_lt ha hb (nomark _)
theorem q_le (ha : PD X C a ta f) (hb : PD X C b tb g) : PD X C (.Compare a [.LtE] [b] pos) (tOp (rI0 fun i j => .bl (decide (i ≤ j))) ta tb) (bO leD f g) := q_cmp op_le rd_le ha hb (nomark _)
theorem q_gt (ha : PD X C a ta f) (hb : PD X C b tb g) : PD X C (.Compare a [.Gt] [b] pos) (tOp (rI0 fun i j => .bl (decide (j < i))) ta tb) (bO gtD f g) := q_cmp op_gt rd_gt ha hb (nomark _)
theorem q_ge (ha : PD X C a ta f) (hb : PD X C b tb g) : PD X C (.Compare a [.GtE] [b] pos) (tOp (rI0 fun i j => .bl (decide (j ≤ i))) ta tb) (bO geD f g) := q_cmp op_ge rd_ge ha hb (nomark _)
end
/-! ### equality -/
mutual
def toP : D → Option PyData
  | .non => some .none
  | .bl b => some (.bool b)
  | .int i => some (.int i)
  | .str s => some (.str s)
  | .tup ds => (toPs ds).map .tuple
  | .lst ds => (toPs ds).map .list
  | .scr _ => none
  | .kt _ => none
  | .dic _ => none
  | .dit _ => none
  | .obj _ _ => none
def toPs : List D → Option (List PyData)
  | [] => some []
  | d :: ds => (toP d).bind fun x => (toPs ds).map fun xs => x :: xs
end
theorem dp_of {K : PySem.W.Frag} {C : Nat → Addr} {G H : Hp} (e : Ex G H) {v : V} {d : D} (h : Rep K C G v d) : ∀ x, toP d = some x → Dp K H v x :=
  Rep.rec (motive_1 := fun v d _ => ∀ x, toP d = some x → Dp K H v x) (motive_2 := fun v d _ => ∀ x, toPs d = some x → DpAll K H v x) (motive_3 := fun _ _ _ => True) (motive_4 := fun _ _ _ => True)
    (fun x h => by simp only [toP] at h; cases h; exact .non) (fun b x h => by simp only [toP] at h; cases h; exact .bl b) (fun b x h => by simp only [toP] at h; cases h; exact .int b) (fun b x h => by simp only [toP] at h; cases h; exact .str b)
    (fun hs _ ih x h => by simp only [toP] at h; obtain ⟨xs, h1, h2⟩ := Option.map_eq_some_iff.mp h; cases h2; exact .tup (ex_t e hs) (ih xs h1))
    (fun hs _ ih x h => by simp only [toP] at h; obtain ⟨xs, h1, h2⟩ := Option.map_eq_some_iff.mp h; cases h2; exact .lst (.of (e _ _ hs)) (ih xs h1))
    (fun _ x h => by simp only [toP] at h; cases h) (fun _ x h => by simp only [toP] at h; cases h) (fun _ _ _ x h => by simp only [toP] at h; cases h) (fun _ _ _ x h => by simp only [toP] at h; cases h) (fun _ _ _ x h => by simp only [toP] at h; cases h)
    (fun x h => by simp only [toPs] at h; cases h; exact .nil)
    (fun _ _ i1 i2 x h => by
      simp only [toPs] at h
      obtain ⟨y, h1, h⟩ := Option.bind_eq_some_iff.mp h
      obtain ⟨ys, h2, h⟩ := Option.map_eq_some_iff.mp h
      cases h
      exact .cons (i1 y h1) (i2 ys h2))
    trivial (fun _ _ _ _ => trivial) trivial (fun _ _ _ _ => trivial) h
def eqB (x y : D) : Option Bool := (toP x).bind fun p => (toP y).bind fun q => if (SeqAt.shaped p && SeqAt.shaped q) = true then some (PyData.eqv p q) else none
def eqD : D → D → Option D := fun x y => (eqB x y).map .bl
def neD : D → D → Option D := fun x y => (eqB x y).map fun b => .bl (!b)
def isNon : D → Bool
  | .non => true
  | _ => false
def isD : D → D → Option D := fun x y => match y with
  | .non => some (.bl (isNon x))
  | _ => none
def isntD : D → D → Option D := fun x y => match y with
  | .non => some (.bl (!isNon x))
  | _ => none
def ints? : List D → Option (List Int)
  | [] => some []
  | .int i :: ds => (ints? ds).map fun is => i :: is
  | _ :: _ => none
theorem ints?_some : ∀ {ds : List D} {ns : List Int}, ints? ds = some ns → ds = ns.map .int
  | [], _, h => by cases h; rfl
  | .int i :: ds, _, h => by
    obtain ⟨xs, h1, h2⟩ := Option.map_eq_some_iff.mp (show (ints? ds).map (fun is => i :: is) = some _ from h)
    subst h2
    rw [ints?_some h1]; rfl
  | .non :: _, _, h => by cases h
  | .bl _ :: _, _, h => by cases h
  | .str _ :: _, _, h => by cases h
  | .tup _ :: _, _, h => by cases h
  | .lst _ :: _, _, h => by cases h
  | .scr _ :: _, _, h => by cases h
  | .kt _ :: _, _, h => by cases h
  | .dic _ :: _, _, h => by cases h
  | .dit _ :: _, _, h => by cases h
  | .obj _ _ :: _, _, h => by cases h
theorem ints?_map : ∀ ns : List Int, ints? (ns.map .int) = some ns
  | [] => rfl
  | n :: r => by rw [List.map_cons, ints?, ints?_map r]; rfl
def inD : D → D → Option D := fun x y => match x, y with
  | .int i, .tup ds => (ints? ds).map fun ns => .bl (ns.any fun j => j == i)
  | _, _ => none
section
variable {K : PySem.W.Frag} {C : Nat → Addr}
theorem rd_eq : RD K C (rEqD K) eqD := fun G H x y dx dy dz e rx ry ez Q q => by
  obtain ⟨b, h, h2⟩ := Option.map_eq_some_iff.mp ez
  unfold eqB at h
  obtain ⟨p1, h1, h⟩ := Option.bind_eq_some_iff.mp h
  obtain ⟨p2, h3, h⟩ := Option.bind_eq_some_iff.mp h
  split at h
  · rename_i hs
    obtain ⟨s1, s2⟩ := Bool.and_eq_true_iff.mp hs
    cases h; subst h2
    exact ⟨p1, p2, dp_of e rx p1 h1, dp_of e ry p2 h3, s1, s2, q _ G H (.refl e) (.bl _)⟩
  · cases h
theorem rd_ne : RD K C (rNeD K) neD := fun G H x y dx dy dz e rx ry ez Q q => by
  obtain ⟨b, h, h2⟩ := Option.map_eq_some_iff.mp ez
  unfold eqB at h
  obtain ⟨p1, h1, h⟩ := Option.bind_eq_some_iff.mp h
  obtain ⟨p2, h3, h⟩ := Option.bind_eq_some_iff.mp h
  split at h
  · rename_i hs
    obtain ⟨s1, s2⟩ := Bool.and_eq_true_iff.mp hs
    cases h; subst h2
    exact ⟨p1, p2, dp_of e rx p1 h1, dp_of e ry p2 h3, s1, s2, q _ G H (.refl e) (.bl _)⟩
  · cases h
theorem isNon_of {G : Hp} {x : V} {dx : D} (r : Rep K C G x dx) : decide (x = V.non) = isNon dx := by cases r <;> rfl
theorem rd_is : RD K C (fun x y H Q => y = .non ∧ Q (.bl (decide (x = .non))) H) isD := fun G H x y dx dy dz e rx ry ez Q q => by
  unfold isD at ez
  split at ez
  · cases ez; cases ry
    refine ⟨rfl, ?_⟩
    rw [isNon_of rx]
    exact q _ G H (.refl e) (.bl _)
  · cases ez
theorem rd_isnt : RD K C (fun x y H Q => y = .non ∧ Q (.bl (!decide (x = .non))) H) isntD := fun G H x y dx dy dz e rx ry ez Q q => by
  unfold isntD at ez
  split at ez
  · cases ez; cases ry
    refine ⟨rfl, ?_⟩
    rw [isNon_of rx]
    exact q _ G H (.refl e) (.bl _)
  · cases ez
theorem inV_ints (i : Int) : ∀ ns : List Int, inV (.int i) (ns.map V.int) = ns.any fun j => j == i
  | [] => rfl
  | n :: r => by
    have h := inV_ints i r
    unfold inV at h ⊢
    rw [List.map_cons, List.any_cons, List.any_cons, h]
    rfl
theorem flat_ints : ∀ ns : List Int, (ns.map V.int).all flatV = true
  | [] => rfl
  | n :: r => by rw [List.map_cons, List.all_cons, flat_ints r]; rfl
theorem rd_in : RD K C (rIn K false) inD := fun G H x y dx dy dz e rx ry ez Q q => by
  unfold inD at ez
  split at ez
  · obtain ⟨ns, h1, h2⟩ := Option.map_eq_some_iff.mp ez
    subst h2
    have := ints?_some h1
    subst this
    cases rx
    cases ry with
    | tup h1 h2 =>
      have := h2.of_ints
      subst this
      refine ⟨_, _, rfl, .inr (ex_t e h1), rfl, flat_ints _, ?_⟩
      rw [if_neg Bool.false_ne_true, inV_ints]
      exact q _ G H (.refl e) (.bl _)
  · cases ez
end
section
variable {X : Cx} {C : Nat → Addr} {a b c : Expr} {ta tb tc te : TE} {f g h : FE} {pos p : Pos} {k : Nat}
theorem q_eq (hr : Room k X.A) (ha : PD X C a ta f) (hb : PD X C b tb g) : PD X C (.Compare a [.Eq] [b] pos) (tOp (rEqD X.K) ta tb) (bO eqD f g) := q_cmp (op_eqD hr.units) rd_eq ha hb (nomark _)
theorem q_ne (hr : Room k X.A) (ha : PD X C a ta f) (hb : PD X C b tb g) : PD X C (.Compare a [.NotEq] [b] pos) (tOp (rNeD X.K) ta tb) (bO neD f g) := q_cmp (op_neD hr.units) rd_ne ha hb (nomark _)
abbrev rIsN : R2 := fun x y H Q => y = .non ∧ Q (.bl (decide (x = .non))) H
abbrev rIsntN : R2 := fun x y H Q => y = .non ∧ Q (.bl (!decide (x = .non))) H
theorem q_is (ha : PD X C a ta f) (hb : PD X C b tb g) : PD X C (.Compare a [.Is] [b] pos) (tOp rIsN ta tb) (bO isD f g) := q_cmp op_isN rd_is ha hb (nomark _)
theorem q_isnt (ha : PD X C a ta f) (hb : PD X C b tb g) : PD X C (.Compare a [.IsNot] [b] pos) (tOp rIsntN ta tb) (bO isntD f g) := q_cmp op_notN rd_isnt ha hb (nomark _)
theorem q_in (ha : PD X C a ta f) (hb : PD X C b tb g) (hm : behindInMarks .In b = false := by rfl) : PD X C (.Compare a [.In] [b] pos) (tOp (rIn X.K false) ta tb) (bO inD f g) := q_cmp op_in_seq rd_in ha hb hm
/-- a comparison as a test -/
theorem q_tst {op : CmpOp} {r : R2} {o : D → D → Option D} (ho : OpR X (compareOp op) r) (hr : RD X.K C r o) (ha : PD X C a ta f) (hb : PD X C b tb g) (hm : behindInMarks op b = false) : PTD X C (.Compare a [op] [b] pos) (tTest (tOp r ta tb)) (tst (bO o f g)) :=
  ⟨pt_cmpR ho ha.pe hb.pe hm, sb_test (sd_op ha.sd hb.sd hr)⟩
theorem t_lt (ha : PD X C a ta f) (hb : PD X C b tb g) : PTD X C (.Compare a [.Lt] [b] pos) (tTest (tOp (rI0 fun i j => .bl (decide (i < j))) ta tb)) (tst (bO ltD f g)) := q_tst op_lt rd_lt ha hb (nomark _)
theorem t_le (ha : PD X C a ta f) (hb : PD X C b tb g) : PTD X C (.Compare a [.LtE] [b] pos) (tTest (tOp (rI0 fun i j => .bl (decide (i ≤ j))) ta tb)) (tst (bO leD f g)) := q_tst op_le rd_le ha hb (nomark _)
theorem t_gt (ha : PD X C a ta f) (hb : PD X C b tb g) : PTD X C (.Compare a [.Gt] [b] pos) (tTest (tOp (rI0 fun i j => .bl (decide (j < i))) ta tb)) (tst (bO gtD f g)) := q_tst op_gt rd_gt ha hb (nomark _)
theorem t_ge (ha : PD X C a ta f) (hb : PD X C b tb g) : PTD X C (.Compare a [.GtE] [b] pos) (tTest (tOp (rI0 fun i j => .bl (decide (j ≤ i))) ta tb)) (tst (bO geD f g)) := q_tst op_ge rd_ge ha hb (nomark _)
theorem t_eq (hr : Room k X.A) (ha : PD X C a ta f) (hb : PD X C b tb g) : PTD X C (.Compare a [.Eq] [b] pos) (tTest (tOp (rEqD X.K) ta tb)) (tst (bO eqD f g)) := q_tst (op_eqD hr.units) rd_eq ha hb (nomark _)
theorem t_ne (hr : Room k X.A) (ha : PD X C a ta f) (hb : PD X C b tb g) : PTD X C (.Compare a [.NotEq] [b] pos) (tTest (tOp (rNeD X.K) ta tb)) (tst (bO neD f g)) := q_tst (op_neD hr.units) rd_ne ha hb (nomark _)
theorem t_is (ha : PD X C a ta f) (hb : PD X C b tb g) : PTD X C (.Compare a [.Is] [b] pos) (tTest (tOp rIsN ta tb)) (tst (bO isD f g)) := q_tst op_isN rd_is ha hb (nomark _)
theorem t_isnt (ha : PD X C a ta f) (hb : PD X C b tb g) : PTD X C (.Compare a [.IsNot] [b] pos) (tTest (tOp rIsntN ta tb)) (tst (bO isntD f g)) := q_tst op_notN rd_isnt ha hb (nomark _)
theorem t_in (ha : PD X C a ta f) (hb : PD X C b tb g) (hm : behindInMarks .In b = false := by rfl) : PTD X C (.Compare a [.In] [b] pos) (tTest (tOp (rIn X.K false) ta tb)) (tst (bO inD f g)) := q_tst op_in_seq rd_in ha hb hm
/-- an expression that gives a truth value, as a test -/
theorem t_val (ha : PD X C a ta f) (he : ∀ whole, isTrue a X.env whole = (do let v ← whole; standAt a.pos; holding [v] (truthy v)) := by intro _; rfl) : PTD X C a (tB ta) (tst f) := ⟨pt_val ha.pe he, sb_B ha.sd⟩
theorem t_not {tt : TT} {ft : FB} (h : PTD X C a tt ft) : PTD X C (.UnaryOp .Not a pos) (tNot tt) (notB ft) := ⟨pt_not h.pe, sb_not h.sd⟩
/-- and, or as tests, whatever the whole -/
structure PWD (X : Cx) (C : Nat → Addr) (e : Expr) (tt : TT) (f : FB) : Prop where
  pw : PW X e tt
  sd : Sb X.K C tt f
theorem PWD.t {tt : TT} {ft : FB} (h : PWD X C a tt ft) : PTD X C a tt ft := ⟨h.pw.pt, h.sd⟩
variable {tt uu : TT} {ft fu : FB} {rest : List Expr}
theorem w_and1 (h : PTD X C a tt ft) : PWD X C (.BoolOp .And [a] pos) tt ft := ⟨pw_and1 h.pe, h.sd⟩
theorem w_or1 (h : PTD X C a tt ft) : PWD X C (.BoolOp .Or [a] pos) tt ft := ⟨pw_or1 h.pe, h.sd⟩
theorem w_and (h : PTD X C a tt ft) (h2 : PWD X C (.BoolOp .And (b :: rest) pos) uu fu) : PWD X C (.BoolOp .And (a :: b :: rest) pos) (tAnd tt uu) (andB ft fu) := ⟨pw_and h.pe h2.pw, sb_and h.sd h2.sd⟩
theorem w_or (h : PTD X C a tt ft) (h2 : PWD X C (.BoolOp .Or (b :: rest) pos) uu fu) : PWD X C (.BoolOp .Or (a :: b :: rest) pos) (tOr tt uu) (orB ft fu) := ⟨pw_or h.pe h2.pw, sb_or h.sd h2.sd⟩
theorem q_one {op} (h : PD X C a ta f) : PD X C (.BoolOp op [a] pos) ta f := ⟨pe_one h.pe, h.sd⟩
theorem q_and (h : PD X C a ta f) (h2 : PD X C (.BoolOp .And (b :: rest) pos) tb g) : PD X C (.BoolOp .And (a :: b :: rest) pos) (tAndV ta tb) (andE f g) := ⟨pe_and h.pe h2.pe, sd_and h.sd h2.sd⟩
theorem q_or (h : PD X C a ta f) (h2 : PD X C (.BoolOp .Or (b :: rest) pos) tb g) : PD X C (.BoolOp .Or (a :: b :: rest) pos) (tOrV ta tb) (orE f g) := ⟨pe_or h.pe h2.pe, sd_or h.sd h2.sd⟩
theorem q_not (h : PD X C a ta f) : PD X C (.UnaryOp .Not a pos) (tNotV ta) (notE f) := ⟨pe_not h.pe, sd_not h.sd⟩
theorem q_if (hc : PTD X C c tt ft) (ha : PD X C a ta f) (hb : PD X C b tb g) : PD X C (.IfExp c a b pos) (tIf tt ta tb) (ifE ft f g) := ⟨pe_ifExp hc.pe ha.pe hb.pe, sd_if hc.sd ha.sd hb.sd⟩
theorem q_chain {op op' : CmpOp} {r r' : R2} {o o' : D → D → Option D} (ho : OpR X (compareOp op) r) (hr : RD X.K C r o) (ho' : OpR X (compareOp op') r') (hr' : RD X.K C r' o') (ha : PD X C a ta f) (hb : PD X C b tb g) (hc : PD X C c tc h)
    (hm : lastMarks [op, op'] [b, c] = false := by with_unfolding_all rfl) : PD X C (.Compare a [op, op'] [b, c] pos) (tChain r r' ta tb tc) (chE o o' f g h) := ⟨pe_chain ho ho' ha.pe hb.pe hc.pe hm, sd_chain ha.sd hb.sd hc.sd hr hr'⟩
theorem t_chain {op op' : CmpOp} {r r' : R2} {o o' : D → D → Option D} (ho : OpR X (compareOp op) r) (hr : RD X.K C r o) (ho' : OpR X (compareOp op') r') (hr' : RD X.K C r' o') (ha : PD X C a ta f) (hb : PD X C b tb g) (hc : PD X C c tc h)
    (hm : lastMarks [op, op'] [b, c] = false := by with_unfolding_all rfl) : PTD X C (.Compare a [op, op'] [b, c] pos) (tTest (tChain r r' ta tb tc)) (tst (chE o o' f g h)) := ⟨pt_chain ho ho' ha.pe hb.pe hc.pe hm, sb_test (sd_chain ha.sd hb.sd hc.sd hr hr')⟩
/-! arguments, displays -/
variable {es : List Expr} {t : TA} {fl : FL}
theorem a_nil : PAD X C [] tNil aN := ⟨pa_nil, sa_nil⟩
theorem a_cons (ha : PD X C a ta f) (hr : PAD X C es t fl) (hs : starEach (a :: es) X.env = (false, eval a X.env) :: starEach es X.env := by rfl) : PAD X C (a :: es) (tCons ta t) (aC f fl) := ⟨pa_cons ha.pe hr.pe hs, sa_cons ha.sd hr.sd⟩
theorem a_star (ha : PD X C a ta f) (hr : PAD X C es t fl) (hs : starEach (.Starred a p :: es) X.env = (true, eval a X.env) :: starEach es X.env := by rfl) : PAD X C (.Starred a p :: es) (StX.tStar X.K ta t) (aS f fl) := ⟨StX.pa_star ha.pe hr.pe hs, sa_star ha.sd hr.sd⟩
theorem q_tup {x1} (h : PAD X C es t fl) : PD X C (.Tuple es x1 pos) (tTup t) (tupE (lenOk fl)) := ⟨pe_tup h.pe, sd_tup h.sd⟩
theorem f_lst (h : PAD X C es t fl) : PF X C (.List es pos) (tLst t) (lenOk fl) := ⟨pe_lst h.pe, sf_lst h.sd⟩
theorem PF.d (h : PF X C a ta fl) : PD X C a ta (frz fl) := ⟨h.pe, sd_freeze h.sd⟩
/-! calls of defs -/
theorem q_call {x : Str} {ps : List Str} {F : List D → Option D} (hk : Kn X.prog X.w X.K X.mg X.base x k ps (spP X.K C F)) (hr : Room k X.A) (ha : PAD X C (a :: es) t fl) (hg : Gl X x := by rfl) (hdb : (x == ("__debug__" : Str)) = false := by decide)
    (he : starEach (a :: es) X.env = (false, eval a X.env) :: starEach es X.env := by rfl) (hpl : (backTo pos (starEach es X.env)).any (·.1) = false := by rfl) : PD X C (.Call (.Name x p) (a :: es) [] pos) (tCall (spP X.K C F) [] E0 t) (cO F fl) := by
  obtain ⟨f, fd, F1, g, kp, b⟩ := hk.ex
  exact ⟨pe_call F1 hr hg g kp b .nil pass0 ha.pe hdb he hpl, sd_callP ha.sd⟩
theorem f_call {x : Str} {ps : List Str} {F : List D → Option (List D)} (hk : Kn X.prog X.w X.K X.mg X.base x k ps (spF X.K C F)) (hr : Room k X.A) (ha : PAD X C (a :: es) t fl) (hg : Gl X x := by rfl) (hdb : (x == ("__debug__" : Str)) = false := by decide)
    (he : starEach (a :: es) X.env = (false, eval a X.env) :: starEach es X.env := by rfl) (hpl : (backTo pos (starEach es X.env)).any (·.1) = false := by rfl) : PF X C (.Call (.Name x p) (a :: es) [] pos) (tCall (spF X.K C F) [] E0 t) (cF F fl) := by
  obtain ⟨f, fd, F1, g, kp, b⟩ := hk.ex
  exact ⟨pe_call F1 hr hg g kp b .nil pass0 ha.pe hdb he hpl, sf_callF ha.sd⟩
theorem q_callT {x y : Str} {ps : List Str} {i : Nat} {py : Pos} {F : List D → List D → Option (D × List D)} (hk : Kn X.prog X.w X.K X.mg X.base x k ps (spT X.K C F)) (hr : Room k X.A) (hi : X.N[i]? = some y) (hv : Vis X.env.scope y) (ha : PAD X C es t fl) (hg : Gl X x := by rfl)
    (hdb : (x == ("__debug__" : Str)) = false := by decide) (hd : (y == ("__debug__" : Str)) = false := by decide) (hcd : (y == ("__classdict__" : Str)) = false := by decide)
    (he : starEach (.Name y py :: es) X.env = (false, eval (.Name y py) X.env) :: starEach es X.env := by rfl) (hpl : (backTo pos (starEach es X.env)).any (·.1) = false := by rfl) : PD X C (.Call (.Name x p) (.Name y py :: es) [] pos) (tCall (spT X.K C F) [] E0 (tCons (tVar i) t)) (tcE i F fl) := by
  obtain ⟨f, fd, F1, g, kp, b⟩ := hk.ex
  exact ⟨pe_call F1 hr hg g kp b .nil pass0 (pa_cons (pe_var hi hv hd hcd) ha.pe he) hdb he hpl, sd_callT ha.sd⟩
/-! built-ins -/
theorem q_bi {x : Str} {id : String} {r : List V → Hp → VK → Prop} {o : List D → Option D} (hc : CallR X (.builtin id) r) (hr : CD X.K C r o) (hm : X.mg x = none) (hv : bootBuiltins x = some (.builtin id)) (ha : PAD X C (a :: es) t fl) (hg : Gl X x := by rfl) (hn : x ≠ "__name__" := by decide)
    (hdb : (x == ("__debug__" : Str)) = false := by decide) (he : starEach (a :: es) X.env = (false, eval a X.env) :: starEach es X.env := by rfl) (hpl : (backTo pos (starEach es X.env)).any (·.1) = false := by rfl) : PD X C (.Call (.Name x p) (a :: es) [] pos) (tCB r t) (cO o fl) :=
  ⟨pe_callB hc hg hm hv ha.pe hn hdb he hpl, sd_call ha.sd hr⟩
theorem q_ty {x : Str} {id : String} {r : List V → Hp → VK → Prop} {o : List D → Option D} (hc : CallR X (.type id) r) (hr : CD X.K C r o) (hm : X.mg x = none) (hv : bootBuiltins x = some (.type id)) (ha : PAD X C (a :: es) t fl) (hg : Gl X x := by rfl) (hn : x ≠ "__name__" := by decide)
    (hdb : (x == ("__debug__" : Str)) = false := by decide) (he : starEach (a :: es) X.env = (false, eval a X.env) :: starEach es X.env := by rfl) (hpl : (backTo pos (starEach es X.env)).any (·.1) = false := by rfl) : PD X C (.Call (.Name x p) (a :: es) [] pos) (tCB r t) (cO o fl) :=
  ⟨pe_callTy hc hg hm hv ha.pe hn hdb he hpl, sd_call ha.sd hr⟩
/-! comprehensions -/
structure PID (X : Cx) (C : Nat → Addr) (tg it : Expr) (wi : TI) (f : FL) : Prop where
  pi : PI X tg it wi
  si : Si X.K C wi f
structure PGD (X : Cx) (C : Nat → Addr) (tg : Expr) (vs : List Nat) (t : TG) (g : FG) : Prop where
  pg : PG X tg t
  sg : Sg X.K C vs t g
variable {tg it : Expr} {wi : TI} {fi : FL}
theorem i_list (h : PD X C a ta f) : PID X C tg a (iList X.K ta) (itL f) := ⟨pi_list h.pe, si_list h.sd⟩
theorem i_tup (h : PD X C a ta f) : PID X C tg a (iTup X.K ta) (itT f) := ⟨pi_tup h.pe, si_tup h.sd⟩
theorem i_rng1 (hm : X.mg "range" = none) (ha : PAD X C [a] t fl) (hg : Gl X "range" := by rfl) (hs : starEach [a] X.env = [(false, eval a X.env)] := by rfl) : PID X C tg (.Call (.Name "range" p) [a] [] pos) (iRng1 t) (itR1 fl) := ⟨pi_range1 hg hm ha.pe hs, si_rng1 ha.sd⟩
theorem i_rng2 (hm : X.mg "range" = none) (ha : PAD X C [a, b] t fl) (hg : Gl X "range" := by rfl) (hs : starEach [a, b] X.env = [(false, eval a X.env), (false, eval b X.env)] := by rfl) (hs2 : starEach [b] X.env = [(false, eval b X.env)] := by rfl) :
    PID X C tg (.Call (.Name "range" p) [a, b] [] pos) (iRng2 t) (itR2 fl) := ⟨pi_range2 hg hm ha.pe hs hs2, si_rng2 ha.sd⟩
theorem g_name (i : Nat) {x : Str} (hN : X.N.Nodup) (hi : X.N[i]? = some x) (hx : Loc X.env.scope x) (hf : X.fn x = true ∨ X.env.scope.names.lookup x = some .local := by first | exact .inl rfl | exact .inr rfl) : PGD X C (.Name x pos) [i] (gName i) (gN i) := ⟨pg_name hN hi hx hf, sg_name⟩
theorem g_tup2 {i j : Nat} {e1 e2 : Expr} {kk : Nat} {vs1 vs2 : List Nat} (hc : X.calm = true) (h1 : PGD X C e1 vs1 (gName i) (gN i)) (h2 : PGD X C e2 vs2 (gName j) (gN j)) (hs1 : (assignEach [e1, e2] X.env).map (·.2) = assign e1 X.env :: (assignEach [e2] X.env).map (·.2) := by rfl)
    (hs2 : (assignEach [e2] X.env).map (·.2) = assign e2 X.env :: (assignEach [] X.env).map (·.2) := by rfl) (hn : (assignEach [e1, e2] X.env).length = 2 := by rfl) (hst : (assignEach [e1, e2] X.env).findIdx? (·.1) = none := by rfl) :
    PGD X C (.Tuple [e1, e2] kk pos) [i, j] (gTup X.K 2 (gCons (gName i) (gCons (gName j) gNil))) (gT2 i j) := ⟨pg_tup hc (pgs_cons h1.pg (pgs_cons h2.pg pgs_nil hs2) hs1) hn hst, sg_tup2⟩
/-- the block's context -/
abbrev blkX (X : Cx) (scope : Scope) (s : Shared) (H : Hp) (A : Addr) (cl : List (Str × Addr)) (fp : List Addr) : Cx := X.blk s H scope (compEnvC scope cl A X.env) fp
theorem f_lc {elt : Expr} {scope : Scope} {own : List (Str × Nat)} {ws : List Nat} {tgt : TG} {fg : FG} (hc : X.calm = true) (hN : X.N.Nodup) (hi : PID X C tg it wi fi) (ok : BlkOk X.N X.env.scope scope own)
    (hg : ∀ s H A cl fp, PGD (blkX X scope s H A cl fp) C tg ws tgt fg) (hs : ∀ i ∈ ws, i ∈ own.map (·.2)) (he : ∀ s H A cl fp, PD (blkX X scope s H A cl fp) C elt te f)
    (hfi : ∀ x, foldedSetIterable it X.env x = pure x := by intro _; rfl) : PF X C (.ListComp elt [⟨tg, it, [], 0⟩] scope pos) (tLc wi tgt tYes te (own.map (·.2))) (lcE fi fg yesB f (own.map (·.2))) :=
  ⟨pe_lc hc hN hi.pi ok (fun s H A cl fp => (hg s H A cl fp).pg) (fun _ _ _ _ _ => pts_nil) (fun s H A cl fp => (he s H A cl fp).pe) hfi, sf_lc hi.si (hg (PySem.start X.prog).1 (fun _ => none) 0 [] []).sg hs sb_yes (he (PySem.start X.prog).1 (fun _ => none) 0 [] []).sd⟩
end
end TR

/-! Built-ins at the data level. -/
namespace TR
open PySem PySem.Spec PyProof.Rows L2

/-! ### isinstance -/
def tyN : D → Option String
  | .non => some "NoneType"
  | .bl _ => some "bool"
  | .int _ => some "int"
  | .str _ => some "str"
  | .tup _ => some "tuple"
  | .lst _ => some "list"
  | _ => none
theorem ty_of {K : PySem.W.Frag} {C : Nat → Addr} {G H : Hp} (e : Ex G H) {v : V} {d : D} (r : Rep K C G v d) {a : String} (h : tyN d = some a) : TyX K H v (.type a) := by
  cases r with
  | non => cases h; exact .base .non
  | bl b => cases h; exact .base (.bl b)
  | int i => cases h; exact .base (.int i)
  | str s => cases h; exact .base (.str s)
  | tup hs _ =>
    cases h
    rcases ex_t e hs with (z | ⟨o, z⟩) | ⟨o, its, n, z, hc, _⟩
    · exact .base (.tup z)
    · exact .fTuple z
    · exact .kTuple z hc
  | lst hs _ => cases h; exact .base (.lst (e _ _ hs))
  | _ => cases h
def isI : D → Option D
  | .int _ => some (.bl true)
  | .bl _ => some (.bl true)
  | .non => some (.bl false)
  | .str _ => some (.bl false)
  | .tup _ => some (.bl false)
  | .lst _ => some (.bl false)
  | _ => none
def isB : D → Option D
  | .int _ => some (.bl false)
  | .bl _ => some (.bl true)
  | .non => some (.bl false)
  | .str _ => some (.bl false)
  | .tup _ => some (.bl false)
  | .lst _ => some (.bl false)
  | _ => none
def isT : D → Option D
  | .int _ => some (.bl false)
  | .bl _ => some (.bl false)
  | .non => some (.bl false)
  | .str _ => some (.bl false)
  | .tup _ => some (.bl true)
  | .lst _ => some (.bl false)
  | _ => none
theorem sd_isi {K : PySem.W.Frag} {C : Nat → Addr} {ta : TE} {f : FE} {T : String} {o : D → Option D} (ho : ∀ d z, o d = some z → ∃ a b, tyN d = some a ∧ kitB a T = some b ∧ z = .bl b) (ha : Sd K C ta f) :
    Sd K C (tCB (rIsi K) (tCons ta (tCons (tC (.ty T)) tNil))) (uO o f) := fun σ ρ T' a G H d T2 ok e Q q => by
  unfold uO at e
  obtain ⟨⟨x, T1⟩, e1, e⟩ := Option.bind_eq_some_iff.mp e
  obtain ⟨z, e3, e⟩ := Option.map_eq_some_iff.mp e
  cases e
  refine ha σ ρ T' a G H x T1 ok e1 _ fun v G1 H1 s1 t1 r1 => ?_
  obtain ⟨b1, b, h1, h2, rfl⟩ := ho x _ e3
  exact ⟨v, .ty T, _, _, b, rfl, .ty T, ty_of s1.gh r1 h1, kit_ty h2, q _ G1 H1 s1 t1 (.bl b)⟩
theorem isI_ok (d z : D) (h : isI d = some z) : ∃ a b, tyN d = some a ∧ kitB a "int" = some b ∧ z = .bl b := by
  cases d <;> cases h
  · exact ⟨_, _, rfl, by decide +kernel, rfl⟩
  · exact ⟨_, _, rfl, by decide +kernel, rfl⟩
  · exact ⟨_, _, rfl, by decide +kernel, rfl⟩
  · exact ⟨_, _, rfl, by decide +kernel, rfl⟩
  · exact ⟨_, _, rfl, by decide +kernel, rfl⟩
  · exact ⟨_, _, rfl, by decide +kernel, rfl⟩
theorem isB_ok (d z : D) (h : isB d = some z) : ∃ a b, tyN d = some a ∧ kitB a "bool" = some b ∧ z = .bl b := by
  cases d <;> cases h
  · exact ⟨_, _, rfl, by decide +kernel, rfl⟩
  · exact ⟨_, _, rfl, by decide +kernel, rfl⟩
  · exact ⟨_, _, rfl, by decide +kernel, rfl⟩
  · exact ⟨_, _, rfl, by decide +kernel, rfl⟩
  · exact ⟨_, _, rfl, by decide +kernel, rfl⟩
  · exact ⟨_, _, rfl, by decide +kernel, rfl⟩
theorem isT_ok (d z : D) (h : isT d = some z) : ∃ a b, tyN d = some a ∧ kitB a "tuple" = some b ∧ z = .bl b := by
  cases d <;> cases h
  · exact ⟨_, _, rfl, by decide +kernel, rfl⟩
  · exact ⟨_, _, rfl, by decide +kernel, rfl⟩
  · exact ⟨_, _, rfl, by decide +kernel, rfl⟩
  · exact ⟨_, _, rfl, by decide +kernel, rfl⟩
  · exact ⟨_, _, rfl, by decide +kernel, rfl⟩
  · exact ⟨_, _, rfl, by decide +kernel, rfl⟩
section
variable {X : Cx} {C : Nat → Addr} {a b : Expr} {ta tb : TE} {f g : FE} {pos p px : Pos}
theorem q_isi {x : Str} {T : String} {o : D → Option D} (ho : ∀ d z, o d = some z → ∃ a b, tyN d = some a ∧ kitB a T = some b ∧ z = .bl b) (hm : X.mg "isinstance" = none) (hx : X.mg x = none) (hv : bootBuiltins x = some (.type T)) (ha : PD X C a ta f)
    (hg : Gl X "isinstance" := by rfl) (hgx : Gl X x := by rfl) (hn : x ≠ "__name__" := by decide) (hdb : (x == ("__debug__" : Str)) = false := by decide)
    (he : starEach [a, .Name x px] X.env = (false, eval a X.env) :: starEach [.Name x px] X.env := by rfl) (he2 : starEach [.Name x px] X.env = (false, eval (.Name x px) X.env) :: starEach [] X.env := by rfl) (hpl : (backTo pos (starEach [.Name x px] X.env)).any (·.1) = false := by rfl) :
    PD X C (.Call (.Name "isinstance" p) [a, .Name x px] [] pos) (tCB (rIsi X.K) (tCons ta (tCons (tC (.ty T)) tNil))) (uO o f) :=
  ⟨pe_callB call_isi hg hm (by decide +kernel) (pa_cons ha.pe (pa_cons (pe_bltn hgx hx hv rfl hn hdb) pa_nil he2) he) (by decide) (by decide) he hpl, sd_isi ho ha.sd⟩
theorem q_isInt (hm : X.mg "isinstance" = none) (hx : X.mg "int" = none) (ha : PD X C a ta f) (hg : Gl X "isinstance" := by rfl) (hgx : Gl X "int" := by rfl) (he : starEach [a, .Name "int" px] X.env = (false, eval a X.env) :: starEach [.Name "int" px] X.env := by rfl) (he2 : starEach [.Name "int" px] X.env = (false, eval (.Name "int" px) X.env) :: starEach [] X.env := by rfl) (hpl : (backTo pos (starEach [.Name "int" px] X.env)).any (·.1) = false := by rfl) :
    PD X C (.Call (.Name "isinstance" p) [a, .Name "int" px] [] pos) (tCB (rIsi X.K) (tCons ta (tCons (tC (.ty "int")) tNil))) (uO isI f) := q_isi isI_ok hm hx (by decide +kernel) ha hg hgx (by decide) (by decide) he he2 hpl
theorem q_isBool (hm : X.mg "isinstance" = none) (hx : X.mg "bool" = none) (ha : PD X C a ta f) (hg : Gl X "isinstance" := by rfl) (hgx : Gl X "bool" := by rfl) (he : starEach [a, .Name "bool" px] X.env = (false, eval a X.env) :: starEach [.Name "bool" px] X.env := by rfl) (he2 : starEach [.Name "bool" px] X.env = (false, eval (.Name "bool" px) X.env) :: starEach [] X.env := by rfl) (hpl : (backTo pos (starEach [.Name "bool" px] X.env)).any (·.1) = false := by rfl) :
    PD X C (.Call (.Name "isinstance" p) [a, .Name "bool" px] [] pos) (tCB (rIsi X.K) (tCons ta (tCons (tC (.ty "bool")) tNil))) (uO isB f) := q_isi isB_ok hm hx (by decide +kernel) ha hg hgx (by decide) (by decide) he he2 hpl
theorem q_isTup (hm : X.mg "isinstance" = none) (hx : X.mg "tuple" = none) (ha : PD X C a ta f) (hg : Gl X "isinstance" := by rfl) (hgx : Gl X "tuple" := by rfl) (he : starEach [a, .Name "tuple" px] X.env = (false, eval a X.env) :: starEach [.Name "tuple" px] X.env := by rfl) (he2 : starEach [.Name "tuple" px] X.env = (false, eval (.Name "tuple" px) X.env) :: starEach [] X.env := by rfl) (hpl : (backTo pos (starEach [.Name "tuple" px] X.env)).any (·.1) = false := by rfl) :
    PD X C (.Call (.Name "isinstance" p) [a, .Name "tuple" px] [] pos) (tCB (rIsi X.K) (tCons ta (tCons (tC (.ty "tuple")) tNil))) (uO isT f) := q_isi isT_ok hm hx (by decide +kernel) ha hg hgx (by decide) (by decide) he he2 hpl
end

/-! ### functions -/
def absD : List D → Option D
  | [.int i] => some (.int (if i < 0 then -i else i))
  | _ => none
def lenD : List D → Option D
  | [.tup ds] => some (.int ds.length)
  | [.lst ds] => some (.int ds.length)
  | [.scr ns] => some (.int ns.length)
  | _ => none
def bls? : List D → Option (List Bool)
  | [] => some []
  | .bl b :: ds => (bls? ds).map fun bs => b :: bs
  | _ :: _ => none
theorem bls?_some : ∀ {ds : List D} {ns : List Bool}, bls? ds = some ns → ds = ns.map .bl
  | [], _, h => by cases h; rfl
  | .bl i :: ds, _, h => by
    obtain ⟨xs, h1, h2⟩ := Option.map_eq_some_iff.mp (show (bls? ds).map (fun is => i :: is) = some _ from h)
    subst h2
    rw [bls?_some h1]; rfl
  | .non :: _, _, h => by cases h
  | .int _ :: _, _, h => by cases h
  | .str _ :: _, _, h => by cases h
  | .tup _ :: _, _, h => by cases h
  | .lst _ :: _, _, h => by cases h
  | .scr _ :: _, _, h => by cases h
  | .kt _ :: _, _, h => by cases h
  | .dic _ :: _, _, h => by cases h
  | .dit _ :: _, _, h => by cases h
  | .obj _ _ :: _, _, h => by cases h
def allD : List D → Option D
  | [.lst ds] => (bls? ds).map fun bs => .bl (bs.all id)
  | _ => none
def anyD : List D → Option D
  | [.tup ds] => (ints? ds).map fun ns => .bl (ns.any (· != 0))
  | _ => none
def intD : List D → Option D
  | [.int i] => some (.int i)
  | [.bl b] => some (.int (if b then 1 else 0))
  | _ => none
def tupleD : List D → Option D
  | [.tup ds] => some (.tup ds)
  | [.lst ds] => some (.tup ds)
  | _ => none
def listD : List D → Option D
  | [.tup ds] => some (.lst ds)
  | [.lst ds] => some (.lst ds)
  | _ => none
def mxI : List Int → Option Int
  | [] => none
  | n :: r => some (r.foldl max n)
def maxD1 : List D → Option D
  | [.lst ds] => (ints? ds).bind fun ns => (mxI ns).map .int
  | [.tup ds] => (ints? ds).bind fun ns => (mxI ns).map .int
  | _ => none
def maxD2 : List D → Option D
  | [.int i, .int j] => some (.int (if j > i then j else i))
  | _ => none
def minD2 : List D → Option D
  | [.int i, .int j] => some (.int (if j < i then j else i))
  | _ => none
theorem foldl_max (r : List Int) : ∀ n : Int, n ≤ r.foldl max n ∧ (r.foldl max n ∈ n :: r) ∧ ∀ y ∈ r, y ≤ r.foldl max n := by
  induction r with
  | nil => intro n; exact ⟨Int.le_refl _, List.mem_cons_self, fun y h => nomatch h⟩
  | cons k r ih =>
    intro n
    obtain ⟨h1, h2, h3⟩ := ih (max n k)
    rw [List.foldl_cons]
    refine ⟨by omega, ?_, fun y hy => ?_⟩
    · rcases List.mem_cons.mp h2 with e | e
      · rw [e]
        by_cases z : n ≤ k
        · rw [Int.max_eq_right z]; simp
        · rw [Int.max_eq_left (by omega)]; simp
      · simp [e]
    · rcases List.mem_cons.mp hy with e | e
      · rw [e]; omega
      · exact h3 y e
theorem mxI_ok {ns : List Int} {m : Int} (h : mxI ns = some m) : m ∈ ns ∧ (∀ y ∈ ns, y ≤ m) ∧ 0 < ns.length := by
  cases ns with
  | nil => cases h
  | cons n r =>
    cases h
    obtain ⟨h1, h2, h3⟩ := foldl_max r n
    refine ⟨h2, fun y hy => ?_, Nat.succ_pos _⟩
    rcases List.mem_cons.mp hy with e | e
    · rw [e]; exact h1
    · exact h3 y e
theorem mxI_one {ns : List Int} {m k : Int} (h : mxI ns = some m) (h1 : k ∈ ns) (h2 : ∀ y ∈ ns, y ≤ k) : k = m := by
  obtain ⟨a, b, _⟩ := mxI_ok h
  have := b k h1
  have := h2 m a
  omega
section
variable {X : Cx}
theorem dp_ints : ∀ {K : PySem.W.Frag} {H : Hp} (ns : List Int), DpAll K H (ns.map V.int) (ns.map PyData.int)
  | _, _, [] => .nil
  | _, _, n :: r => .cons (.int n) (dp_ints r)
theorem alike_ints (ns : List Int) : PySem.W.AlikeAll (ns.map PyData.int) := by
  refine ⟨fun x hx y hy => ?_, fun x hx => ?_⟩
  · obtain ⟨i, _, rfl⟩ := List.mem_map.mp hx
    obtain ⟨j, _, rfl⟩ := List.mem_map.mp hy
    simp [PySem.W.alike]
  · obtain ⟨i, _, rfl⟩ := List.mem_map.mp hx
    exact (fun z => nomatch z)
theorem depth_ints : ∀ ns : List Int, PyData.depthAll (ns.map PyData.int) = 0
  | [] => by simp [PyData.depthAll]
  | n :: r => by simp [PyData.depthAll, PyData.depth, depth_ints r]
def rMaxT (K : PySem.W.Frag) : List V → Hp → VK → Prop := fun vs H Q => ∃ (a : Addr) (ns : List Int) (m : Int), vs = [V.ref a] ∧ SqT K H a (ns.map V.int) ∧ mxI ns = some m ∧ Q (.int m) H
theorem cr_maxT {k : Nat} (hr : Room k X.A) (hc : X.calm = true) : CallR X (.builtin "max") (rMaxT X.K) := by
  intro pins s σ H vs us Q I r h
  obtain ⟨a, ns, m, rfl, hs, hm, q⟩ := h
  obtain ⟨its, rv, ht, _⟩ := I.tuple hs
  rw [Vals.ref1 r]
  cases ns with
  | nil => cases hm
  | cons n ns =>
    obtain ⟨as, hr2⟩ := Dp.readsAll I _ _ its (dp_ints (n :: ns)) rv
    refine PySem.W.max_tuple_data (I.ok.hd hc) (show s.heap.IsTuple a its.toArray from ht) (xs := ns.map PyData.int) (x := .int n) (by simpa using hr2) (by simpa using alike_ints (n :: ns)) ?_ fun i v h' tk bs hv hrd hk => ?_
    · have : PyData.depthAll (PyData.int n :: ns.map PyData.int) = 0 := by simpa using depth_ints (n :: ns)
      rw [this]
      have := hr.units
      omega
    · rw [PySem.W.maxD_ints] at hrd
      cases hrd
      cases hm
      exact ⟨.int _, H, I.kept hk, ⟨_, rfl⟩, q⟩
def rAnyT (K : PySem.W.Frag) : List V → Hp → VK → Prop := fun vs H Q => ∃ (a : Addr) (ns : List Int), vs = [V.ref a] ∧ SqT K H a (ns.map V.int) ∧ Q (.bl (ns.any (· != 0))) H
theorem plain_ints : ∀ ns : List Int, PyData.plainAll (ns.map PyData.int) = true
  | [] => by simp [PyData.plainAll]
  | n :: r => by simp [PyData.plainAll, PyData.plain, plain_ints r]
theorem cr_anyT (hc : X.calm = true) : CallR X (.builtin "any") (rAnyT X.K) := by
  intro pins s σ H vs us Q I r h
  obtain ⟨a, ns, rfl, hs, q⟩ := h
  obtain ⟨its, rv, ht, _⟩ := I.tuple hs
  rw [Vals.ref1 r]
  obtain ⟨as, hr2⟩ := Dp.readsAll I _ _ its (dp_ints ns) rv
  refine PySem.W.any_tuple_data (I.ok.hd hc) (show s.heap.IsTuple a its.toArray from ht) (xs := ns.map PyData.int) (by simpa using hr2) (plain_ints ns) (fun x hx => ?_) fun h' tk hk => ?_
  · obtain ⟨i, _, rfl⟩ := List.mem_map.mp hx
    trivial
  · have e : (ns.map PyData.int).any PyData.truthy = ns.any (· != 0) := by
      rw [List.any_map]
      rfl
    rw [e]
    exact ⟨.bl _, H, I.kept hk, rfl, q⟩
end
section
variable {K : PySem.W.Frag} {C : Nat → Addr}
theorem reps1 {G : Hp} {vs : List V} {d : D} (h : Reps K C G vs [d]) : ∃ v, vs = [v] ∧ Rep K C G v d := by
  cases h with
  | cons a b => cases b; exact ⟨_, rfl, a⟩
theorem reps2 {G : Hp} {vs : List V} {d e : D} (h : Reps K C G vs [d, e]) : ∃ v w, vs = [v, w] ∧ Rep K C G v d ∧ Rep K C G w e := by
  cases h with
  | cons a b => cases b with
    | cons b c => cases c; exact ⟨_, _, rfl, a, b⟩
theorem cd_abs : CD K C (fun xs H Q => ∃ i, xs = [.int i] ∧ Q (.int (if i < 0 then -i else i)) H) absD := fun G H xs ds dz e r ez Q q => by
  unfold absD at ez
  split at ez
  · cases ez
    obtain ⟨v, rfl, r1⟩ := reps1 r
    cases r1
    exact ⟨_, rfl, q _ G H (.refl e) (.int _)⟩
  · cases ez
theorem sql_of {G H : Hp} (e : Ex G H) {a : Addr} {xs : List V} (h : G a = some (.lst xs)) : SqL K H a xs := .of (e _ _ h)
theorem cd_len : CD K C (fun xs H Q => ∃ p ys, xs = [.ref p] ∧ (SqL K H p ys ∨ SqT K H p ys) ∧ Q (.int ys.length) H) lenD := fun G H xs ds dz e r ez Q q => by
  unfold lenD at ez
  split at ez
  · cases ez
    obtain ⟨v, rfl, r1⟩ := reps1 r
    cases r1 with
    | tup h1 h2 => exact ⟨_, _, rfl, .inr (ex_t e h1), by rw [h2.length]; exact q _ G H (.refl e) (.int _)⟩
  · cases ez
    obtain ⟨v, rfl, r1⟩ := reps1 r
    cases r1 with
    | lst h1 h2 => exact ⟨_, _, rfl, .inl (sql_of e h1), by rw [h2.length]; exact q _ G H (.refl e) (.int _)⟩
  · cases ez
    obtain ⟨v, rfl, r1⟩ := reps1 r
    cases r1 with
    | scr h1 => exact ⟨_, _, rfl, .inl (ex_l e h1), by rw [List.length_map]; exact q _ G H (.refl e) (.int _)⟩
  · cases ez
theorem cd_all : CD K C (rAll K) allD := fun G H xs ds dz e r ez Q q => by
  unfold allD at ez
  split at ez
  · obtain ⟨bs, h1, h2⟩ := Option.map_eq_some_iff.mp ez
    subst h2
    have := bls?_some h1
    subst this
    obtain ⟨v, rfl, r1⟩ := reps1 r
    cases r1 with
    | lst h1 h2 =>
      have := h2.of_bools
      subst this
      exact ⟨_, _, rfl, sql_of e h1, q _ G H (.refl e) (.bl _)⟩
  · cases ez
theorem cd_any : CD K C (rAnyT K) anyD := fun G H xs ds dz e r ez Q q => by
  unfold anyD at ez
  split at ez
  · obtain ⟨bs, h1, h2⟩ := Option.map_eq_some_iff.mp ez
    subst h2
    have := ints?_some h1
    subst this
    obtain ⟨v, rfl, r1⟩ := reps1 r
    cases r1 with
    | tup h1 h2 =>
      have := h2.of_ints
      subst this
      exact ⟨_, _, rfl, ex_t e h1, q _ G H (.refl e) (.bl _)⟩
  · cases ez
theorem cd_int : CD K C (fun xs H Q => (∃ i, xs = [.int i] ∧ Q (.int i) H) ∨ ∃ k, xs = [.bl k] ∧ Q (.int (if k then 1 else 0)) H) intD := fun G H xs ds dz e r ez Q q => by
  unfold intD at ez
  split at ez
  · cases ez
    obtain ⟨v, rfl, r1⟩ := reps1 r
    cases r1
    exact .inl ⟨_, rfl, q _ G H (.refl e) (.int _)⟩
  · cases ez
    obtain ⟨v, rfl, r1⟩ := reps1 r
    cases r1
    exact .inr ⟨_, rfl, q _ G H (.refl e) (.int _)⟩
  · cases ez
theorem cd_tuple : CD K C (fun xs H Q => ∃ p ys, xs = [.ref p] ∧ ((SqL K H p ys ∧ ∀ l, H l = none → Q (.ref l) (upd H l (.tup ys))) ∨ (SqT K H p ys ∧ Q (.ref p) H))) tupleD := fun G H xs ds dz e r ez Q q => by
  unfold tupleD at ez
  split at ez
  · cases ez
    obtain ⟨v, rfl, r1⟩ := reps1 r
    cases r1 with
    | tup h1 h2 => exact ⟨_, _, rfl, .inr ⟨ex_t e h1, q _ G H (.refl e) (.tup h1 h2)⟩⟩
  · cases ez
    obtain ⟨v, rfl, r1⟩ := reps1 r
    cases r1 with
    | lst h1 h2 => exact ⟨_, _, rfl, .inl ⟨sql_of e h1, fun l hl => q _ _ _ (.new e hl) (.tup (.of upd_same) (h2.mono (.new (e.none hl))))⟩⟩
  · cases ez
theorem cd_list : CD K C (fun xs H Q => ∃ p ys, xs = [.ref p] ∧ (SqL K H p ys ∨ SqT K H p ys) ∧ ∀ l, H l = none → Q (.ref l) (upd H l (.lst ys))) listD := fun G H xs ds dz e r ez Q q => by
  unfold listD at ez
  split at ez
  · cases ez
    obtain ⟨v, rfl, r1⟩ := reps1 r
    cases r1 with
    | tup h1 h2 => exact ⟨_, _, rfl, .inr (ex_t e h1), fun l hl => q _ _ _ (.new e hl) (.lst upd_same (h2.mono (.new (e.none hl))))⟩
  · cases ez
    obtain ⟨v, rfl, r1⟩ := reps1 r
    cases r1 with
    | lst h1 h2 => exact ⟨_, _, rfl, .inl (sql_of e h1), fun l hl => q _ _ _ (.new e hl) (.lst upd_same (h2.mono (.new (e.none hl))))⟩
  · cases ez
abbrev rMx (K : PySem.W.Frag) : List V → Hp → VK → Prop := fun xs H Q => rMax K xs H Q ∨ rMaxT K xs H Q
theorem cd_max1 : CD K C (rMx K) maxD1 := fun G H xs ds dz e r ez Q q => by
  unfold maxD1 at ez
  split at ez
  · obtain ⟨ns, h1, h2⟩ := Option.bind_eq_some_iff.mp ez
    obtain ⟨m, h3, h4⟩ := Option.map_eq_some_iff.mp h2
    subst h4
    have := ints?_some h1
    subst this
    obtain ⟨v, rfl, r1⟩ := reps1 r
    cases r1 with
    | lst h1 h2 =>
      have := h2.of_ints
      subst this
      refine .inl ⟨_, _, rfl, sql_of e h1, (mxI_ok h3).2.2, fun k k1 k2 => ?_⟩
      rw [mxI_one h3 k1 k2]
      exact q _ G H (.refl e) (.int _)
  · obtain ⟨ns, h1, h2⟩ := Option.bind_eq_some_iff.mp ez
    obtain ⟨m, h3, h4⟩ := Option.map_eq_some_iff.mp h2
    subst h4
    have := ints?_some h1
    subst this
    obtain ⟨v, rfl, r1⟩ := reps1 r
    cases r1 with
    | tup h1 h2 =>
      have := h2.of_ints
      subst this
      exact .inr ⟨_, _, _, rfl, ex_t e h1, h3, q _ G H (.refl e) (.int _)⟩
  · cases ez
theorem cd_max2 : CD K C (fun xs H Q => ∃ i j, xs = [.int i, .int j] ∧ Q (.int (if j > i then j else i)) H) maxD2 := fun G H xs ds dz e r ez Q q => by
  unfold maxD2 at ez
  split at ez
  · cases ez
    obtain ⟨v, w, rfl, r1, r2⟩ := reps2 r
    cases r1; cases r2
    exact ⟨_, _, rfl, q _ G H (.refl e) (.int _)⟩
  · cases ez
theorem cd_min2 : CD K C (fun xs H Q => ∃ i j, xs = [.int i, .int j] ∧ Q (.int (if j < i then j else i)) H) minD2 := fun G H xs ds dz e r ez Q q => by
  unfold minD2 at ez
  split at ez
  · cases ez
    obtain ⟨v, w, rfl, r1, r2⟩ := reps2 r
    cases r1; cases r2
    exact ⟨_, _, rfl, q _ G H (.refl e) (.int _)⟩
  · cases ez
end
/-! ### subscripts, slices -/
def ixD : D → D → Option D := fun x y => match x, y with
  | .lst ds, .int i => atI ds i
  | .tup ds, .int i => atI ds i
  | .scr ns, .int i => (atI ns i).map .int
  | _, _ => none
def ixO (i : Nat) (g : FE) : FE := fun ρ T => match ρ[i]? with
  | some (.own ds) => (g ρ T).bind fun p => match p.1 with
    | .int k => (atI ds k).map fun d => (d, p.2)
    | _ => none
  | _ => none
def ixTk (i : Nat) (g : FE) : FE := fun ρ T => match ρ[i]? with
  | some .tnk => (g ρ T).bind fun p => match p.2, p.1 with
    | some tk, .int k => (atI tk k).map fun d => (d, p.2)
    | _, _ => none
  | _ => none
def cutL {α : Type} (xs : List α) (lo hi : Option Int) : List α := (xs.drop (HT.sIx xs.length 0 lo)).take (HT.sIx xs.length xs.length hi - HT.sIx xs.length 0 lo)
def slD (x : D) (lo hi : Option Int) : Option D := match x with
  | .lst ds => some (.lst (cutL ds lo hi))
  | .tup ds => some (.tup (cutL ds lo hi))
  | _ => none
abbrev FO := List SV → Tn → Option (Option Int × Tn)
def oN : FO := fun _ T => some (none, T)
def oS (f : FE) : FO := fun ρ T => (f ρ T).bind fun p => match p.1 with
  | .int i => some (some i, p.2)
  | _ => none
def slE (f : FE) (lo hi : FO) : FE := fun ρ T => (f ρ T).bind fun p => (lo ρ p.2).bind fun l => (hi ρ l.2).bind fun h => (slD p.1 l.1 h.1).map fun d => (d, h.2)
section
variable {K : PySem.W.Frag} {C : Nat → Addr} {ta tb te : TE} {f g : FE}
theorem Reps.atI {G : Hp} {vs : List V} {ds : List D} {i : Int} {d : D} (r : Reps K C G vs ds) (h : L2.atI ds i = some d) : ∃ v, L2.atI vs i = some v ∧ Rep K C G v d := by
  unfold L2.atI at h ⊢
  obtain ⟨j, h1, h2⟩ := Option.bind_eq_some_iff.mp h
  obtain ⟨v, h3, h4⟩ := r.get h2
  exact ⟨v, Option.bind_eq_some_iff.mpr ⟨j, by rw [r.length]; exact h1, h3⟩, h4⟩
theorem Reps.cut {G : Hp} {vs : List V} {ds : List D} {lo hi : Option Int} (r : Reps K C G vs ds) : Reps K C G (cutV vs lo hi) (cutL ds lo hi) := by
  unfold cutV cutL
  rw [r.length]
  exact (r.drop _).take _
theorem rd_ix : RD K C (rIx K) ixD := fun G H x y dx dy dz e rx ry ez Q q => by
  unfold ixD at ez
  split at ez
  · cases ry
    cases rx with
    | lst h1 h2 =>
      obtain ⟨v, h3, h4⟩ := h2.atI ez
      exact .inl ⟨_, _, _, v, rfl, rfl, sql_of e h1, h3, q v G H (.refl e) h4⟩
  · cases ry
    cases rx with
    | tup h1 h2 =>
      obtain ⟨v, h3, h4⟩ := h2.atI ez
      exact .inr (.inl ⟨_, _, _, v, rfl, rfl, ex_t e h1, h3, q v G H (.refl e) h4⟩)
  · cases ry
    obtain ⟨n, h1, h2⟩ := Option.map_eq_some_iff.mp ez
    subst h2
    cases rx with
    | scr h3 =>
      refine .inl ⟨_, _, _, .int n, rfl, rfl, ex_l e h3, ?_, q _ G H (.refl e) (.int n)⟩
      unfold L2.atI at h1 ⊢
      obtain ⟨j, k1, k2⟩ := Option.bind_eq_some_iff.mp h1
      exact Option.bind_eq_some_iff.mpr ⟨j, by rw [List.length_map]; exact k1, by rw [List.getElem?_map, k2]; rfl⟩
  · cases ez
theorem sd_ixO {i : Nat} (hb : Sd K C tb g) : Sd K C (tOp (rIx K) (tVar i) tb) (ixO i g) := fun σ ρ T a G H d T' ok e Q q => by
  unfold ixO at e
  cases e0 : ρ[i]? with
  | none => rw [e0] at e; cases e
  | some s =>
    rw [e0] at e
    cases s with
    | own ds =>
      obtain ⟨⟨y, T1⟩, e1, e⟩ := Option.bind_eq_some_iff.mp e
      obtain ⟨p, vs, h1, h2, h3, h4, h5⟩ := ok.own i ds e0
      refine ⟨.ref p, h1, ?_⟩
      refine hb σ ρ T a G H y T1 ok e1 _ fun w G1 H1 s1 t1 r1 => ?_
      cases r1 with
      | int k =>
        obtain ⟨z, e2, e⟩ := Option.map_eq_some_iff.mp e
        cases e
        obtain ⟨v, k1, k2⟩ := h5.atI e2
        exact .inl ⟨p, vs, k, v, rfl, rfl, .of (s1.h p _ h2 (Ne.symm h4) (fun _ z => nomatch z)), k1, q v G1 H1 s1 t1 (k2.mono s1.g)⟩
      | _ => cases e
    | _ => cases e
theorem sd_ixTk {i : Nat} (hb : Sd K C tb g) : Sd K C (tOp (rIx K) (tVar i) tb) (ixTk i g) := fun σ ρ T a G H d T' ok e Q q => by
  unfold ixTk at e
  cases e0 : ρ[i]? with
  | none => rw [e0] at e; cases e
  | some s =>
    rw [e0] at e
    cases s with
    | tnk =>
      obtain ⟨⟨y, T1⟩, e1, e⟩ := Option.bind_eq_some_iff.mp e
      obtain ⟨p, ha, h1⟩ := ok.tnk i e0
      subst ha
      refine ⟨.ref p, h1, ?_⟩
      cases T1 with
      | none => cases e
      | some tk =>
        refine hb σ ρ T (some p) G H y (some tk) ok e1 _ fun w G1 H1 s1 t1 r1 => ?_
        cases r1 with
        | int k =>
          obtain ⟨z, e2, e⟩ := Option.map_eq_some_iff.mp e
          cases e
          obtain ⟨vs, k1, k2, k3⟩ : ∃ vs, H1 p = some (.lst vs) ∧ G1 p = none ∧ Reps K C G1 vs tk := id t1
          obtain ⟨v, k4, k5⟩ := k3.atI e2
          exact .inl ⟨p, vs, k, v, rfl, rfl, .of k1, k4, q v G1 H1 s1 t1 k5⟩
        | _ => cases e
    | _ => cases e
def So (K : PySem.W.Frag) (C : Nat → Addr) (to : TO) (f : FO) : Prop := ∀ σ ρ T a G H b T', Ok K C σ ρ T a G H → f ρ T = some (b, T') → ∀ Q : Option Int → Hp → Prop, (∀ G' H', Step a G H G' H' → Tk K C T' a G' H' → Q b H') → to σ H Q
theorem so_none : So K C tNoPart oN := fun σ ρ T a G H b T' ok e Q q => by
  cases e
  exact q G H (.refl ok.gh) ok.tk
theorem so_some (h : Sd K C te f) : So K C (tPart te) (oS f) := fun σ ρ T a G H b T' ok e Q q => by
  unfold oS at e
  obtain ⟨⟨x, T1⟩, e1, e⟩ := Option.bind_eq_some_iff.mp e
  refine h σ ρ T a G H x T1 ok e1 _ fun v G1 H1 s1 t1 r1 => ?_
  cases r1 with
  | int k => cases e; exact ⟨_, rfl, q G1 H1 s1 t1⟩
  | _ => cases e
abbrev rSlD (K : PySem.W.Frag) : V → Option Int → Option Int → Hp → VK → Prop := fun x lo hi H Q => rSlL K x lo hi H Q ∨ rSlA K x lo hi H Q
theorem sd_slice {tl th : TO} {lo hi : FO} (h : Sd K C te f) (hl : So K C tl lo) (hh : So K C th hi) : Sd K C (tSl (rSlD K) te tl th) (slE f lo hi) := fun σ ρ T a G H d T' ok e Q q => by
  unfold slE at e
  obtain ⟨⟨x, T1⟩, e1, e⟩ := Option.bind_eq_some_iff.mp e
  obtain ⟨⟨l, T2⟩, e2, e⟩ := Option.bind_eq_some_iff.mp e
  obtain ⟨⟨u, T3⟩, e3, e⟩ := Option.bind_eq_some_iff.mp e
  obtain ⟨z, e4, e⟩ := Option.map_eq_some_iff.mp e
  cases e
  refine h σ ρ T a G H x T1 ok e1 _ fun v G1 H1 s1 t1 r1 => hl σ ρ T1 a G1 H1 l T2 (ok.step s1 t1) e2 _ fun G2 H2 s2 t2 => hh σ ρ T2 a G2 H2 u T3 (ok.step (s1.trans s2) t2) e3 _ fun G3 H3 s3 t3 => ?_
  have s := (s1.trans s2).trans s3
  have e4 : slD x l u = some _ := e4
  have r3 := r1.mono (s2.g.trans s3.g)
  cases r3 with
  | @lst a1 xs ds h1 h2 =>
    cases e4
    refine .inl ⟨_, _, rfl, .of (s3.gh _ _ h1), fun p hp => ?_⟩
    have n : Step none G3 H3 (upd G3 p (.lst (cutV xs l u))) (upd H3 p (.lst (cutV xs l u))) := .new s3.gh hp
    exact q _ _ _ (s.trans n.any) (t3.pure n) (.lst upd_same (h2.cut.mono n.g))
  | @tup a1 xs ds h1 h2 =>
    cases e4
    refine .inr ⟨_, _, rfl, ex_t s3.gh h1, fun hw => ?_, fun _ p hp => ?_⟩
    · refine q _ G3 H3 s t3 ?_
      have e5 : cutL ds l u = ds := by
        unfold cutL
        rw [← h2.length, hw.1, hw.2, List.drop_zero, h2.length, Nat.sub_zero, List.take_length]
      show Rep K C G3 _ (.tup (cutL ds l u))
      rw [e5]
      exact .tup h1 h2
    · have n : Step none G3 H3 (upd G3 p (.tup (cutV xs l u))) (upd H3 p (.tup (cutV xs l u))) := .new s3.gh hp
      exact q _ _ _ (s.trans n.any) (t3.pure n) (.tup (.of upd_same) (h2.cut.mono n.g))
  | _ => cases e4
end
structure POD (X : Cx) (C : Nat → Addr) (e : Option Expr) (t : TO) (f : FO) : Prop where
  po : PO X e t
  so : So X.K C t f
section
variable {X : Cx} {C : Nat → Addr} {a b : Expr} {ta tb : TE} {f g : FE} {pos p p2 : Pos}
theorem q_ix (ha : PD X C a ta f) (hb : PD X C b tb g) (hs : PlainIx b := by exact fun _ _ => rfl) : PD X C (.Subscript a b pos) (tOp (rIx X.K) ta tb) (bO ixD f g) := ⟨pe_ix ix_seq ha.pe hb.pe hs, sd_op ha.sd hb.sd rd_ix⟩
theorem q_ixO (i : Nat) {x : Str} (hN : X.N[i]? = some x) (hv : Vis X.env.scope x) (hb : PD X C b tb g) (hs : PlainIx b := by exact fun _ _ => rfl) (hd : (x == ("__debug__" : Str)) = false := by decide)
    (hcd : (x == ("__classdict__" : Str)) = false := by decide) : PD X C (.Subscript (.Name x p) b pos) (tOp (rIx X.K) (tVar i) tb) (ixO i g) := ⟨pe_ix ix_seq (pe_var hN hv hd hcd) hb.pe hs, sd_ixO hb.sd⟩
theorem q_ixT (i : Nat) {x : Str} (hN : X.N[i]? = some x) (hv : Vis X.env.scope x) (hb : PD X C b tb g) (hs : PlainIx b := by exact fun _ _ => rfl) (hd : (x == ("__debug__" : Str)) = false := by decide)
    (hcd : (x == ("__classdict__" : Str)) = false := by decide) : PD X C (.Subscript (.Name x p) b pos) (tOp (rIx X.K) (tVar i) tb) (ixTk i g) := ⟨pe_ix ix_seq (pe_var hN hv hd hcd) hb.pe hs, sd_ixTk hb.sd⟩
theorem o_none : POD X C none tNoPart oN := ⟨po_none, so_none⟩
theorem o_some (ha : PD X C a ta f) : POD X C (some a) (tPart ta) (oS f) := ⟨po_some ha.pe, so_some ha.sd⟩
theorem q_slice {lo hi : Option Expr} {tl th : TO} {fl fh : FO} (ha : PD X C a ta f) (hl : POD X C lo tl fl) (hh : POD X C hi th fh) : PD X C (.Subscript a (.Slice lo hi none p2) pos) (tSl (rSlD X.K) ta tl th) (slE f fl fh) :=
  ⟨pe_slice (sl_list.or sl_tupA) ha.pe hl.po hh.po, sd_slice ha.sd hl.so hh.so⟩
end
end TR

/-! zip and enumerate over lists and tuples in any mix. -/
namespace TR
open PySem PySem.Spec PyProof.Rows L2

inductive Sx where
  | l | t
def sqX : Sx → PySem.W.Frag → Hp → Addr → List V → Prop
  | .l => SqL
  | .t => SqT
def itX : Sx → Heap → Addr → Addr → Nat → Prop
  | .l => Heap.IsListIter
  | .t => Heap.IsTupleIter
def isX : Sx → Heap → Addr → Array Value → Prop
  | .l => Heap.IsList
  | .t => Heap.IsTuple
def itO (k : Sx) (l : Addr) : Obj := match k with
  | .l => { cls := .type "list_iterator", data := .fields #[.ref l, .int 0 0] }
  | .t => { cls := .type "tuple_iterator", data := .fields #[.ref l, .int 0 0] }
theorem itX_at {k : Sx} {h h' : Heap} {a l : Addr} {i : Nat} (x : itX k h a l i) (e : ∀ o, h.get? a = some o → h'.get? a = some o) : itX k h' a l i := by
  cases k
  · exact Heap.IsListIter.at x fun o q => e o q
  · exact Heap.IsTupleIter.at x fun o q => e o q
theorem itX_obj {k : Sx} {h : Heap} {a l : Addr} {i : Nat} (x : itX k h a l i) : ∃ o, h.get? a = some o ∧ ∀ v, o.data ≠ .cell v := by
  cases k
  · obtain ⟨o, h1, _, h3⟩ := x
    exact ⟨o, h1, fun v q => by rw [h3] at q; cases q⟩
  · obtain ⟨o, h1, _, h3⟩ := x
    exact ⟨o, h1, fun v q => by rw [h3] at q; cases q⟩
theorem itX_new {k : Sx} {h : Heap} {a l : Addr} (x : h.get? a = some (itO k l)) : itX k h a l 0 := by
  cases k
  · exact ⟨_, x, rfl, rfl⟩
  · exact ⟨_, x, rfl, rfl⟩
theorem drawsX (k : Sx) {prog : Program} {w : World} {A : Around} (hh : A.handled = none) (it l : Addr) (hne : l ≠ it) (its : Array Value) :
    Draws prog w A it [it, l] its.size (fun i v => its[i]? = some v) (fun i h => itX k h it l i ∧ isX k h l its) := by
  cases k
  · exact .list hh it l hne its
  · exact .tuple hh it l hne its
theorem beginsX (k : Sx) (l : Addr) (its : Array Value) : Begins (.ref l) (itO k l) (fun h => isX k h l its) := by
  cases k
  · exact begins_list l its
  · exact begins_tuple l its
section
variable {X : Cx} {pins : List (Addr × Obj)} {σ : L2.St} {H : Hp} {s : Shared}
theorem seqX (k : Sx) (I : Inv X pins σ H s) {a : Addr} {xs : List V} (h : sqX k X.K H a xs) : ∃ its : List Value, Vals xs its ∧ isX k s.heap a its.toArray ∧ xs.length ≤ sizeLine ∧ a < s.heap.objs.size := by
  cases k
  · obtain ⟨its, r, p, z⟩ := I.list h
    exact ⟨its, r, p.isList, z, p.lt⟩
  · obtain ⟨its, r, p, z⟩ := I.tuple h
    exact ⟨its, r, p, z, p.lt⟩
theorem seqX_inj (k : Sx) (I : Inv X pins σ H s) {a : Addr} {xs ys : List V} (h : sqX k X.K H a xs) (h' : sqX k X.K H a ys) : xs = ys := by
  cases k
  · exact I.list_inj h h'
  · exact I.tuple_inj h h'
end
/-- the sources at a and b as they stand at each turn, the items in new pairs -/
def ItzX (k1 k2 : Sx) (K : PySem.W.Frag) (a b : Addr) : It :=
  ⟨fun i H => ∃ (xs ys : List V) (x y : V), sqX k1 K H a xs ∧ sqX k2 K H b ys ∧ xs[i]? = some x ∧ ys[i]? = some y,
    fun i H v H' => ∃ T x y, v = .ref T ∧ H T = none ∧ H' = upd H T (.tup [x, y]) ∧ (∀ xs, sqX k1 K H a xs → xs[i]? = some x) ∧ ∀ ys, sqX k2 K H b ys → ys[i]? = some y,
    fun i H => ∃ xs ys : List V, sqX k1 K H a xs ∧ sqX k2 K H b ys ∧ i = min xs.length ys.length⟩
def tnZ (k1 k2 : Sx) (a b N : Addr) (i : Nat) (h : Heap) : Prop := IsZip h (N + 4) (N + 2) (N + 3) .none ∧ IsTupOf2 h (N + 2) (.ref N) (.ref (N + 1)) ∧ (∃ x y, IsTupOf2 h (N + 3) x y) ∧ itX k1 h N a i ∧ itX k2 h (N + 1) b i
theorem getNone {α : Type} {l : List α} {i : Nat} (h : l[i]? = none) : l.length ≤ i := List.getElem?_eq_none_iff.mp h
theorem turn_zipX {P : Program} {w : World} {K : PySem.W.Frag} {elts : List Expr} {kk : Nat} {tpos : Pos} (k1 k2 : Sx) {a b N : Addr} (ha : a < N) (hb : b < N) :
    Turn P w K (.Tuple elts kk tpos) (ItzX k1 k2 K a b) [N + 4, N + 2, N + 3, N, N + 1] (N + 4) (tnZ k1 k2 a b N) where
  mem := by simp
  obj := fun i h st c hc => by
    obtain ⟨hz, hTI, ⟨x, y, hTO⟩, h1, h2⟩ := st
    have e' : c = N + 4 ∨ c = N + 2 ∨ c = N + 3 ∨ c = N ∨ c = N + 1 := by simpa using hc
    rcases e' with q | q | q | q | q
    · rw [q]; exact ⟨_, hz, fun v q => nomatch q⟩
    · rw [q]; exact ⟨_, hTI, fun v q => nomatch q⟩
    · rw [q]; exact ⟨_, hTO, fun v q => nomatch q⟩
    · rw [q]; exact itX_obj h1
    · rw [q]; exact itX_obj h2
  keep := fun i h h' st k => by
    obtain ⟨hz, hTI, ⟨x, y, hTO⟩, h1, h2⟩ := st
    exact ⟨k (N + 4) (by simp) _ hz, k (N + 2) (by simp) _ hTI, ⟨x, y, k (N + 3) (by simp) _ hTO⟩, itX_at h1 fun o q => k N (by simp) o q, itX_at h2 fun o q => k (N + 1) (by simp) o q⟩
  item := by
    intro X hP hw hK hc i pins s σ H E I hf st hg
    subst hP hw hK
    obtain ⟨hz, hTI, hTO, h1, h2⟩ := id st
    obtain ⟨xs, ys, x, y, hqx, hqy, hx, hy⟩ := hg
    obtain ⟨its, rv, p, _, la⟩ := seqX k1 I hqx
    obtain ⟨its2, rv2, p2, _, lb⟩ := seqX k2 I hqy
    obtain ⟨u, hu, ru⟩ := rv.get hx
    obtain ⟨u2, hu2, ru2⟩ := rv2.get hy
    have hzl : N + 4 < s.heap.objs.size := Heap.lt_size hz
    have lt : ∀ c ∈ [N + 4, N + 2, N + 3, N, N + 1], c < s.heap.objs.size := fun c hcm => by
      obtain ⟨o, e1, _⟩ := (show ∃ o, s.heap.get? c = some o ∧ ∀ v, o.data ≠ .cell v by
        have e' : c = N + 4 ∨ c = N + 2 ∨ c = N + 3 ∨ c = N ∨ c = N + 1 := by simpa using hcm
        obtain ⟨x0, y0, hTO⟩ := hTO
        rcases e' with q | q | q | q | q
        · rw [q]; exact ⟨_, hz, fun v q => nomatch q⟩
        · rw [q]; exact ⟨_, hTI, fun v q => nomatch q⟩
        · rw [q]; exact ⟨_, hTO, fun v q => nomatch q⟩
        · rw [q]; exact itX_obj h1
        · rw [q]; exact itX_obj h2)
      exact Heap.lt_size e1
    have hh : X.A.in1.handled = none := I.ok.hd hc
    have W := GoesN.zip2 (prog := X.prog) (w := X.w) (A := X.A) (elts := elts) (x1 := kk) (pos := tpos) (zip_sep2 (N := N) (fp1 := [a]) (fp2 := [b]) (fun c h => by rw [List.mem_singleton.mp h]; exact ha) (fun c h => by rw [List.mem_singleton.mp h]; exact hb))
      (drawsX k1 hh N a (Nat.ne_of_lt ha) its.toArray) (drawsX k2 hh (N + 1) b (Nat.ne_of_lt (Nat.lt_succ_of_lt hb)) its2.toArray)
    have l1 := (List.getElem?_eq_some_iff.mp hu).1
    have l2 := (List.getElem?_eq_some_iff.mp hu2).1
    refine W.goes i s _ E (by rw [List.size_toArray, List.size_toArray]; omega) ⟨hz, hTI, hTO, ⟨h1, p⟩, ⟨h2, p2⟩⟩ fun v h' tk hY st' hk _ => ?_
    obtain ⟨T, x', y', rfl, hT, hx', hy', hTt⟩ := hY
    have ex : x' = u := Option.some.inj (hx'.symm.trans (by simpa using hu))
    have ey : y' = u2 := Option.some.inj (hy'.symm.trans (by simpa using hu2))
    subst ex ey
    have new : ObjOk X.prog X.w (upd H T (.tup [x, y])) h' T (.tup [x, y]) := ⟨by show 2 ≤ sizeLine; decide, [x', y'], .cons ru (.cons ru2 .nil), hTt⟩
    have I1 : Inv X pins σ (upd H T (.tup [x, y])) { s with heap := h', toks := tk } := I.turnedNew (ch := [N + 4, N + 2, N + 3, N, N + 1]) (fun c o hb q => hk c o (fun q' => hb (by
      have e' : c = N + 4 ∨ c = N + 3 ∨ c = N ∨ c = N + 1 := by simpa using q'
      rcases e' with e | e | e | e <;> simp [e])) q) hf hT new
    obtain ⟨z', TI', TO', ⟨h1', _⟩, ⟨h2', _⟩⟩ := st'
    refine ⟨.ref T, _, I1, rfl, ⟨T, x, y, rfl, I.hok.fresh hT, rfl, fun l hl => by rw [seqX_inj k1 I hl hqx]; exact hx, fun l hl => by rw [seqX_inj k2 I hl hqy]; exact hy⟩, ⟨z', TI', TO', h1', h2'⟩, fun c hcm => ?_⟩
    rw [upd_ne (Nat.ne_of_lt (Nat.lt_of_lt_of_le (lt c hcm) hT))]
    exact (hf c hcm).1
  done := by
    intro X hP hw hK hc i pins s σ H E I hf st hg
    subst hP hw hK
    obtain ⟨hz, hTI, hTO, h1, h2⟩ := st
    obtain ⟨xs, ys, hqx, hqy, hend⟩ := hg
    obtain ⟨its, rv, p, _, la⟩ := seqX k1 I hqx
    obtain ⟨its2, rv2, p2, _, lb⟩ := seqX k2 I hqy
    have hh : X.A.in1.handled = none := I.ok.hd hc
    have W := GoesN.zip2 (prog := X.prog) (w := X.w) (A := X.A) (elts := elts) (x1 := kk) (pos := tpos) (zip_sep2 (N := N) (fp1 := [a]) (fp2 := [b]) (fun c h => by rw [List.mem_singleton.mp h]; exact ha) (fun c h => by rw [List.mem_singleton.mp h]; exact hb))
      (drawsX k1 hh N a (Nat.ne_of_lt ha) its.toArray) (drawsX k2 hh (N + 1) b (Nat.ne_of_lt (Nat.lt_succ_of_lt hb)) its2.toArray)
    have e : i = min its.toArray.size its2.toArray.size := by rw [List.size_toArray, List.size_toArray, ← rv.length, ← rv2.length]; exact hend
    subst e
    refine W.stops s _ E ⟨hz, hTI, hTO, ⟨h1, p⟩, ⟨h2, p2⟩⟩ fun h' tk hk _ => ?_
    exact I.turnedL (ch := [N + 4, N + 2, N + 3, N, N + 1]) (fun c o hb q => hk c o (fun q' => hb (by
      have e' : c = N + 4 ∨ c = N + 3 ∨ c = N ∨ c = N + 1 := by simpa using q'
      rcases e' with e | e | e | e <;> simp [e])) q) hf
  self := fun A i s Q E st h => wpAny_pyIter_zip st.1 h
def iZipX (K : PySem.W.Frag) (ta : TA) : TI := fun σ H R => ta σ H fun vs H1 => ∃ k1 k2 a b xs ys, vs = [.ref a, .ref b] ∧ sqX k1 K H1 a xs ∧ sqX k2 K H1 b ys ∧ R (ItzX k1 k2 K a b) H1
theorem pi_zipX {X : Cx} {e e2 : Expr} {ta : TA} {p pos tpos : Pos} {elts : List Expr} {kk : Nat} (hg : Gl X "zip") (hm : X.mg "zip" = none) (ha : PA X [e, e2] ta)
    (hs : starEach [e, e2] X.env = (false, eval e X.env) :: starEach [e2] X.env := by rfl) (hpl : (backTo pos (starEach [e2] X.env)).any (·.1) = false := by rfl) :
    PI X (.Tuple elts kk tpos) (.Call (.Name "zip" p) [e, e2] [] pos) (iZipX X.K ta) := by
  refine ⟨fun pins s σ H R I h => ?_⟩
  refine Call_ (ld_blt I hg hm PyProof.Rows.boot_zip (PyProof.Rows.callWith_type1 (thn (ha.run pos pins s σ H _ I h) fun us s1 ⟨vs, H1, I1, r1, q1⟩ => ?_) hs hpl))
  obtain ⟨k1, k2, a, b, xs, ys, ex, hqx, hqy, q⟩ := q1
  subst ex
  cases r1 with
  | cons r rr =>
    cases rr with
    | cons r' rr =>
      cases rr
      cases r
      cases r'
      obtain ⟨its, rv, p1, _, la⟩ := seqX k1 I1 hqx
      obtain ⟨its2, rv2, p2, _, lb⟩ := seqX k2 I1 hqy
      refine zip_begins2 (beginsX k1 a its.toArray) (beginsX k2 b its2.toArray) p1 p2 fun h' hz hTI hTO h1 h2 hsz hk => wpAny_pyIter_zip hz ?_
      have I2 : Inv X pins σ H1 { s1 with heap := h' } := I1.kept (t' := s1.toks) hk
      refine ⟨s1.heap.objs.size + 4, [s1.heap.objs.size + 4, s1.heap.objs.size + 2, s1.heap.objs.size + 3, s1.heap.objs.size, s1.heap.objs.size + 1], _, _, H1, rfl, I2, turn_zipX k1 k2 la lb, ⟨hz, hTI, ⟨_, _, hTO⟩, itX_new h1, itX_new h2⟩, fun c hcm => ?_, q⟩
      have e' : c = s1.heap.objs.size + 4 ∨ c = s1.heap.objs.size + 2 ∨ c = s1.heap.objs.size + 3 ∨ c = s1.heap.objs.size ∨ c = s1.heap.objs.size + 1 := by simpa using hcm
      have hle : s1.heap.objs.size ≤ c := by
        rcases e' with z | z | z | z | z
        · rw [z]; exact Nat.le_add_right _ _
        · rw [z]; exact Nat.le_add_right _ _
        · rw [z]; exact Nat.le_add_right _ _
        · rw [z]; exact Nat.le_refl _
        · rw [z]; exact Nat.le_add_right _ _
      exact I1.fpOk hle (I1.hok.fresh hle)
/-! ### enumerate -/
section
open AutoSeq1 (wpAny_loadPart')
theorem meets_enumerate_new1 {v : Value} {o : Obj} {H : Heap → Prop} (B : Begins v o H) :
    Meets (Builtin.«enumerate.__new__» ⟨[.type "enumerate", v], []⟩) (fun _ R s => H s.heap ∧
      R (.ok (.ret (.ref (s.heap.push o).objs.size))) { s with heap := (s.heap.push o).push { cls := .type "enumerate", data := .fields #[.none, .bool false, .ref s.heap.objs.size, rawInt 0, .none, .none] } }) :=
  .of_wp fun prog w A R s h => by
    obtain ⟨hp, g, d, tk, os⟩ := s; obtain ⟨h1, h⟩ := h
    have hsub := sub_enumerate
    have q1 : ∀ {A' : Around} {E : Value → Shared → Prop} {Q : Value → Shared → Prop}, Q (.ref hp.objs.size) ⟨hp.push o, g, d, tk, os⟩ → wpAny (model prog w) A' (pyIter v) Q E ⟨hp, g, d, tk, os⟩ :=
      fun q => B.iter prog w _ _ ⟨hp, g, d, tk, os⟩ _ h1 q
    wp_walk using q1
    refine wpAny_stack_any fun st => wpAny_pure ?_
    split
    · rename_i c _ _ _ _ _
      cases (c == Value.type "enumerate")
      · wp_walk using q1
        exact ⟨_, rfl, h⟩
      · wp_walk using q1
        exact ⟨_, rfl, h⟩
    · wp_walk using q1
      exact ⟨_, rfl, h⟩
theorem enum_begins1 {prog : Program} {w : World} {A : Around} {E : Value → Shared → Prop} {s : Shared} {v : Value} {o : Obj} {H : Heap → Prop} {Q : Value → Shared → Prop} (B : Begins v o H) (h1 : H s.heap)
    (h : ∀ h', IsEnum h' (s.heap.objs.size + 1) s.heap.objs.size 0 .none → h'.get? s.heap.objs.size = some o → h'.objs.size = s.heap.objs.size + 2 →
      (∀ b o, s.heap.get? b = some o → h'.get? b = some o) → Q (.ref (s.heap.objs.size + 1)) { s with heap := h' }) :
    wpAny (model prog w) A (call (.type "enumerate") [v]) Q E s := by
  refine callType_new F.called_enumerate (by decide) (F.typeCall_enumerate_1 _) (F.newCall_enumerate_1 _) (fun obj => F.args_object_init_2 obj _) F.entry_enumerate_new
    (meets_enumerate_new1 B) ⟨h1, ?_⟩
  have hz : (s.heap.push o).objs.size = s.heap.objs.size + 1 := Heap.size_push ..
  show _ ∧ _
  rw [hz]
  have he : IsEnum ((s.heap.push o).push { cls := .type "enumerate", data := .fields #[.none, .bool false, .ref s.heap.objs.size, rawInt 0, .none, .none] }) (s.heap.objs.size + 1) s.heap.objs.size 0 .none := by
    have := Heap.get?_push_size (s.heap.push o) (o := { cls := .type "enumerate", data := .fields #[.none, .bool false, .ref s.heap.objs.size, rawInt 0, .none, .none] }) rfl
    rw [hz] at this; exact this
  refine ⟨⟨_, he, rfl⟩, h _ he (Heap.get?_push_of_some _ (Heap.get?_push_size _ B.free)) (by rw [Heap.size_push, hz]) fun b o x => Heap.get?_push_of_some _ (Heap.get?_push_of_some _ x)⟩
end
def IteX (k : Sx) (K : PySem.W.Frag) (a : Addr) : It :=
  ⟨fun i H => ∃ (xs : List V) (x : V), sqX k K H a xs ∧ xs[i]? = some x, fun i H v H' => ∃ T x, v = .ref T ∧ H T = none ∧ H' = upd H T (.tup [.int (i : Nat), x]) ∧ ∀ xs, sqX k K H a xs → xs[i]? = some x, fun i H => ∃ xs : List V, sqX k K H a xs ∧ i = xs.length⟩
def tnE (k : Sx) (a N : Addr) (i : Nat) (h : Heap) : Prop := (∃ old, IsEnum h (N + 1) N ((i : Nat) : Int) old) ∧ itX k h N a i
theorem turn_enumX {P : Program} {w : World} {K : PySem.W.Frag} {elts : List Expr} {kk : Nat} {tpos : Pos} (k : Sx) {a N : Addr} (ha : a < N) :
    Turn P w K (.Tuple elts kk tpos) (IteX k K a) [N + 1, N] (N + 1) (tnE k a N) where
  mem := by simp
  obj := fun i h st b hb => by
    obtain ⟨⟨old, he⟩, hi⟩ := st
    have e' : b = N + 1 ∨ b = N := by simpa using hb
    rcases e' with z | z
    · rw [z]; exact ⟨_, he, fun v q => nomatch q⟩
    · rw [z]; exact itX_obj hi
  keep := fun i h h' st k => let ⟨⟨old, he⟩, hi⟩ := st; ⟨⟨old, k (N + 1) (by simp) _ he⟩, itX_at hi fun o q => k N (by simp) o q⟩
  item := by
    intro X hP hw hK hc i pins s σ H E I hf st hg
    subst hP hw hK
    obtain ⟨⟨old, he⟩, hit⟩ := id st
    obtain ⟨xs, x, hq, hx⟩ := hg
    obtain ⟨its, rv, p, _, la⟩ := seqX k I hq
    obtain ⟨u, hu, ru⟩ := rv.get hx
    have hel : N + 1 < s.heap.objs.size := Heap.lt_size he
    have hil : N < s.heap.objs.size := by obtain ⟨_, q, _⟩ := itX_obj hit; exact Heap.lt_size q
    have hh : X.A.in1.handled = none := I.ok.hd hc
    have W := GoesN.enumFrom (prog := X.prog) (w := X.w) (A := X.A) (elts := elts) (x1 := kk) (pos := tpos) 0 (drawsX k hh N a (Nat.ne_of_lt ha) its.toArray) (N + 1) (Nat.succ_ne_self N) (by
      intro h
      rcases List.mem_cons.mp h with z | z
      · exact Nat.succ_ne_self N z
      · rw [← List.mem_singleton.mp z] at ha
        exact absurd ha (Nat.not_lt.mpr (Nat.le_succ N))) List.mem_cons_self
    have l1 := (List.getElem?_eq_some_iff.mp hu).1
    refine W.goes i s _ E (by rw [List.size_toArray]; exact l1) ⟨⟨old, by rw [Int.zero_add]; exact he⟩, hit, p⟩ fun v h' tk hY st' hk _ => ?_
    obtain ⟨T, t, x', rfl, hT, hx', hTt⟩ := hY
    have ex : x' = u := Option.some.inj (hx'.symm.trans (by simpa using hu))
    subst ex
    rw [Int.zero_add] at hTt
    have new : ObjOk X.prog X.w (upd H T (.tup [.int (i : Nat), x])) h' T (.tup [.int (i : Nat), x]) := ⟨by show 2 ≤ sizeLine; decide, [.int i t, x'], .cons ⟨_, rfl⟩ (.cons ru .nil), hTt⟩
    have I1 : Inv X pins σ (upd H T (.tup [.int (i : Nat), x])) { s with heap := h', toks := tk } := I.turnedNew (ch := [N + 1, N]) (fun c o hb q => hk c o hb q) hf hT new
    obtain ⟨⟨old', he'⟩, hit', _⟩ := st'
    rw [Int.zero_add] at he'
    refine ⟨.ref T, _, I1, rfl, ⟨T, x, rfl, I.hok.fresh hT, rfl, fun l hl => by rw [seqX_inj k I hl hq]; exact hx⟩, ⟨⟨old', he'⟩, hit'⟩, fun c hcm => ?_⟩
    have e' : c = N + 1 ∨ c = N := by simpa using hcm
    have hlt : c < s.heap.objs.size := by
      rcases e' with z | z
      · rw [z]; exact hel
      · rw [z]; exact hil
    rw [upd_ne (Nat.ne_of_lt (Nat.lt_of_lt_of_le hlt hT))]
    exact (hf c hcm).1
  done := by
    intro X hP hw hK hc i pins s σ H E I hf st hg
    subst hP hw hK
    obtain ⟨⟨old, he⟩, hit⟩ := st
    obtain ⟨xs, hq, hend⟩ := hg
    obtain ⟨its, rv, p, _, la⟩ := seqX k I hq
    have hh : X.A.in1.handled = none := I.ok.hd hc
    have W := GoesN.enumFrom (prog := X.prog) (w := X.w) (A := X.A) (elts := elts) (x1 := kk) (pos := tpos) 0 (drawsX k hh N a (Nat.ne_of_lt ha) its.toArray) (N + 1) (Nat.succ_ne_self N) (by
      intro h
      rcases List.mem_cons.mp h with z | z
      · exact Nat.succ_ne_self N z
      · rw [← List.mem_singleton.mp z] at ha
        exact absurd ha (Nat.not_lt.mpr (Nat.le_succ N))) List.mem_cons_self
    have e : i = its.toArray.size := by rw [List.size_toArray, ← rv.length]; exact hend
    subst e
    refine W.stops s _ E ⟨⟨old, by rw [Int.zero_add]; exact he⟩, hit, p⟩ fun h' tk hk _ => ?_
    exact I.turnedL (ch := [N + 1, N]) (fun c o hb q => hk c o hb q) hf
  self := fun A i s Q E st h => let ⟨⟨_, he⟩, _⟩ := st; wpAny_pyIter_enum he h
def iEnumX (K : PySem.W.Frag) (ta : TA) : TI := fun σ H R => ta σ H fun vs H1 => ∃ k a xs, vs = [.ref a] ∧ sqX k K H1 a xs ∧ R (IteX k K a) H1
theorem pi_enumX {X : Cx} {e : Expr} {ta : TA} {p pos tpos : Pos} {elts : List Expr} {kk : Nat} (hg : Gl X "enumerate") (hm : X.mg "enumerate" = none) (ha : PA X [e] ta) (hs : starEach [e] X.env = [(false, eval e X.env)] := by rfl) :
    PI X (.Tuple elts kk tpos) (.Call (.Name "enumerate" p) [e] [] pos) (iEnumX X.K ta) := by
  refine ⟨fun pins s σ H R I h => ?_⟩
  refine Call_ (ld_blt I hg hm boot_enumerate (PyProof.Rows.callWith_type1 (thn (ha.run pos pins s σ H _ I h) fun us s1 ⟨vs, H1, I1, r1, q1⟩ => ?_) hs rfl))
  obtain ⟨k, a, xs, ex, hq, q⟩ := q1
  subst ex
  cases r1 with
  | cons r rr =>
    cases rr
    cases r
    obtain ⟨its, rv, p', _, la⟩ := seqX k I1 hq
    refine enum_begins1 (beginsX k a its.toArray) p' fun h' he hit hsz hk => wpAny_pyIter_enum he ?_
    have I2 : Inv X pins σ H1 { s1 with heap := h' } := I1.kept (t' := s1.toks) hk
    refine ⟨s1.heap.objs.size + 1, [s1.heap.objs.size + 1, s1.heap.objs.size], _, _, H1, rfl, I2, turn_enumX k la, ⟨⟨.none, he⟩, itX_new hit⟩, fun b hb => ?_, q⟩
    have e' : b = s1.heap.objs.size + 1 ∨ b = s1.heap.objs.size := by simpa using hb
    have hle : s1.heap.objs.size ≤ b := by
      rcases e' with z | z
      · rw [z]; exact Nat.le_add_right _ _
      · rw [z]; exact Nat.le_refl _
    exact I1.fpOk hle (I1.hok.fresh hle)
/-! ### at the data level -/
section
variable {K : PySem.W.Frag} {C : Nat → Addr}
def seqK (k : Sx) (ds : List D) : D := match k with
  | .l => .lst ds
  | .t => .tup ds
theorem rep_seq {G H : Hp} (e : Ex G H) {v : V} {d : D} {ds : List D} (r : Rep K C G v d) (h : items d = some ds) : ∃ k a xs, v = .ref a ∧ (∀ G1 H1, Ex G G1 → Ex G1 H1 → sqX k K H1 a xs) ∧ Reps K C G xs ds := by
  cases r with
  | tup h1 h2 => cases h; exact ⟨.t, _, _, rfl, fun G1 H1 e1 e2 => ex_t e2 (ex_t e1 h1), h2⟩
  | lst h1 h2 => cases h; exact ⟨.l, _, _, rfl, fun G1 H1 e1 e2 => .of (e2 _ _ (e1 _ _ h1)), h2⟩
  | _ => cases h
def zipD : List D → List D → List D
  | x :: xs, y :: ys => .tup [x, y] :: zipD xs ys
  | _, _ => []
theorem zipD_len : ∀ xs ys : List D, (zipD xs ys).length = min xs.length ys.length
  | [], _ => by simp [zipD]
  | _ :: _, [] => by simp [zipD]
  | x :: xs, y :: ys => by rw [zipD, List.length_cons, zipD_len xs ys, List.length_cons, List.length_cons]; omega
theorem zipD_get : ∀ (xs ys : List D) (i : Nat) (d : D), (zipD xs ys)[i]? = some d → ∃ x y, xs[i]? = some x ∧ ys[i]? = some y ∧ d = .tup [x, y]
  | [], _, _, _, h => by simp [zipD] at h
  | _ :: _, [], _, _, h => by simp [zipD] at h
  | x :: xs, y :: ys, 0, d, h => by
    have e : D.tup [x, y] = d := by simpa [zipD] using h
    exact ⟨x, y, rfl, rfl, e.symm⟩
  | x :: xs, y :: ys, i + 1, d, h => zipD_get xs ys i d (by simpa [zipD] using h)
def enumD (n : Nat) : List D → List D
  | [] => []
  | x :: xs => .tup [.int n, x] :: enumD (n + 1) xs
theorem enumD_len : ∀ (n : Nat) (xs : List D), (enumD n xs).length = xs.length
  | _, [] => rfl
  | n, x :: xs => congrArg (· + 1) (enumD_len (n + 1) xs)
theorem enumD_get : ∀ (n : Nat) (xs : List D) (i : Nat) (d : D), (enumD n xs)[i]? = some d → ∃ x, xs[i]? = some x ∧ d = .tup [.int (n + i : Nat), x]
  | _, [], _, _, h => by simp [enumD] at h
  | n, x :: xs, 0, d, h => by
    have e : D.tup [.int n, x] = d := by simpa [enumD] using h
    exact ⟨x, rfl, e.symm⟩
  | n, x :: xs, i + 1, d, h => by
    obtain ⟨y, h1, h2⟩ := enumD_get (n + 1) xs i d (by simpa [enumD] using h)
    exact ⟨y, by simpa using h1, by rw [h2]; congr 4; omega⟩
def itZ (f : FL) : FL := fun ρ T => (f ρ T).bind fun p => match p.1 with
  | [x, y] => (items x).bind fun xs => (items y).map fun ys => (zipD xs ys, p.2)
  | _ => none
def itE (f : FL) : FL := fun ρ T => (f ρ T).bind fun p => match p.1 with
  | [x] => (items x).map fun xs => (enumD 0 xs, p.2)
  | _ => none
theorem si_zip {ta : TA} {f : FL} (h : Sa K C ta f) : Si K C (iZipX K ta) (itZ f) := fun σ ρ T a G H ds T' ok e R q => by
  unfold itZ at e
  obtain ⟨⟨d, T1⟩, e1, e⟩ := Option.bind_eq_some_iff.mp e
  refine h σ ρ T a G H d T1 ok e1 _ fun vs G1 H1 s1 t1 r1 => ?_
  split at e
  · rename_i x y hd
    have hd' : d = [x, y] := hd
    subst hd'
    obtain ⟨xs, h1, e⟩ := Option.bind_eq_some_iff.mp e
    obtain ⟨ys, h2, e⟩ := Option.map_eq_some_iff.mp e
    cases e
    obtain ⟨v, w, rfl, rv, rw'⟩ := reps2 r1
    obtain ⟨k1, a1, us, rfl, f1, g1⟩ := rep_seq s1.gh rv h1
    obtain ⟨k2, a2, ws, rfl, f2, g2⟩ := rep_seq s1.gh rw' h2
    refine ⟨k1, k2, a1, a2, us, ws, rfl, f1 G1 H1 (.refl _) s1.gh, f2 G1 H1 (.refl _) s1.gh, q _ G1 H1 s1 t1 fun i G2 H2 x1 x2 => ?_⟩
    have q1 := f1 G2 H2 x1 x2
    have q2 := f2 G2 H2 x1 x2
    refine ⟨fun hi => ⟨us, ws, q1, q2, by rw [g1.length, g2.length, hi, zipD_len]⟩, fun d hd => ?_⟩
    obtain ⟨x, y, hx, hy, rfl⟩ := zipD_get xs ys i d hd
    obtain ⟨v, hv, rv⟩ := g1.get hx
    obtain ⟨w, hw, rw2⟩ := g2.get hy
    refine ⟨⟨us, ws, v, w, q1, q2, hv, hw⟩, fun z H3 hz => ?_⟩
    obtain ⟨Tp, v', w', rfl, hn, rfl, k1', k2'⟩ := hz
    have e1 := (k1' us q1).symm.trans hv
    have e2 := (k2' ws q2).symm.trans hw
    cases e1; cases e2
    have n : Step none G2 H2 (upd G2 Tp (.tup [v, w])) (upd H2 Tp (.tup [v, w])) := .new x2 hn
    exact ⟨_, n, .tup (.of upd_same) (.cons (rv.mono (x1.trans n.g)) (.cons (rw2.mono (x1.trans n.g)) .nil))⟩
  · cases e
theorem si_enum {ta : TA} {f : FL} (h : Sa K C ta f) : Si K C (iEnumX K ta) (itE f) := fun σ ρ T a G H ds T' ok e R q => by
  unfold itE at e
  obtain ⟨⟨d, T1⟩, e1, e⟩ := Option.bind_eq_some_iff.mp e
  refine h σ ρ T a G H d T1 ok e1 _ fun vs G1 H1 s1 t1 r1 => ?_
  split at e
  · rename_i x hd
    have hd' : d = [x] := hd
    subst hd'
    obtain ⟨xs, h1, e⟩ := Option.map_eq_some_iff.mp e
    cases e
    obtain ⟨v, rfl, rv⟩ := reps1 r1
    obtain ⟨k1, a1, us, rfl, f1, g1⟩ := rep_seq s1.gh rv h1
    refine ⟨k1, a1, us, rfl, f1 G1 H1 (.refl _) s1.gh, q _ G1 H1 s1 t1 fun i G2 H2 x1 x2 => ?_⟩
    have q1 := f1 G2 H2 x1 x2
    refine ⟨fun hi => ⟨us, q1, by rw [g1.length, hi, enumD_len]⟩, fun d hd => ?_⟩
    obtain ⟨x, hx, rfl⟩ := enumD_get 0 xs i d hd
    obtain ⟨v, hv, rv⟩ := g1.get hx
    refine ⟨⟨us, v, q1, hv⟩, fun z H3 hz => ?_⟩
    obtain ⟨Tp, v', rfl, hn, rfl, k1'⟩ := hz
    have e1 := (k1' us q1).symm.trans hv
    cases e1
    have n : Step none G2 H2 (upd G2 Tp (.tup [.int (i : Nat), v])) (upd H2 Tp (.tup [.int (i : Nat), v])) := .new x2 hn
    exact ⟨_, n, .tup (.of upd_same) (by rw [Nat.zero_add]; exact .cons (.int _) (.cons (rv.mono (x1.trans n.g)) .nil))⟩
  · cases e
end
section
variable {X : Cx} {C : Nat → Addr} {a b : Expr} {t : TA} {fl : FL} {elts : List Expr} {kk : Nat} {p pos tpos : Pos}
theorem i_zip (hm : X.mg "zip" = none) (ha : PAD X C [a, b] t fl) (hg : Gl X "zip" := by rfl) (hs : starEach [a, b] X.env = (false, eval a X.env) :: starEach [b] X.env := by rfl) (hpl : (backTo pos (starEach [b] X.env)).any (·.1) = false := by rfl) :
    PID X C (.Tuple elts kk tpos) (.Call (.Name "zip" p) [a, b] [] pos) (iZipX X.K t) (itZ fl) := ⟨pi_zipX hg hm ha.pe hs hpl, si_zip ha.sd⟩
theorem i_enum (hm : X.mg "enumerate" = none) (ha : PAD X C [a] t fl) (hg : Gl X "enumerate" := by rfl) (hs : starEach [a] X.env = [(false, eval a X.env)] := by rfl) :
    PID X C (.Tuple elts kk tpos) (.Call (.Name "enumerate" p) [a] [] pos) (iEnumX X.K t) (itE fl) := ⟨pi_enumX hg hm ha.pe hs, si_enum ha.sd⟩
end
end TR

/-! Rules for statements at the data level; parallel assignment; comprehensions with a test. -/
namespace TR
open PySem PySem.Spec PyProof.Rows L2

/-! ### parallel assignment -/
abbrev FX := List SV → Tn → Option (SV × Tn)
def xV (f : FE) : FX := fun ρ T => (f ρ T).map fun p => (.val p.1, p.2)
def xO (f : FL) : FX := fun ρ T => (f ρ T).map fun p => (.own p.1, p.2)
section
variable (K : PySem.W.Frag) (C : Nat → Addr)
def Itm (G H G' H' : Hp) (v : V) : SV → Prop
  | .val d => Rep K C G' v d
  | .own ds => ∃ p vs, v = .ref p ∧ H p = none ∧ H' p = some (.lst vs) ∧ G' p = none ∧ Reps K C G' vs ds
  | _ => False
def Smx (te : TE) (f : FX) : Prop := ∀ σ ρ T a G H s T', Ok K C σ ρ T a G H → f ρ T = some (s, T') → ∀ Q : VK, (∀ v G' H', Step a G H G' H' → Tk K C T' a G' H' → Itm K C G H G' H' v s → Q v H') → te σ H Q
end
structure PXD (X : Cx) (C : Nat → Addr) (e : Expr) (te : TE) (f : FX) : Prop where
  pe : PE X e te
  sd : Smx X.K C te f
theorem PD.x {X : Cx} {C : Nat → Addr} {e : Expr} {te : TE} {f : FE} (h : PD X C e te f) : PXD X C e te (xV f) := ⟨h.pe, fun σ ρ T a G H s T' ok e Q q => by
  unfold xV at e
  obtain ⟨⟨d, T1⟩, e1, e⟩ := Option.map_eq_some_iff.mp e
  cases e
  exact h.sd σ ρ T a G H d T1 ok e1 _ fun v G1 H1 s1 t1 r1 => q v G1 H1 s1 t1 r1⟩
theorem PF.x {X : Cx} {C : Nat → Addr} {e : Expr} {te : TE} {f : FL} (h : PF X C e te f) : PXD X C e te (xO f) := ⟨h.pe, fun σ ρ T a G H s T' ok e Q q => by
  unfold xO at e
  obtain ⟨⟨d, T1⟩, e1, e⟩ := Option.map_eq_some_iff.mp e
  cases e
  exact h.sd σ ρ T a G H d T1 ok e1 _ fun p vs G1 H1 s1 t1 hn hp hg r1 => q _ G1 H1 s1 t1 ⟨p, vs, rfl, hn, hp, hg, r1⟩⟩
section
variable {K : PySem.W.Frag} {C : Nat → Addr} {a : Option Addr} {G0 H0 G G' G'' H H' H'' : Hp} {σ : L2.St} {ρ : List SV} {T T' : Tn}
theorem Itm.step {v : V} {s : SV} (h : Itm K C G H G' H' v s) (t : Tk K C T' a G' H') (ha : ∀ p, a = some p → H p ≠ none) (st : Step a G' H' G'' H'') : Itm K C G H G'' H'' v s := by
  cases s with
  | val d => exact Rep.mono st.g h
  | own ds =>
    obtain ⟨p, vs, h1, h2, h3, h4, h5⟩ := h
    exact ⟨p, vs, h1, h2, st.h p _ h3 (fun z => ha p z.symm h2) (fun _ z => nomatch z), st.fr p h4 (by rw [h3]; exact fun z => nomatch z), h5.mono st.g⟩
  | un => exact h
  | tnk => exact h
/-- a slot gets an item -/
theorem OkS.setIt (o : OkS K C a G0 H0 σ ρ T G' H') (i : Nat) {v : V} {s : SV} (h : Itm K C G H G' H' v s) (dm : ∀ x, H x = none → H0 x = none) (ha : ∀ p, a = some p → H p ≠ none)
    (hne : ∀ (p : Addr), v = .ref p → H p = none → ∀ (j : Nat) (es : List D), i ≠ j → ρ[j]? = some (SV.own es) → σ[j]? ≠ some (some (V.ref p))) : OkS K C a G0 H0 (σ.set i (some v)) (ρ.set i s) T G' H' := by
  cases s with
  | val d => exact o.setVal i h
  | own ds =>
    obtain ⟨p, vs, rfl, h2, h3, h4, h5⟩ := h
    refine ⟨o.ok.setOwn i h3 h4 (fun z => ha p z h2) h5 (hne p rfl h2), o.st, fun j es q k1 k2 => ?_, o.e0⟩
    by_cases z : i = j
    · subst z
      have hl : i < σ.length := by
        have := (List.getElem?_eq_some_iff.mp k2).1
        rw [List.length_set] at this; exact this
      rw [List.getElem?_set_self hl] at k2
      cases k2
      exact dm p h2
    · rw [List.getElem?_set_ne z] at k1 k2
      exact o.fresh j es q k1 k2
  | un => exact h.elim
  | tnk => exact h.elim
theorem OkS.setTwo {i j : Nat} (hij : i ≠ j) (o : OkS K C a G0 H0 σ ρ T G H) {T1 : Tn} {G1 H1 : Hp} {v w : V} {s1 s2 : SV} (st1 : Step a G H G1 H1) (t1 : Tk K C T1 a G1 H1) (i1 : Itm K C G H G1 H1 v s1)
    (st2 : Step a G1 H1 G' H') (t2 : Tk K C T' a G' H') (i2 : Itm K C G1 H1 G' H' w s2) : OkS K C a G0 H0 ((σ.set i (some v)).set j (some w)) ((ρ.set i s1).set j s2) T' G' H' := by
  have ha : ∀ p, a = some p → H p ≠ none := fun p z => (o.ok.tk.there z).1
  have ha1 : ∀ p, a = some p → H1 p ≠ none := fun p z => (t1.there z).1
  have oo : ∀ (p : Addr), H p = none → ∀ (j : Nat) (es : List D), ρ[j]? = some (SV.own es) → σ[j]? ≠ some (some (V.ref p)) := fun p hp => (new_ne (G' := G) (H' := H) (T' := T) o.ok hp).2
  have o2 := (o.step st1 t1).step st2 t2
  have o3 := o2.setIt i (i1.step t1 ha st2) (fun x h => o.st.dm x h) ha (fun p _ hp j es _ => oo p hp j es)
  refine o3.setIt j i2 (fun x h => o.st.dm x (st1.dm x h)) ha1 fun p hw hp k es hk h1 h2 => ?_
  by_cases z : i = k
  · subst z
    have hl : i < σ.length := by
      have := (List.getElem?_eq_some_iff.mp h2).1
      rw [List.length_set] at this; exact this
    rw [List.getElem?_set_self hl] at h2
    have hl' : i < ρ.length := by rw [o.ok.len]; exact hl
    rw [List.getElem?_set_self hl'] at h1
    cases h2; cases h1
    obtain ⟨p', vs, e1, h2, h3, _⟩ := i1
    cases e1
    rw [hp] at h3
    cases h3
  · rw [List.getElem?_set_ne z] at h1 h2
    exact oo p (st1.dm p hp) k es h1 h2
end
def sPar (i j : Nat) (f g : FX) : FS := fun ρ T => (f ρ T).bind fun p => (g ρ p.2).map fun q => .nx ((ρ.set i p.1).set j q.1) q.2
section
variable {K : PySem.W.Frag} {C : Nat → Addr} {ta tb : TE} {f g : FX}
theorem ss_par {i j : Nat} (hij : i ≠ j) (ha : Smx K C ta f) (hb : Smx K C tb g) : Ss K C (tPar i j (tCons ta (tCons tb tNil))) (sPar i j f g) := fun a G0 H0 σ ρ T G H out D ok e q => by
  unfold sPar at e
  obtain ⟨⟨s1, T1⟩, e1, e⟩ := Option.bind_eq_some_iff.mp e
  obtain ⟨⟨s2, T2⟩, e2, e⟩ := Option.map_eq_some_iff.mp e
  cases e
  refine ha σ ρ T a G H s1 T1 ok.ok e1 _ fun v G1 H1 st1 t1 i1 => hb σ ρ T1 a G1 H1 s2 T2 (ok.ok.step st1 t1) e2 _ fun w G2 H2 st2 t2 i2 => ?_
  exact ⟨v, w, rfl, q _ G2 H2 (ok.setTwo hij st1 t1 i1 st2 t2 i2) (st1.g.trans st2.g)⟩
/-- .. by way of the tuple, where a name is a cell -/
theorem ss_parC {i j : Nat} (hij : i ≠ j) (ha : Smx K C ta f) (hb : Smx K C tb g) : Ss K C (tAsg (tTup (tCons ta (tCons tb tNil))) (gTup K 2 (gCons (gName i) (gCons (gName j) gNil)))) (sPar i j f g) := fun a G0 H0 σ ρ T G H out D ok e q => by
  unfold sPar at e
  obtain ⟨⟨s1, T1⟩, e1, e⟩ := Option.bind_eq_some_iff.mp e
  obtain ⟨⟨s2, T2⟩, e2, e⟩ := Option.map_eq_some_iff.mp e
  cases e
  refine ha σ ρ T a G H s1 T1 ok.ok e1 _ fun v G1 H1 st1 t1 i1 => hb σ ρ T1 a G1 H1 s2 T2 (ok.ok.step st1 t1) e2 _ fun w G2 H2 st2 t2 i2 => ?_
  refine ⟨sz_of (by show 2 ≤ 100000; decide), fun p hp => ⟨p, [v, w], rfl, .of upd_same, rfl, v, [w], rfl, w, [], rfl, rfl, ?_⟩⟩
  have s3 : Step a G2 H2 G2 (upd H2 p (.tup [v, w])) := .newH st2.gh hp
  have t3 : Tk K C T2 a G2 (upd H2 p (.tup [v, w])) := t2.upd (fun z => (t2.there z).1 hp)
  have i3 : Itm K C G1 H1 G2 (upd H2 p (.tup [v, w])) w s2 := by
    cases s2 with
    | own ds =>
      obtain ⟨p', vs, k1, k2, k3, k4, k5⟩ := i2
      exact ⟨p', vs, k1, k2, s3.h p' _ k3 (fun z => (t1.there z.symm).1 k2) (fun _ z => nomatch z), k4, k5⟩
    | val d => exact i2
    | un => exact i2
    | tnk => exact i2
  exact q _ G2 _ (ok.setTwo hij st1 t1 i1 (st2.trans s3) t3 i3) (st1.g.trans st2.g)
end
/-- three values -/
def sPar3 (i j l : Nat) (f : FL) : FS := fun ρ T => (f ρ T).bind fun p => match p.1 with
  | [x, y, z] => some (.nx (((ρ.set i (.val x)).set j (.val y)).set l (.val z)) p.2)
  | _ => none
section
variable {K : PySem.W.Frag} {C : Nat → Addr} {te : TE} {ta : TA} {f : FL} {fe : FE}
theorem reps3 {G : Hp} {vs : List V} {x y z : D} (h : Reps K C G vs [x, y, z]) : ∃ u v w, vs = [u, v, w] ∧ Rep K C G u x ∧ Rep K C G v y ∧ Rep K C G w z := by
  cases h with
  | cons a b => cases b with
    | cons b c => cases c with
      | cons c d => cases d; exact ⟨_, _, _, rfl, a, b, c⟩
theorem ss_par3 {i j l : Nat} (h : Sa K C ta f) : Ss K C (tPar3 i j l ta) (sPar3 i j l f) := fun a G0 H0 σ ρ T G H out D ok e q => by
  unfold sPar3 at e
  obtain ⟨⟨ds, T1⟩, e1, e⟩ := Option.bind_eq_some_iff.mp e
  refine h σ ρ T a G H ds T1 ok.ok e1 _ fun vs G1 H1 s1 t1 r1 => ?_
  split at e
  · rename_i x y z hd
    have hd' : ds = [x, y, z] := hd
    subst hd'
    cases e
    obtain ⟨u, v, w, rfl, ru, rv, rw'⟩ := reps3 r1
    exact ⟨u, v, w, rfl, q _ G1 H1 ((((ok.step s1 t1).setVal i ru).setVal j rv).setVal l rw') s1.g⟩
  · cases e
theorem ss_par3C {i j l : Nat} (h : Sa K C ta f) : Ss K C (tAsg (tTup ta) (gTup K 3 (gCons (gName i) (gCons (gName j) (gCons (gName l) gNil))))) (sPar3 i j l f) := fun a G0 H0 σ ρ T G H out D ok e q => by
  unfold sPar3 at e
  obtain ⟨⟨ds, T1⟩, e1, e⟩ := Option.bind_eq_some_iff.mp e
  refine h σ ρ T a G H ds T1 ok.ok e1 _ fun vs G1 H1 s1 t1 r1 => ?_
  split at e
  · rename_i x y z hd
    have hd' : ds = [x, y, z] := hd
    subst hd'
    cases e
    obtain ⟨u, v, w, rfl, ru, rv, rw'⟩ := reps3 r1
    refine ⟨sz_of (by show 3 ≤ 100000; decide), fun p hp => ⟨p, [u, v, w], rfl, .of upd_same, rfl, u, _, rfl, v, _, rfl, w, _, rfl, rfl, ?_⟩⟩
    have s2 : Step none G1 H1 G1 (upd H1 p (.tup [u, v, w])) := .newH s1.gh hp
    exact q _ G1 _ (((((ok.step s1 t1).step s2.any (t1.pure s2)).setVal i ru).setVal j rv).setVal l rw') s1.g
  · cases e
/-- a value taken apart: a tuple of two, a list of three -/
def sUn2 (i j : Nat) (f : FE) : FS := fun ρ T => (f ρ T).bind fun p => match p.1 with
  | .tup [x, y] => some (.nx ((ρ.set i (.val x)).set j (.val y)) p.2)
  | _ => none
def sUl3 (i j l : Nat) (f : FE) : FS := fun ρ T => (f ρ T).bind fun p => match p.1 with
  | .lst [x, y, z] => some (.nx (((ρ.set i (.val x)).set j (.val y)).set l (.val z)) p.2)
  | _ => none
theorem ss_un2 {i j : Nat} (h : Sd K C te fe) : Ss K C (tAsg te (gTup K 2 (gCons (gName i) (gCons (gName j) gNil)))) (sUn2 i j fe) := fun a G0 H0 σ ρ T G H out D ok e q => by
  unfold sUn2 at e
  obtain ⟨⟨d, T1⟩, e1, e⟩ := Option.bind_eq_some_iff.mp e
  refine h σ ρ T a G H d T1 ok.ok e1 _ fun v G1 H1 s1 t1 r1 => ?_
  split at e
  · rename_i x y hd
    have hd' : d = .tup [x, y] := hd
    subst hd'
    cases e
    cases r1 with
    | tup h1 h2 =>
      obtain ⟨u, v, rfl, ru, rv⟩ := reps2 h2
      exact ⟨_, [u, v], rfl, ex_t s1.gh h1, rfl, u, _, rfl, v, _, rfl, rfl, q _ G1 H1 (((ok.step s1 t1).setVal i ru).setVal j rv) s1.g⟩
  · cases e
theorem ss_ul3 {i j l : Nat} (h : Sd K C te fe) : Ss K C (tAsg te (gUnl K 3 (gCons (gName i) (gCons (gName j) (gCons (gName l) gNil))))) (sUl3 i j l fe) := fun a G0 H0 σ ρ T G H out D ok e q => by
  unfold sUl3 at e
  obtain ⟨⟨d, T1⟩, e1, e⟩ := Option.bind_eq_some_iff.mp e
  refine h σ ρ T a G H d T1 ok.ok e1 _ fun v G1 H1 s1 t1 r1 => ?_
  split at e
  · rename_i x y z hd
    have hd' : d = .lst [x, y, z] := hd
    subst hd'
    cases e
    cases r1 with
    | lst h1 h2 =>
      obtain ⟨u, v, w, rfl, ru, rv, rw'⟩ := reps3 h2
      exact ⟨_, [u, v, w], rfl, .of (s1.gh _ _ h1), rfl, u, _, rfl, v, _, rfl, w, _, rfl, rfl, q _ G1 H1 ((((ok.step s1 t1).setVal i ru).setVal j rv).setVal l rw') s1.g⟩
  · cases e
end

/-! ### statements -/
section
variable {X : Cx} {C : Nat → Addr} {a b c e e1 e2 e3 : Expr} {ta tb tc te : TE} {f g : FE} {fl fl2 : FL} {fx fy : FX} {pos p px py pz pt pt2 : Pos} {st : Stmt} {rest xs ys : List Stmt} {t u : TS} {fs gs : FS} {tt : TT} {ft : FB} {k : Nat} {x y z : Str} {kt k2 : Nat} {tal : TA}
theorem z_nil : PSsD X C [] tNext sNx := ⟨pss_nil, ss_nx⟩
theorem z_one (h : PSD X C st t fs) : PSsD X C [st] t fs := ⟨pss_one h.ps, h.ss⟩
theorem z_cons (h : PSD X C st t fs) (h2 : PSsD X C rest u gs) : PSsD X C (st :: rest) (tSeq t u) (sSeq fs gs) := ⟨pss_cons h.ps h2.ps, ss_seq h.ss h2.ss⟩
theorem z_frz (i : Nat) (h : PSsD X C xs t fs) : PSsD X C xs t (frzS i fs) := ⟨h.ps, ss_frz h.ss⟩
theorem z_bad : PSsD X C xs tNever sBad := ⟨pss_never, ss_bad⟩
theorem s_bad : PSD X C st tNever sBad := ⟨ps_never, ss_bad⟩
theorem s_ret (h : PD X C e te f) : PSD X C (.Return (some e) pos) (tRet te) (sRet f) := ⟨ps_ret h.pe, ss_ret h.sd⟩
theorem s_retF (h : PF X C e te fl) : PSD X C (.Return (some e) pos) (tRet te) (sRetF fl) := ⟨ps_ret h.pe, ss_retF h.sd⟩
theorem s_ct : PSD X C (.Continue pos) tCont sCt := ⟨ps_continue, ss_ct⟩
theorem s_expr (h : PD X C e te f) (hs : swapsWith e none pos.line X.env = pure false := by rfl) : PSD X C (.Expr e pos) (tDrop te) (sDrop f) := ⟨ps_expr h.pe hs, ss_drop h.sd⟩
theorem s_if (hc : PTD X C c tt ft) (ha : PSsD X C xs t fs) (hb : PSsD X C ys u gs) : PSD X C (.If c xs ys pos) (tIfS tt t u) (sIf ft fs gs) := ⟨ps_if hc.pe ha.ps hb.ps, ss_if hc.sd ha.ss hb.ss⟩
theorem s_while (n : Nat) (hp : PassesOwn (model X.prog X.w) X.A X.env X.xe) (hc : PTD X C c tt ft) (hb : PSsD X C xs t fs) : PSD X C (.While c xs [] pos) (tWhile tt t) (whS ft fs n) := ⟨ps_while hp hc.pe hb.ps, ss_while n hc.sd hb.ss⟩
theorem s_for {tg iter : Expr} {wi : TI} {it : FL} {vs : List Nat} {tgt : TG} {fg : FG} (hp : PassesOwn (model X.prog X.w) X.A X.env X.xe) (hc : X.calm = true) (hi : PID X C tg iter wi it) (hg : PGD X C tg vs tgt fg) (hb : PSsD X C xs t fs) (hs : ∀ x, foldedSetIterable iter X.env x = pure x := by intro _; rfl) :
    PSD X C (.For tg iter xs [] pos) (tFor wi tgt t) (sFor it fg fs) := ⟨ps_for hp hc hi.pi hg.pg hb.ps hs, ss_for hi.si hg.sg hb.ss⟩
theorem s_set (i : Nat) (hN : X.N.Nodup) (hi : X.N[i]? = some x) (hx : Loc X.env.scope x) (he : PD X C e te f) (hs : swapsWith e (some (.Name x px)) pos.line X.env = pure false := by rfl) (hf : X.fn x = true ∨ X.env.scope.names.lookup x = some .local := by first | exact .inl rfl | exact .inr rfl) :
    PSD X C (.Assign [.Name x px] e pos) (tAsg te (gName i)) (sAsg i f) := ⟨ps_set hN hi hx he.pe hs hf, ss_asg he.sd⟩
theorem s_own (i : Nat) (hN : X.N.Nodup) (hi : X.N[i]? = some x) (hx : Loc X.env.scope x) (he : PF X C e te fl) (hs : swapsWith e (some (.Name x px)) pos.line X.env = pure false := by rfl) (hf : X.fn x = true ∨ X.env.scope.names.lookup x = some .local := by first | exact .inl rfl | exact .inr rfl) :
    PSD X C (.Assign [.Name x px] e pos) (tAsg te (gName i)) (sOwn i fl) := ⟨ps_set hN hi hx he.pe hs hf, ss_own he.sd⟩
theorem s_par (i j : Nat) (hij : i ≠ j) (hc : X.calm = true) (hN : X.N.Nodup) (hi : X.N[i]? = some x) (hj : X.N[j]? = some y) (hx : X.env.scope.names.lookup x = some .local) (hy : X.env.scope.names.lookup y = some .local) (ha : PXD X C a ta fx) (hb : PXD X C b tb fy)
    (ea : starEach [a, b] X.env = (false, eval a X.env) :: starEach [b] X.env := by rfl) (eb : starEach [b] X.env = (false, eval b X.env) :: starEach [] X.env := by rfl)
    (hw : swappedStores [.Tuple [.Name x px, .Name y py] kt pt] (.Tuple [a, b] k2 pt2) X.env = pure (some [x, y]) := by rfl)
    (hs : swapsWithSole [.Tuple [.Name x px, .Name y py] kt pt] (.Tuple [a, b] k2 pt2) pos.line X.env = pure false := by rfl) :
    PSD X C (.Assign [.Tuple [.Name x px, .Name y py] kt pt] (.Tuple [a, b] k2 pt2) pos) (tPar i j (tCons ta (tCons tb tNil))) (sPar i j fx fy) := ⟨ps_par hc hN hi hj hij hx hy (pa_cons ha.pe (pa_cons hb.pe pa_nil eb) ea) hw hs, ss_par hij ha.sd hb.sd⟩
theorem s_parC (i j : Nat) (hij : i ≠ j) (hc : X.calm = true) (hN : X.N.Nodup) (hi : X.N[i]? = some x) (hj : X.N[j]? = some y) (hx : Loc X.env.scope x) (hy : Loc X.env.scope y) (ha : PXD X C a ta fx) (hb : PXD X C b tb fy)
    (hfx : X.fn x = true ∨ X.env.scope.names.lookup x = some .local := by first | exact .inl rfl | exact .inr rfl) (hfy : X.fn y = true ∨ X.env.scope.names.lookup y = some .local := by first | exact .inl rfl | exact .inr rfl)
    (ea : starEach [a, b] X.env = (false, eval a X.env) :: starEach [b] X.env := by rfl) (eb : starEach [b] X.env = (false, eval b X.env) :: starEach [] X.env := by rfl)
    (hw : swappedStores [.Tuple [.Name x px, .Name y py] kt pt] (.Tuple [a, b] k2 pt2) X.env = pure none := by rfl)
    (hs : swapsWithSole [.Tuple [.Name x px, .Name y py] kt pt] (.Tuple [a, b] k2 pt2) pos.line X.env = pure false := by rfl) :
    PSD X C (.Assign [.Tuple [.Name x px, .Name y py] kt pt] (.Tuple [a, b] k2 pt2) pos) (tAsg (tTup (tCons ta (tCons tb tNil))) (gTup X.K 2 (gCons (gName i) (gCons (gName j) gNil)))) (sPar i j fx fy) :=
  ⟨ps_asg (pe_tup (pa_cons ha.pe (pa_cons hb.pe pa_nil eb) ea)) (pg_tup hc (pgs_cons (pg_name hN hi hx hfx) (pgs_cons (pg_name hN hj hy hfy) pgs_nil))) hs hw, ss_parC hij ha.sd hb.sd⟩
theorem s_par3 (i j l : Nat) (hij : i ≠ j) (hil : i ≠ l) (hjl : j ≠ l) (hc : X.calm = true) (hN : X.N.Nodup) (hi : X.N[i]? = some x) (hj : X.N[j]? = some y) (hl : X.N[l]? = some z) (hx : X.env.scope.names.lookup x = some .local) (hy : X.env.scope.names.lookup y = some .local) (hz : X.env.scope.names.lookup z = some .local)
    (ha : PAD X C [e1, e2, e3] tal fl) (hw : swappedStores [.Tuple [.Name x px, .Name y py, .Name z pz] kt pt] (.Tuple [e1, e2, e3] k2 pt2) X.env = pure (some [x, y, z]) := by rfl)
    (hs : swapsWithSole [.Tuple [.Name x px, .Name y py, .Name z pz] kt pt] (.Tuple [e1, e2, e3] k2 pt2) pos.line X.env = pure false := by rfl) :
    PSD X C (.Assign [.Tuple [.Name x px, .Name y py, .Name z pz] kt pt] (.Tuple [e1, e2, e3] k2 pt2) pos) (tPar3 i j l tal) (sPar3 i j l fl) := ⟨ps_par3 hc hN hi hj hl hij hil hjl hx hy hz ha.pe hw hs, ss_par3 ha.sd⟩
theorem s_par3C (i j l : Nat) (hc : X.calm = true) (hN : X.N.Nodup) (hi : X.N[i]? = some x) (hj : X.N[j]? = some y) (hl : X.N[l]? = some z) (hx : Loc X.env.scope x) (hy : Loc X.env.scope y) (hz : Loc X.env.scope z) (ha : PAD X C [e1, e2, e3] tal fl)
    (hfx : X.fn x = true ∨ X.env.scope.names.lookup x = some .local := by first | exact .inl rfl | exact .inr rfl) (hfy : X.fn y = true ∨ X.env.scope.names.lookup y = some .local := by first | exact .inl rfl | exact .inr rfl) (hfz : X.fn z = true ∨ X.env.scope.names.lookup z = some .local := by first | exact .inl rfl | exact .inr rfl)
    (hw : swappedStores [.Tuple [.Name x px, .Name y py, .Name z pz] kt pt] (.Tuple [e1, e2, e3] k2 pt2) X.env = pure none := by rfl)
    (hs : swapsWithSole [.Tuple [.Name x px, .Name y py, .Name z pz] kt pt] (.Tuple [e1, e2, e3] k2 pt2) pos.line X.env = pure false := by rfl) :
    PSD X C (.Assign [.Tuple [.Name x px, .Name y py, .Name z pz] kt pt] (.Tuple [e1, e2, e3] k2 pt2) pos) (tAsg (tTup tal) (gTup X.K 3 (gCons (gName i) (gCons (gName j) (gCons (gName l) gNil))))) (sPar3 i j l fl) :=
  ⟨ps_asg (pe_tup ha.pe) (pg_tup hc (pgs_cons (pg_name hN hi hx hfx) (pgs_cons (pg_name hN hj hy hfy) (pgs_cons (pg_name hN hl hz hfz) pgs_nil)))) hs hw, ss_par3C ha.sd⟩
theorem s_un2 (i j : Nat) (hc : X.calm = true) (hN : X.N.Nodup) (hi : X.N[i]? = some x) (hj : X.N[j]? = some y) (hx : Loc X.env.scope x) (hy : Loc X.env.scope y) (he : PD X C e te f)
    (hfx : X.fn x = true ∨ X.env.scope.names.lookup x = some .local := by first | exact .inl rfl | exact .inr rfl) (hfy : X.fn y = true ∨ X.env.scope.names.lookup y = some .local := by first | exact .inl rfl | exact .inr rfl)
    (hw : swappedStores [.Tuple [.Name x px, .Name y py] kt pt] e X.env = pure none := by rfl)
    (hs : swapsWithSole [.Tuple [.Name x px, .Name y py] kt pt] e pos.line X.env = pure false := by rfl) :
    PSD X C (.Assign [.Tuple [.Name x px, .Name y py] kt pt] e pos) (tAsg te (gTup X.K 2 (gCons (gName i) (gCons (gName j) gNil)))) (sUn2 i j f) := ⟨ps_asg he.pe (pg_tup hc (pgs_cons (pg_name hN hi hx hfx) (pgs_cons (pg_name hN hj hy hfy) pgs_nil))) hs hw, ss_un2 he.sd⟩
theorem s_ul3 (i j l : Nat) (hc : X.calm = true) (hN : X.N.Nodup) (hi : X.N[i]? = some x) (hj : X.N[j]? = some y) (hl : X.N[l]? = some z) (hx : Loc X.env.scope x) (hy : Loc X.env.scope y) (hz : Loc X.env.scope z) (he : PD X C e te f)
    (hfx : X.fn x = true ∨ X.env.scope.names.lookup x = some .local := by first | exact .inl rfl | exact .inr rfl) (hfy : X.fn y = true ∨ X.env.scope.names.lookup y = some .local := by first | exact .inl rfl | exact .inr rfl) (hfz : X.fn z = true ∨ X.env.scope.names.lookup z = some .local := by first | exact .inl rfl | exact .inr rfl)
    (hw : swappedStores [.Tuple [.Name x px, .Name y py, .Name z pz] kt pt] e X.env = pure none := by rfl)
    (hs : swapsWithSole [.Tuple [.Name x px, .Name y py, .Name z pz] kt pt] e pos.line X.env = pure false := by rfl) :
    PSD X C (.Assign [.Tuple [.Name x px, .Name y py, .Name z pz] kt pt] e pos) (tAsg te (gUnl X.K 3 (gCons (gName i) (gCons (gName j) (gCons (gName l) gNil))))) (sUl3 i j l f) :=
  ⟨ps_asg he.pe (pg_unl hc (pgs_cons (pg_name hN hi hx hfx) (pgs_cons (pg_name hN hj hy hfy) (pgs_cons (pg_name hN hl hz hfz) pgs_nil)))) hs hw, ss_ul3 he.sd⟩
end
section
variable {X : Cx} {C : Nat → Addr} {a b c e elt tg it : Expr} {ta tb tc te : TE} {f g : FE} {fl fi : FL} {pos p px py p2 spos : Pos} {x y : Str} {wi : TI} {tt : TT} {ft : FB}
/-- a comprehension with a test -/
theorem f_lcT {scope : Scope} {own : List (Str × Nat)} {ws : List Nat} {tgt : TG} {fg : FG} (hc : X.calm = true) (hN : X.N.Nodup) (hi : PID X C tg it wi fi) (ok : BlkOk X.N X.env.scope scope own)
    (hg : ∀ s H A cl fp, PGD (blkX X scope s H A cl fp) C tg ws tgt fg) (hs : ∀ i ∈ ws, i ∈ own.map (·.2)) (ht : ∀ s H A cl fp, PTD (blkX X scope s H A cl fp) C c tt ft) (he : ∀ s H A cl fp, PD (blkX X scope s H A cl fp) C elt te f)
    (hfi : ∀ x, foldedSetIterable it X.env x = pure x := by intro _; rfl) : PF X C (.ListComp elt [⟨tg, it, [c], 0⟩] scope pos) (tLc wi tgt tt te (own.map (·.2))) (lcE fi fg ft f (own.map (·.2))) :=
  ⟨pe_lc hc hN hi.pi ok (fun s H A cl fp => (hg s H A cl fp).pg) (fun s H A cl fp => pts_one (ht s H A cl fp).pe) (fun s H A cl fp => (he s H A cl fp).pe) hfi,
    sf_lc hi.si (hg (PySem.start X.prog).1 (fun _ => none) 0 [] []).sg hs (ht (PySem.start X.prog).1 (fun _ => none) 0 [] []).sd (he (PySem.start X.prog).1 (fun _ => none) 0 [] []).sd⟩
/-- the parts of a comprehension, for a name that it is assigned to -/
structure PLc (X : Cx) (C : Nat → Addr) (elt tg it : Expr) (ifs : List Expr) (scope : Scope) (vs : List Nat) (te : TE) (fl : FL) : Prop where
  ps : ∀ (i : Nat) (y : Str) (py pos spos : Pos), X.N[i]? = some y → X.env.scope.names.lookup y = some .local → swapsWith (.ListComp elt [⟨tg, it, ifs, 0⟩] scope pos) (some (.Name y py)) spos.line X.env = pure true →
    PS X (.Assign [.Name y py] (.ListComp elt [⟨tg, it, ifs, 0⟩] scope pos) spos) (tAsg te (gName i))
  sd : Sf X.K C te fl
theorem lc0 {scope : Scope} {own : List (Str × Nat)} {ws : List Nat} {tgt : TG} {fg : FG} (hc : X.calm = true) (hN : X.N.Nodup) (hi : PID X C tg it wi fi) (ok : BlkOk X.N X.env.scope scope own)
    (hg : ∀ s H A cl fp, PGD (blkX X scope s H A cl fp) C tg ws tgt fg) (hs : ∀ i ∈ ws, i ∈ own.map (·.2)) (he : ∀ s H A cl fp, PD (blkX X scope s H A cl fp) C elt te f)
    (hfi : ∀ x, foldedSetIterable it X.env x = pure x := by intro _; rfl) : PLc X C elt tg it [] scope (own.map (·.2)) (tLc wi tgt tYes te (own.map (·.2))) (lcE fi fg yesB f (own.map (·.2))) :=
  ⟨fun i y py pos spos hy hyl hsw => ps_setLc hc hN hy hyl hsw hi.pi ok (fun s H A cl fp => (hg s H A cl fp).pg) (fun _ _ _ _ _ => pts_nil) (fun s H A cl fp => (he s H A cl fp).pe) hfi,
    sf_lc hi.si (hg (PySem.start X.prog).1 (fun _ => none) 0 [] []).sg hs sb_yes (he (PySem.start X.prog).1 (fun _ => none) 0 [] []).sd⟩
theorem lcT {scope : Scope} {own : List (Str × Nat)} {ws : List Nat} {tgt : TG} {fg : FG} (hc : X.calm = true) (hN : X.N.Nodup) (hi : PID X C tg it wi fi) (ok : BlkOk X.N X.env.scope scope own)
    (hg : ∀ s H A cl fp, PGD (blkX X scope s H A cl fp) C tg ws tgt fg) (hs : ∀ i ∈ ws, i ∈ own.map (·.2)) (ht : ∀ s H A cl fp, PTD (blkX X scope s H A cl fp) C c tt ft) (he : ∀ s H A cl fp, PD (blkX X scope s H A cl fp) C elt te f)
    (hfi : ∀ x, foldedSetIterable it X.env x = pure x := by intro _; rfl) : PLc X C elt tg it [c] scope (own.map (·.2)) (tLc wi tgt tt te (own.map (·.2))) (lcE fi fg ft f (own.map (·.2))) :=
  ⟨fun i y py pos spos hy hyl hsw => ps_setLc hc hN hy hyl hsw hi.pi ok (fun s H A cl fp => (hg s H A cl fp).pg) (fun s H A cl fp => pts_one (ht s H A cl fp).pe) (fun s H A cl fp => (he s H A cl fp).pe) hfi,
    sf_lc hi.si (hg (PySem.start X.prog).1 (fun _ => none) 0 [] []).sg hs (ht (PySem.start X.prog).1 (fun _ => none) 0 [] []).sd (he (PySem.start X.prog).1 (fun _ => none) 0 [] []).sd⟩
theorem s_lcV (i : Nat) {ifs : List Expr} {scope : Scope} {vs : List Nat} (hi : X.N[i]? = some y) (hyl : X.env.scope.names.lookup y = some .local) (h : PLc X C elt tg it ifs scope vs te fl)
    (hsw : swapsWith (.ListComp elt [⟨tg, it, ifs, 0⟩] scope pos) (some (.Name y py)) spos.line X.env = pure true) : PSD X C (.Assign [.Name y py] (.ListComp elt [⟨tg, it, ifs, 0⟩] scope pos) spos) (tAsg te (gName i)) (sAsg i (frz fl)) := ⟨h.ps i y py pos spos hi hyl hsw, ss_asg (sd_freeze h.sd)⟩
theorem s_lcO (i : Nat) {ifs : List Expr} {scope : Scope} {vs : List Nat} (hi : X.N[i]? = some y) (hyl : X.env.scope.names.lookup y = some .local) (h : PLc X C elt tg it ifs scope vs te fl)
    (hsw : swapsWith (.ListComp elt [⟨tg, it, ifs, 0⟩] scope pos) (some (.Name y py)) spos.line X.env = pure true) : PSD X C (.Assign [.Name y py] (.ListComp elt [⟨tg, it, ifs, 0⟩] scope pos) spos) (tAsg te (gName i)) (sOwn i fl) := ⟨h.ps i y py pos spos hi hyl hsw, ss_own h.sd⟩
end
end TR

/-! append, extend, pop, x[i] = v on a list of one's own; tuple(range(n)); dicts with texts for keys; not in, != on a list of one's own; sorted. -/
namespace TR
open PySem PySem.Spec PyProof.Rows L2
section
variable {X : Cx} {C : Nat → Addr} {a b c e : Expr} {ta tb te : TE} {f g : FE} {pos p px py apos cpos spos : Pos} {x y : Str}
theorem s_app (i : Nat) (hi : X.N[i]? = some y) (hv : Vis X.env.scope y) (ha : PD X C a ta f) (hd : (y == ("__debug__" : Str)) = false := by decide) (hcd : (y == ("__classdict__" : Str)) = false := by decide)
    (hbase : attributeBase (.Name y py) "append" X.env (eval (.Name y py) X.env) = eval (.Name y py) X.env := by rfl)
    (hfew : ((backTo cpos (starEach [a] X.env)).all (fun x => !x.1) && (backToKw cpos (keywordEach [] X.env)).all (fun x => x.1.isSome) && decide (([a] : List Expr).length + ([] : List Keyword).length + (if ([] : List Keyword).isEmpty then 0 else 1) < 30)) = true := by rfl)
    (hline : (apos.endLine == cpos.line) = true := by rfl) (hs : starEach [a] X.env = (false, eval a X.env) :: starEach [] X.env := by rfl) (hsw : swapsWith (.Call (.Attribute (.Name y py) "append" apos) [a] [] cpos) none spos.line X.env = pure false := by rfl) :
    PSD X C (.Expr (.Call (.Attribute (.Name y py) "append" apos) [a] [] cpos) spos) (tDrop (tBM X.K "list" rAppend (tVar i) (tCons ta tNil))) (sApp i f) :=
  ⟨ps_expr (pe_bm PySem.F.plainAttrs_list PySem.F.slot_list_append PySem.F.type_list_append mt_append (pe_var hi hv hd hcd) (pa_cons ha.pe pa_nil hs) hbase hfew hline hs rfl) hsw, ss_app ha.sd⟩
theorem s_ext (i : Nat) (hi : X.N[i]? = some y) (hv : Vis X.env.scope y) (ha : PD X C a ta f) (hd : (y == ("__debug__" : Str)) = false := by decide) (hcd : (y == ("__classdict__" : Str)) = false := by decide)
    (hbase : attributeBase (.Name y py) "extend" X.env (eval (.Name y py) X.env) = eval (.Name y py) X.env := by rfl)
    (hfew : ((backTo cpos (starEach [a] X.env)).all (fun x => !x.1) && (backToKw cpos (keywordEach [] X.env)).all (fun x => x.1.isSome) && decide (([a] : List Expr).length + ([] : List Keyword).length + (if ([] : List Keyword).isEmpty then 0 else 1) < 30)) = true := by rfl)
    (hline : (apos.endLine == cpos.line) = true := by rfl) (hs : starEach [a] X.env = (false, eval a X.env) :: starEach [] X.env := by rfl) (hsw : swapsWith (.Call (.Attribute (.Name y py) "extend" apos) [a] [] cpos) none spos.line X.env = pure false := by rfl) :
    PSD X C (.Expr (.Call (.Attribute (.Name y py) "extend" apos) [a] [] cpos) spos) (tDrop (tBM X.K "list" rExtend (tVar i) (tCons ta tNil))) (sExt i f) :=
  ⟨ps_expr (pe_bm PySem.F.plainAttrs_list PySem.F.slot_list_extend PySem.F.type_list_extend mt_extend (pe_var hi hv hd hcd) (pa_cons ha.pe pa_nil hs) hbase hfew hline hs rfl) hsw, ss_ext ha.sd⟩
theorem s_pop (i j : Nat) (hN : X.N.Nodup) (hi : X.N[i]? = some x) (hx : Loc X.env.scope x) (hj : X.N[j]? = some y) (hv : Vis X.env.scope y) (hd : (y == ("__debug__" : Str)) = false := by decide) (hcd : (y == ("__classdict__" : Str)) = false := by decide)
    (hbase : attributeBase (.Name y py) "pop" X.env (eval (.Name y py) X.env) = eval (.Name y py) X.env := by rfl) (hline : (apos.endLine == cpos.line) = true := by rfl)
    (hsw : swapsWith (.Call (.Attribute (.Name y py) "pop" apos) [] [] cpos) (some (.Name x px)) spos.line X.env = pure false := by rfl) (hf : X.fn x = true ∨ X.env.scope.names.lookup x = some .local := by first | exact .inl rfl | exact .inr rfl) :
    PSD X C (.Assign [.Name x px] (.Call (.Attribute (.Name y py) "pop" apos) [] [] cpos) spos) (tAsg (tBM0 X.K "list" rPop (tVar j)) (gName i)) (sPop i j) :=
  ⟨ps_set hN hi hx (pe_bm0 PySem.F.plainAttrs_list PySem.F.slot_list_pop PySem.F.type_list_pop mt_pop (pe_var hj hv hd hcd) hbase hline) hsw hf, ss_pop⟩
theorem s_setO (i : Nat) (hi : X.N[i]? = some y) (hv : Vis X.env.scope y) (ha : PD X C a ta f) (hb : PD X C b tb g) (hd : (y == ("__debug__" : Str)) = false := by decide) (hcd : (y == ("__classdict__" : Str)) = false := by decide)
    (has : ∀ v, assign (.Subscript (.Name y py) b p) X.env v = (do
      let ov ← holding [v] (eval (.Name y py) X.env)
      let iv ← holding [v, ov] (eval b X.env)
      standAt p
      holding [v, ov, iv] (setItem ov iv v)
      release [v, ov, iv] []) := by intro _; rfl) (hs : swapsWithSole [.Subscript (.Name y py) b p] a pos.line X.env = pure false := by rfl) (hw : swappedStores [.Subscript (.Name y py) b p] a X.env = pure none := by rfl)
    (h1 : (assignEach [.Subscript (.Name y py) b p] X.env).map (·.2) = [assign (.Subscript (.Name y py) b p) X.env] := by rfl) :
    PSD X C (.Assign [.Subscript (.Name y py) b p] a pos) (tAsg ta (gSub (tVar i) tb rSetL)) (sSet i f g) := ⟨ps_asg ha.pe (pg_sub (pe_var hi hv hd hcd) hb.pe set_list has) hs hw h1, ss_set ha.sd hb.sd⟩
theorem s_setT (i : Nat) (hi : X.N[i]? = some y) (hv : Vis X.env.scope y) (ha : PD X C a ta f) (hb : PD X C b tb g) (hd : (y == ("__debug__" : Str)) = false := by decide) (hcd : (y == ("__classdict__" : Str)) = false := by decide)
    (has : ∀ v, assign (.Subscript (.Name y py) b p) X.env v = (do
      let ov ← holding [v] (eval (.Name y py) X.env)
      let iv ← holding [v, ov] (eval b X.env)
      standAt p
      holding [v, ov, iv] (setItem ov iv v)
      release [v, ov, iv] []) := by intro _; rfl) (hs : swapsWithSole [.Subscript (.Name y py) b p] a pos.line X.env = pure false := by rfl) (hw : swappedStores [.Subscript (.Name y py) b p] a X.env = pure none := by rfl)
    (h1 : (assignEach [.Subscript (.Name y py) b p] X.env).map (·.2) = [assign (.Subscript (.Name y py) b p) X.env] := by rfl) :
    PSD X C (.Assign [.Subscript (.Name y py) b p] a pos) (tAsg ta (gSub (tVar i) tb rSetL)) (sSetT i f g) := ⟨ps_asg ha.pe (pg_sub (pe_var hi hv hd hcd) hb.pe set_list has) hs hw h1, ss_setT ha.sd hb.sd⟩
end

/-! ### tuple(range(n)) -/
def rgT (f : FE) : FE := fun ρ T => (f ρ T).bind fun p => match p.1 with
  | .int n => if 0 ≤ n ∧ n ≤ 1000000 then some (.tup (rngD 0 n.toNat), p.2) else none
  | _ => none
theorem sd_rgT {K : PySem.W.Frag} {C : Nat → Addr} {ta : TE} {f : FE} (h : Sd K C ta f) : Sd K C (tTupRg (tRg1 ta)) (rgT f) := fun σ ρ T a G H d T' ok e Q q => by
  unfold rgT at e
  obtain ⟨⟨x, T1⟩, e1, e⟩ := Option.bind_eq_some_iff.mp e
  refine h σ ρ T a G H x T1 ok e1 _ fun v G1 H1 s1 t1 r1 => ?_
  split at e
  · rename_i n hd
    have hd' : x = .int n := hd
    subst hd'
    split at e
    · rename_i hn
      cases e
      cases r1
      refine ⟨n, rfl, ⟨by omega, by omega, by omega, by omega, by omega⟩, fun p hp => ?_⟩
      have s2 : Step none G1 H1 (upd G1 p (.tup (rgV 0 n))) (upd H1 p (.tup (rgV 0 n))) := .new s1.gh hp
      have hr : Reps K C (upd G1 p (.tup (rgV 0 n))) (rgV 0 n) (rngD 0 n.toNat) := by
        have : rgV 0 n = ((List.range n.toNat).map fun i => (0 + (i : Nat) : Int)).map V.int := by
          unfold rgV
          rw [Int.sub_zero, List.map_map] <;> rfl
        rw [this]
        have h2 : rngD 0 n.toNat = ((List.range n.toNat).map fun i => (0 + (i : Nat) : Int)).map D.int := by
          unfold rngD
          rw [List.map_map] <;> rfl
        rw [h2]
        exact Reps.ints _
      exact q _ _ _ (s1.trans s2.any) (t1.pure s2) (.tup (.of upd_same) hr)
    · cases e
  · cases e
section
variable {X : Cx} {C : Nat → Addr} {a b : Expr} {ta tb : TE} {f g : FE} {p1 p2 pos pos2 : Pos}
theorem q_rgT (hc : X.calm = true) (hm : X.mg "tuple" = none) (hm2 : X.mg "range" = none) (ha : PD X C a ta f) (hg : Gl X "tuple" := by rfl) (hg2 : Gl X "range" := by rfl) (na : starEach [a] X.env = (false, eval a X.env) :: starEach [] X.env := by rfl)
    (nb : starEach [.Call (.Name "range" p2) [a] [] pos2] X.env = (false, eval (.Call (.Name "range" p2) [a] [] pos2) X.env) :: starEach [] X.env := by rfl) :
    PD X C (.Call (.Name "tuple" p1) [.Call (.Name "range" p2) [a] [] pos2] [] pos) (tTupRg (tRg1 ta)) (rgT f) := ⟨pe_tupRg hc hg hm (prg_1 hg2 hm2 ha.pe na) nb, sd_rgT ha.sd⟩
end

/-! ### dicts with texts for keys -/
def putS : List (Str × D) → Str → D → List (Str × D)
  | [], k, v => [(k, v)]
  | (j, u) :: r, k, v => if j = k then (j, v) :: r else (j, u) :: putS r k v
def getS : List (Str × D) → Str → Option D
  | [], _ => none
  | (j, u) :: r, k => if j = k then some u else getS r k
theorem keyEq (s t : Str) : ((Sum.inr s : Key) = Sum.inr t) ↔ s = t := ⟨fun h => Sum.inr.inj h, fun h => congrArg _ h⟩
def dgE (k : Str) (f : FE) : FE := fun ρ T => (f ρ T).bind fun p => match p.1 with
  | .dic kvs => (getS kvs k).map fun d => (d, p.2)
  | _ => none
theorem getS_ok {K : PySem.W.Frag} {C : Nat → Addr} {G : Hp} : ∀ {kvs : List (Key × V)} {kds : List (Str × D)} {k : Str} {d : D}, Repk K C G kvs kds → getS kds k = some d → ∃ v, valV kvs (.inr k) = some v ∧ Rep K C G v d
  | _, _, _, _, .nil, h => by cases h
  | _, _, k, d, .cons (s := s) a b, h => by
    unfold getS at h
    unfold valV
    split at h
    · rename_i e
      cases h
      subst e
      exact ⟨_, by simp, a⟩
    · rename_i e
      obtain ⟨v, h1, h2⟩ := getS_ok b h
      refine ⟨v, ?_, h2⟩
      unfold valV at h1
      rw [List.find?_cons_of_neg (by simpa using e)]
      exact h1
theorem sd_dg {K : PySem.W.Frag} {C : Nat → Addr} {ta : TE} {f : FE} {k : Str} (h : Sd K C ta f) : Sd K C (tDGet ta (tC (.str k))) (dgE k f) := fun σ ρ T a G H d T' ok e Q q => by
  unfold dgE at e
  obtain ⟨⟨x, T1⟩, e1, e⟩ := Option.bind_eq_some_iff.mp e
  refine h σ ρ T a G H x T1 ok e1 _ fun v G1 H1 s1 t1 r1 => ?_
  split at e
  · rename_i kvs hd
    have hd' : x = .dic kvs := hd
    subst hd'
    obtain ⟨d', e2, e⟩ := Option.map_eq_some_iff.mp e
    cases e
    cases r1 with
    | dic h1 h2 =>
      obtain ⟨w, h3, h4⟩ := getS_ok h2 e2
      exact ⟨_, w, rfl, (show DGet H1 _ (kV (.inr k)) (some w) from h3 ▸ DGet.k (s1.gh _ _ h1)), q w G1 H1 s1 t1 h4⟩
  · cases e
section
variable {X : Cx} {C : Nat → Addr} {a b : Expr} {ta tb : TE} {f g : FE} {p1 p2 pos pos2 : Pos} {k : Nat}
theorem q_dg {s : Str} {j} (hr : Room k X.A) (ha : PD X C a ta f) (hs : NoSl (.Constant (.str s) j p1)) : PD X C (.Subscript a (.Constant (.str s) j p1) pos) (tDGet ta (tC (.str s))) (dgE s f) := ⟨pe_dget (by have := hr.units; omega) ha.pe pe_str hs, sd_dg ha.sd⟩
end
/-- {s: v, t: w, u: x} -/
def dispE (s t u : Str) (f : FL) : FE := fun ρ T => (f ρ T).bind fun p => match p.1 with
  | [x, y, z] => if s ≠ t ∧ s ≠ u ∧ t ≠ u then some (.dic [(s, x), (t, y), (u, z)], p.2) else none
  | _ => none
section
variable {K : PySem.W.Frag} {C : Nat → Addr} {ta tb tc : TE} {f g h : FE}
theorem Step.laid {a : Option Addr} {G H G1 H1 : Hp} {p : Addr} {o o' : HO} (s : Step a G (upd H p o) G1 H1) (e : Ex G H) (hp : H p = none) (ho : H1 p = some o) (hg : G1 p = none) (ha : a ≠ some p) : Step a G H (upd G1 p o') (upd H1 p o') where
  g := fun x u h1 => by
    rw [upd_ne (ne_of_none (e x u h1) hp)]
    exact s.g x u h1
  fr := fun x h1 h2 => by
    have z : x ≠ p := ne_fresh hp h2
    rw [upd_ne z]; exact s.fr x h1 (by rw [upd_ne z]; exact h2)
  tb := fun x h1 => by
    have z : x ≠ p := fun z => by obtain ⟨ps, e, _⟩ := h1; rw [z, hp] at e; cases e
    exact tab_upd (s.tb x (tab_upd h1 z)) z
  h := fun x u h1 h2 h3 => by
    have z : x ≠ p := ne_of_none h1 hp
    rw [upd_ne z]; exact s.h x u (by rw [upd_ne z]; exact h1) h2 h3
  dm := fun x h1 => by
    by_cases z : x = p
    · rw [z, upd_same] at h1; cases h1
    · rw [upd_ne z] at h1
      have := s.dm x h1
      rw [upd_ne z] at this; exact this
  gh := fun x u h1 => by
    by_cases z : x = p
    · rw [z, upd_same] at h1 ⊢; exact h1
    · rw [upd_ne z] at h1 ⊢; exact s.gh x u h1
theorem sd_disp {s t u : Str} {vs : TA} (ha : Sd K C ta f) (hb : Sd K C tb g) (hc : Sd K C tc h) : Sd K C (tDisp [(tC (.str s), ta), (tC (.str t), tb), (tC (.str u), tc)]) (dispE s t u (aC f (aC g (aC h aN)))) := fun σ ρ T a G H d T' ok e Q q => by
  unfold dispE at e
  obtain ⟨⟨ds, T1⟩, e1, e⟩ := Option.bind_eq_some_iff.mp e
  split at e
  · rename_i x y z hd
    have hd' : ds = [x, y, z] := hd
    subst hd'
    split at e
    · rename_i hn
      cases e
      unfold aC aN at e1
      obtain ⟨⟨x', T2⟩, k1, e1⟩ := Option.bind_eq_some_iff.mp e1
      obtain ⟨⟨l1, T3⟩, k2, e1⟩ := Option.map_eq_some_iff.mp e1
      cases e1
      obtain ⟨⟨y', T4⟩, k3, k2⟩ := Option.bind_eq_some_iff.mp k2
      obtain ⟨⟨l2, T5⟩, k4, k2⟩ := Option.map_eq_some_iff.mp k2
      cases k2
      obtain ⟨⟨z', T6⟩, k5, k4⟩ := Option.bind_eq_some_iff.mp k4
      cases k4
      intro p hp
      have na : a ≠ some p := fun z => (ok.tk.there z).1 hp
      have s0 : Step a G H G (upd H p (.dK [])) := .newH ok.gh hp
      have ok0 := ok.step s0 (ok.tk.upd na)
      refine ha σ ρ T a G _ _ T2 ok0 k1 _ fun v G1 H1 s1 t1 r1 => ?_
      refine hb σ ρ T2 a G1 H1 _ T4 (ok0.step s1 t1) k3 _ fun w G2 H2 s2 t2 r2 => ?_
      refine hc σ ρ T4 a G2 H2 _ _ ((ok0.step s1 t1).step s2 t2) k5 _ fun r G3 H3 s3 t3 r3 => ?_
      have st := (s1.trans s2).trans s3
      have hD : H3 p = some (.dK []) := st.h p _ upd_same (fun z => na z.symm) (fun _ z => nomatch z)
      have gD : G3 p = none := st.fr p (ok.gh.none hp) (by rw [upd_same]; exact (fun z => nomatch z))
      refine ⟨hD, [(.inr s, v), (.inr t, w), (.inr u, r)], rfl, (by show 3 ≤ 15; decide), ?_⟩
      have em : mergeK [] [((.inr s : Key), v), (.inr t, w), (.inr u, r)] = [(.inr s, v), (.inr t, w), (.inr u, r)] := by
        have n1 : ¬ ((.inr s : Key) = .inr t) := fun z => hn.1 (Sum.inr.inj z)
        have n2 : ¬ ((.inr s : Key) = .inr u) := fun z => hn.2.1 (Sum.inr.inj z)
        have n3 : ¬ ((.inr t : Key) = .inr u) := fun z => hn.2.2 (Sum.inr.inj z)
        simp [mergeK, putK, n1, n2, n3]
      rw [em]
      have s9 : Step a G H (upd G3 p (.dK [(.inr s, v), (.inr t, w), (.inr u, r)])) (upd H3 p (.dK [(.inr s, v), (.inr t, w), (.inr u, r)])) := st.laid ok.gh hp hD gD na
      have gm : Ex G3 (upd G3 p (.dK [(.inr s, v), (.inr t, w), (.inr u, r)])) := .new gD
      refine q _ _ _ s9 ?_ (.dic upd_same (.cons ((r1.mono (s2.g.trans s3.g)).mono gm) (.cons ((r2.mono s3.g).mono gm) (.cons (r3.mono gm) .nil))))
      unfold Tk at t3 ⊢
      cases T6 with
      | none => cases a with
        | none => trivial
        | some b => exact t3
      | some ts => cases a with
        | none => exact t3
        | some b =>
          obtain ⟨ws, k1, k2, k3⟩ := t3
          have z : b ≠ p := fun z => na (by rw [z])
          exact ⟨ws, by rw [upd_ne z]; exact k1, by rw [upd_ne z]; exact k2, k3.mono gm⟩
    · cases e
  · cases e
end
section
variable {X : Cx} {C : Nat → Addr} {a b c : Expr} {ta tb tc : TE} {f g h : FE} {p1 p2 p3 pos : Pos} {s t u : Str} {j1 j2 j3 : Nat}
theorem q_disp (ha : PD X C a ta f) (hb : PD X C b tb g) (hc : PD X C c tc h) : PD X C (.Dict [some (.Constant (.str s) j1 p1), some (.Constant (.str t) j2 p2), some (.Constant (.str u) j3 p3)] [a, b, c] pos) (tDisp [(tC (.str s), ta), (tC (.str t), tb), (tC (.str u), tc)]) (dispE s t u (aC f (aC g (aC h aN)))) :=
  ⟨pe_disp (pps_cons pe_str ha.pe (pps_cons pe_str hb.pe (pps_cons pe_str hc.pe pps_nil))) rfl rfl (by simp) (by show 3 ≤ 15; decide), sd_disp (vs := tNil) ha.sd hb.sd hc.sd⟩
end
/-! ### comprehensions; the readings in the block may name its context -/
abbrev BK (α : Type) : Type := Shared → Hp → Addr → List (Str × Addr) → List Addr → α
abbrev bk0 {α : Type} (X : Cx) (t : BK α) : α := t (PySem.start X.prog).1 (fun _ => none) 0 [] []
section
variable {X : Cx} {C : Nat → Addr} {c elt tg it : Expr} {te : BK TE} {tt : BK TT} {tgt : BK TG} {f : FE} {fi : FL} {pos : Pos} {wi : TI} {ft : FB} {vs : List Nat} {scope : Scope} {fg : FG}
theorem lcV (own : List (Str × Nat)) (hv : own.map (·.2) = vs) (hc : X.calm = true) (hN : X.N.Nodup) (hi : PID X C tg it wi fi) (ok : BlkOk X.N X.env.scope scope own)
    (hg : ∀ s H A cl fp, PGD (blkX X scope s H A cl fp) C tg vs (tgt s H A cl fp) fg) (he : ∀ s H A cl fp, PD (blkX X scope s H A cl fp) C elt (te s H A cl fp) f)
    (hfi : ∀ x, foldedSetIterable it X.env x = pure x := by intro _; rfl) (kg : ∀ s H A cl fp, tgt s H A cl fp = bk0 X tgt := by exact fun _ _ _ _ _ => rfl) (ke : ∀ s H A cl fp, te s H A cl fp = bk0 X te := by exact fun _ _ _ _ _ => rfl) :
    PLc X C elt tg it [] scope vs (tLc wi (bk0 X tgt) tYes (bk0 X te) vs) (lcE fi fg yesB f vs) := by
  subst hv
  exact lc0 hc hN hi ok (fun s H A cl fp => kg s H A cl fp ▸ hg s H A cl fp) (fun _ h => h) (fun s H A cl fp => ke s H A cl fp ▸ he s H A cl fp) hfi
theorem lcU (own : List (Str × Nat)) (hv : own.map (·.2) = vs) (hc : X.calm = true) (hN : X.N.Nodup) (hi : PID X C tg it wi fi) (ok : BlkOk X.N X.env.scope scope own)
    (hg : ∀ s H A cl fp, PGD (blkX X scope s H A cl fp) C tg vs (tgt s H A cl fp) fg) (ht : ∀ s H A cl fp, PTD (blkX X scope s H A cl fp) C c (tt s H A cl fp) ft) (he : ∀ s H A cl fp, PD (blkX X scope s H A cl fp) C elt (te s H A cl fp) f)
    (hfi : ∀ x, foldedSetIterable it X.env x = pure x := by intro _; rfl) (kg : ∀ s H A cl fp, tgt s H A cl fp = bk0 X tgt := by exact fun _ _ _ _ _ => rfl) (kt : ∀ s H A cl fp, tt s H A cl fp = bk0 X tt := by exact fun _ _ _ _ _ => rfl) (ke : ∀ s H A cl fp, te s H A cl fp = bk0 X te := by exact fun _ _ _ _ _ => rfl) :
    PLc X C elt tg it [c] scope vs (tLc wi (bk0 X tgt) (bk0 X tt) (bk0 X te) vs) (lcE fi fg ft f vs) := by
  subst hv
  exact lcT hc hN hi ok (fun s H A cl fp => kg s H A cl fp ▸ hg s H A cl fp) (fun _ h => h) (fun s H A cl fp => kt s H A cl fp ▸ ht s H A cl fp) (fun s H A cl fp => ke s H A cl fp ▸ he s H A cl fp) hfi
theorem f_lcV (own : List (Str × Nat)) (hv : own.map (·.2) = vs) (hc : X.calm = true) (hN : X.N.Nodup) (hi : PID X C tg it wi fi) (ok : BlkOk X.N X.env.scope scope own)
    (hg : ∀ s H A cl fp, PGD (blkX X scope s H A cl fp) C tg vs (tgt s H A cl fp) fg) (he : ∀ s H A cl fp, PD (blkX X scope s H A cl fp) C elt (te s H A cl fp) f)
    (hfi : ∀ x, foldedSetIterable it X.env x = pure x := by intro _; rfl) (kg : ∀ s H A cl fp, tgt s H A cl fp = bk0 X tgt := by exact fun _ _ _ _ _ => rfl) (ke : ∀ s H A cl fp, te s H A cl fp = bk0 X te := by exact fun _ _ _ _ _ => rfl) :
    PF X C (.ListComp elt [⟨tg, it, [], 0⟩] scope pos) (tLc wi (bk0 X tgt) tYes (bk0 X te) vs) (lcE fi fg yesB f vs) := by
  subst hv
  exact f_lc hc hN hi ok (fun s H A cl fp => kg s H A cl fp ▸ hg s H A cl fp) (fun _ h => h) (fun s H A cl fp => ke s H A cl fp ▸ he s H A cl fp) hfi
theorem f_lcU (own : List (Str × Nat)) (hv : own.map (·.2) = vs) (hc : X.calm = true) (hN : X.N.Nodup) (hi : PID X C tg it wi fi) (ok : BlkOk X.N X.env.scope scope own)
    (hg : ∀ s H A cl fp, PGD (blkX X scope s H A cl fp) C tg vs (tgt s H A cl fp) fg) (ht : ∀ s H A cl fp, PTD (blkX X scope s H A cl fp) C c (tt s H A cl fp) ft) (he : ∀ s H A cl fp, PD (blkX X scope s H A cl fp) C elt (te s H A cl fp) f)
    (hfi : ∀ x, foldedSetIterable it X.env x = pure x := by intro _; rfl) (kg : ∀ s H A cl fp, tgt s H A cl fp = bk0 X tgt := by exact fun _ _ _ _ _ => rfl) (kt : ∀ s H A cl fp, tt s H A cl fp = bk0 X tt := by exact fun _ _ _ _ _ => rfl) (ke : ∀ s H A cl fp, te s H A cl fp = bk0 X te := by exact fun _ _ _ _ _ => rfl) :
    PF X C (.ListComp elt [⟨tg, it, [c], 0⟩] scope pos) (tLc wi (bk0 X tgt) (bk0 X tt) (bk0 X te) vs) (lcE fi fg ft f vs) := by
  subst hv
  exact f_lcT hc hN hi ok (fun s H A cl fp => kg s H A cl fp ▸ hg s H A cl fp) (fun _ h => h) (fun s H A cl fp => kt s H A cl fp ▸ ht s H A cl fp) (fun s H A cl fp => ke s H A cl fp ▸ he s H A cl fp) hfi
end
end TR

/-! A written dict with ints for keys; not in, != on a list of one's own; sorted of tuples of ints. -/
namespace TR
open PySem PySem.Spec PyProof.Rows L2

/-! ### a written dict, int keys -/
def KDI (K : PySem.W.Frag) (a : Addr) (i : Int) (v : V) : Prop :=
  ∃ es n u, K.lookup a = some ⟨.type "dict", none, .dict es n, #[]⟩ ∧ (∀ e ∈ es, ∃ k t, e.key = .int k t ∧ e.hash = hashInt k) ∧ findBy Value.isInt es i = some u ∧ RelV v u
def rIxI (K : PySem.W.Frag) : R2 := fun x y H Q => ∃ p z v, x = .ref p ∧ y = .int z ∧ KDI K p z v ∧ Q v H
theorem ix_kint {X : Cx} : IxR X (rIxI X.K) := by
  intro value slice pins s σ H x y v u Q I rx ry h hs
  obtain ⟨p, z, r, rfl, rfl, ⟨es, n, u0, hl, hk, e, ru⟩, q⟩ := h
  obtain rfl : v = Value.ref p := rx
  obtain ⟨t, rfl⟩ := ry
  have hm : s.heap.MapOf (intKind X.prog X.w) p (fun k => findBy Value.isInt es k) := ⟨_, es, n, I.kIn _ _ hl, ⟨rfl, rfl, rfl⟩, rfl, fun e he => by
    obtain ⟨k, t, e1, e2⟩ := hk e he
    exact ⟨k, by rw [e1]; exact intKind_is X.prog X.w k t, e2⟩, fun _ => rfl⟩
  exact tail_any hm.typeIs PySem.F.slot_dict_getitem.lookup (wpAny_getItem_of (intKind_is X.prog X.w z t) hm e ⟨r, H, I.tok _, ru, q⟩) hs
def undT : Int → Option D
  | 2 => some (.tup [.int 0, .int 1])
  | 3 => some (.tup [.int 0, .int 1, .int 2])
  | 5 => some (.tup [.int 0, .int 1, .int 3, .int 2, .int 4])
  | 7 => some (.tup [.int 0, .int 1, .int 4, .int 5, .int 2, .int 3, .int 6])
  | _ => none
def undO : D → Option D
  | .int i => undT i
  | _ => none
section
variable {X : Cx} {C : Nat → Addr} {a b c e : Expr} {ta tb te : TE} {f g : FE} {pos p px : Pos} {k : Nat} {x : Str}
theorem q_und {q : Addr} (hm : X.mg "UNDONE" = some (.ref q)) (hd : ∀ i d, undT i = some d → ∃ v, KDI X.K q i v ∧ ∀ G, Rep X.K C G v d) (hb : PD X C b tb g) (hg : Gl X "UNDONE" := by rfl) (hs : PlainIx b := by exact fun _ _ => rfl) :
    PD X C (.Subscript (.Name "UNDONE" px) b pos) (tOp (rIxI X.K) (tC (.ref q)) tb) (uO undO g) := ⟨pe_ix ix_kint (pe_glob hg hm rfl (by decide)) hb.pe hs, fun σ ρ T a G H d T' ok e Q qq => by
  unfold uO at e
  obtain ⟨⟨y, T1⟩, e1, e⟩ := Option.bind_eq_some_iff.mp e
  obtain ⟨z, e2, e⟩ := Option.map_eq_some_iff.mp e
  cases e
  refine hb.sd σ ρ T a G H y T1 ok e1 _ fun v G1 H1 s1 t1 r1 => ?_
  unfold undO at e2
  split at e2
  · rename_i i hd0
    have hd1 : y = .int i := hd0
    subst hd1
    cases r1
    obtain ⟨w, h1, h2⟩ := hd _ _ e2
    exact ⟨q, _, w, rfl, rfl, h1, qq w G1 H1 s1 t1 (h2 G1)⟩
  · cases e2⟩

/-! ### a list of one's own as data -/
theorem toPs_all {K : PySem.W.Frag} {G H : Hp} (e : Ex G H) : ∀ {vs : List V} {ds : List D} {xs : List PyData}, Reps K C G vs ds → toPs ds = some xs → DpAll K H vs xs
  | _, _, _, .nil, h => by simp only [toPs] at h; cases h; exact .nil
  | _, _, _, .cons a b, h => by
    simp only [toPs] at h
    obtain ⟨y, h1, h⟩ := Option.bind_eq_some_iff.mp h
    obtain ⟨ys, h2, h⟩ := Option.map_eq_some_iff.mp h
    cases h
    exact .cons (dp_of e a y h1) (toPs_all e b h2)
def ninO (i : Nat) (f : FE) : FE := fun ρ T => (f ρ T).bind fun p => match ρ[i]? with
  | some (.own ds) => (toP p.1).bind fun x => (toPs ds).bind fun xs => if (SeqAt.shaped x && SeqAt.shaped (.list xs)) = true then some (.bl (!xs.any fun z => PyData.eqv z x), p.2) else none
  | _ => none
def neO (i : Nat) (f : FE) : FE := fun ρ T => match ρ[i]? with
  | some (.own ds) => (f ρ T).bind fun p => (toP p.1).bind fun x => (toPs ds).bind fun xs => if (SeqAt.shaped (.list xs) && SeqAt.shaped x) = true then some (.bl (!PyData.eqv (.list xs) x), p.2) else none
  | _ => none
theorem sd_ninO {K : PySem.W.Frag} {i : Nat} (ha : Sd K C ta f) : Sd K C (tOp (rNotInD K) ta (tVar i)) (ninO i f) := fun σ ρ T a G H d T' ok e Q q => by
  unfold ninO at e
  obtain ⟨⟨x, T1⟩, e1, e⟩ := Option.bind_eq_some_iff.mp e
  refine ha σ ρ T a G H x T1 ok e1 _ fun v G1 H1 s1 t1 r1 => ?_
  split at e
  · rename_i ds h0
    obtain ⟨p, e2, e⟩ := Option.bind_eq_some_iff.mp e
    obtain ⟨ps, e3, e⟩ := Option.bind_eq_some_iff.mp e
    split at e
    · rename_i hs
      obtain ⟨z1, z2⟩ := Bool.and_eq_true_iff.mp hs
      cases e
      have ok1 := ok.step s1 t1
      obtain ⟨l, vs, h1, h2, _, _, h5⟩ := ok1.own i ds h0
      exact ⟨_, h1, p, ps, dp_of s1.gh r1 p e2, .lst (.of h2) (toPs_all s1.gh h5 e3), z1, z2, q _ G1 H1 s1 t1 (.bl _)⟩
    · cases e
  · cases e
theorem sd_neO {K : PySem.W.Frag} {i : Nat} (ha : Sd K C ta f) : Sd K C (tOp (rNeD K) (tVar i) ta) (neO i f) := fun σ ρ T a G H d T' ok e Q q => by
  unfold neO at e
  split at e
  · rename_i ds h0
    obtain ⟨⟨x, T1⟩, e1, e⟩ := Option.bind_eq_some_iff.mp e
    obtain ⟨p, e2, e⟩ := Option.bind_eq_some_iff.mp e
    obtain ⟨ps, e3, e⟩ := Option.bind_eq_some_iff.mp e
    split at e
    · rename_i hs
      obtain ⟨z1, z2⟩ := Bool.and_eq_true_iff.mp hs
      cases e
      obtain ⟨l, vs, h1, _⟩ := ok.own i ds h0
      refine ⟨_, h1, ha σ ρ T a G H x T1 ok e1 _ fun v G1 H1 s1 t1 r1 => ?_⟩
      have ok1 := ok.step s1 t1
      obtain ⟨l', vs, k1, h2, _, _, h5⟩ := ok1.own i ds h0
      rw [h1] at k1
      cases k1
      exact ⟨.list ps, p, .lst (.of h2) (toPs_all s1.gh h5 e3), dp_of s1.gh r1 p e2, z1, z2, q _ G1 H1 s1 t1 (.bl _)⟩
    · cases e
  · cases e
theorem q_ninO (i : Nat) (hN : X.N[i]? = some x) (hv : Vis X.env.scope x) (hr : Room k X.A) (ha : PD X C a ta f) (hm : behindInMarks .NotIn (.Name x px) = false := by rfl) (hd : (x == ("__debug__" : Str)) = false := by decide) (hcd : (x == ("__classdict__" : Str)) = false := by decide) :
    PD X C (.Compare a [.NotIn] [.Name x px] pos) (tOp (rNotInD X.K) ta (tVar i)) (ninO i f) := ⟨pe_cmpR (op_notInD (by have := hr.un; omega)) ha.pe (pe_var hN hv hd hcd) hm, sd_ninO ha.sd⟩
theorem t_ninO (i : Nat) (hN : X.N[i]? = some x) (hv : Vis X.env.scope x) (hr : Room k X.A) (ha : PD X C a ta f) (hm : behindInMarks .NotIn (.Name x px) = false := by rfl) (hd : (x == ("__debug__" : Str)) = false := by decide) (hcd : (x == ("__classdict__" : Str)) = false := by decide) :
    PTD X C (.Compare a [.NotIn] [.Name x px] pos) (tTest (tOp (rNotInD X.K) ta (tVar i))) (tst (ninO i f)) := ⟨pt_cmpR (op_notInD (by have := hr.un; omega)) ha.pe (pe_var hN hv hd hcd) hm, sb_test (sd_ninO ha.sd)⟩
theorem t_neO (i : Nat) (hN : X.N[i]? = some x) (hv : Vis X.env.scope x) (hr : Room k X.A) (ha : PD X C a ta f) (hd : (x == ("__debug__" : Str)) = false := by decide) (hcd : (x == ("__classdict__" : Str)) = false := by decide) :
    PTD X C (.Compare (.Name x px) [.NotEq] [a] pos) (tTest (tOp (rNeD X.K) (tVar i) ta)) (tst (neO i f)) := ⟨pt_cmpR (op_neD hr.units) (pe_var hN hv hd hcd) ha.pe (nomark _), sb_test (sd_neO ha.sd)⟩
end

/-! ### sorted of tuples of ints -/
def insC (l : List Int) : List (List Int) → List (List Int)
  | [] => [l]
  | m :: r => if TS.code 16 l ≤ TS.code 16 m then l :: m :: r else m :: insC l r
def sortC (ls : List (List Int)) : List (List Int) := ls.foldr insC []
def asc : List (List Int) → Bool
  | [] => true
  | l :: r => r.all (fun m => decide (TS.code 16 l < TS.code 16 m)) && asc r
def tupI? : D → Option (List Int)
  | .tup ds => ints? ds
  | _ => none
def tupIs? : List D → Option (List (List Int))
  | [] => some []
  | d :: ds => (tupI? d).bind fun l => (tupIs? ds).map fun ls => l :: ls
def sortOk (d : Nat) (ls : List (List Int)) : Bool := decide (1 ≤ d) && decide (ls.length < 64) && ls.all (fun l => decide (l.length = d) && l.all fun i => decide (0 ≤ i) && decide (i < 16)) && (sortC ls).isPerm ls && asc (sortC ls)
def tupL (l : List Int) : D := .tup (l.map .int)
def sortD : List D → Option D
  | [.lst ds] => (tupIs? ds).bind fun ls => if sortOk (ls.headD []).length ls = true then some (.lst ((sortC ls).map tupL)) else none
  | _ => none
theorem tupI?_some {d : D} {l : List Int} (h : tupI? d = some l) : d = tupL l := by
  unfold tupI? at h
  split at h
  · unfold tupL; rw [ints?_some h]
  · cases h
theorem tupIs?_some : ∀ {ds : List D} {ls : List (List Int)}, tupIs? ds = some ls → ds = ls.map tupL
  | [], _, h => by cases h; rfl
  | d :: ds, _, h => by
    unfold tupIs? at h
    obtain ⟨l, h1, h⟩ := Option.bind_eq_some_iff.mp h
    obtain ⟨ls, h2, h⟩ := Option.map_eq_some_iff.mp h
    cases h
    rw [List.map_cons, tupI?_some h1, tupIs?_some h2]
theorem reps_perm {K : PySem.W.Frag} {C : Nat → Addr} {G : Hp} {ys xs : List V} (p : xs.Perm ys) : ∀ {ls : List (List Int)}, Reps K C G xs (ls.map tupL) → ∃ ms : List (List Int), ms.Perm ls ∧ Reps K C G ys (ms.map tupL) := by
  induction p with
  | nil => intro ls h; cases ls with
    | nil => exact ⟨[], .nil, .nil⟩
    | cons l r => cases h
  | cons x p ih => intro ls h; cases ls with
    | nil => cases h
    | cons l r =>
      cases h with
      | cons a b =>
        obtain ⟨ms, h1, h2⟩ := ih b
        exact ⟨l :: ms, .cons l h1, .cons a h2⟩
  | swap x y r => intro ls h; cases ls with
    | nil => cases h
    | cons l ls => cases ls with
      | nil => cases h with
        | cons a b => cases b
      | cons m ls => cases h with
        | cons a b => cases b with
          | cons b c => exact ⟨m :: l :: ls, .swap l m ls, .cons b (.cons a c)⟩
  | trans p q ih1 ih2 =>
    intro ls h
    obtain ⟨ms, h1, h2⟩ := ih1 h
    obtain ⟨ns, h3, h4⟩ := ih2 h2
    exact ⟨ns, h3.trans h1, h4⟩
theorem asc_unique : ∀ {out ms : List (List Int)}, ms.Perm out → asc out = true → ms.Pairwise (fun a b => TS.code 16 a ≤ TS.code 16 b) → ms = out
  | [], ms, p, _, _ => p.eq_nil
  | o :: out, [], p, _, _ => absurd p.symm.eq_nil (by simp)
  | o :: out, m :: ms, p, h, w => by
    unfold asc at h
    obtain ⟨h1, h2⟩ := Bool.and_eq_true_iff.mp h
    obtain ⟨w1, w2⟩ := List.pairwise_cons.mp w
    have e : m = o := by
      have hm : m ∈ o :: out := p.subset List.mem_cons_self
      have ho : o ∈ m :: ms := p.symm.subset List.mem_cons_self
      rcases List.mem_cons.mp hm with e | hm
      · exact e
      · rcases List.mem_cons.mp ho with e | ho
        · exact e.symm
        · have l1 := of_decide_eq_true (List.all_eq_true.mp h1 m hm)
          have l2 := w1 o ho
          omega
    subst e
    rw [asc_unique ((List.perm_cons _).mp p) h2 w2]
def rSortA (K : PySem.W.Frag) : List V → Hp → VK → Prop := fun vs H Q => ∃ d, 1 ≤ d ∧ rSortU K d 16 vs H Q
theorem cr_sortA {X : Cx} : CallR X (.builtin "sorted") (rSortA X.K) := by
  intro pins s σ H vs us Q I r h
  obtain ⟨d, hd, h⟩ := h
  exact cr_sortT hd pins s σ H vs us Q I r h
theorem reps_mem {K : PySem.W.Frag} {C : Nat → Addr} {G : Hp} : ∀ {vs : List V} {ls : List (List Int)} {x : V}, Reps K C G vs (ls.map tupL) → x ∈ vs → ∃ l ∈ ls, Rep K C G x (tupL l)
  | _, [], _, .nil, h => by cases h
  | _, l :: ls, x, .cons a b, h => by
    rcases List.mem_cons.mp h with e | h
    · subst e; exact ⟨l, List.mem_cons_self, a⟩
    · obtain ⟨m, h1, h2⟩ := reps_mem b h
      exact ⟨m, List.mem_cons_of_mem _ h1, h2⟩
theorem rep_tupI {K : PySem.W.Frag} {C : Nat → Addr} {G H : Hp} (e : Ex G H) {v : V} {l : List Int} (h : Rep K C G v (tupL l)) : TupI K H v l := by
  cases h with
  | tup h1 h2 =>
    have := h2.of_ints
    subst this
    exact ⟨_, rfl, ex_t e h1⟩
theorem cd_sort {K : PySem.W.Frag} {C : Nat → Addr} : CD K C (rSortA K) sortD := fun G H xs ds dz e r ez Q q => by
  unfold sortD at ez
  split at ez
  · obtain ⟨ls, h1, h2⟩ := Option.bind_eq_some_iff.mp ez
    have h3 := tupIs?_some h1
    subst h3
    split at h2
    · rename_i hs
      cases h2
      unfold sortOk at hs
      simp only [Bool.and_eq_true, decide_eq_true_eq, List.all_eq_true] at hs
      obtain ⟨⟨⟨⟨s1, s2⟩, s3⟩, s4⟩, s5⟩ := hs
      obtain ⟨v, rfl, r1⟩ := reps1 r
      cases r1 with
      | lst k1 k2 =>
        have hl := k2.length
        rw [List.length_map] at hl
        refine ⟨_, s1, _, _, rfl, .of (e _ _ k1), by rw [hl]; exact s2, fun x hx => ?_, fun ys p hp hpw hn => ?_⟩
        · obtain ⟨l, m1, m2⟩ := reps_mem k2 hx
          obtain ⟨m3, m4⟩ := s3 l m1
          exact ⟨l, rep_tupI e m2, m3, fun i hi => m4 i hi⟩
        · obtain ⟨ms, p1, p2⟩ := reps_perm hp.symm k2
          have pw : ms.Pairwise (fun a b => TS.code 16 a ≤ TS.code 16 b) := by
            clear hp hn p1
            induction ms generalizing ys with
            | nil => exact .nil
            | cons m ms ih =>
              cases p2 with
              | cons a b =>
                obtain ⟨w1, w2⟩ := List.pairwise_cons.mp hpw
                refine List.pairwise_cons.mpr ⟨fun b' hb' => ?_, ih _ w2 b⟩
                obtain ⟨j, hj⟩ := List.getElem?_of_mem hb'
                obtain ⟨y, y1, y2⟩ := b.get (i := j) (d := tupL b') (by rw [List.getElem?_map, hj]; rfl)
                exact w1 y (List.mem_of_getElem? y1) _ _ (rep_tupI e a) (rep_tupI e y2)
          have eq := asc_unique (p1.trans (List.isPerm_iff.mp s4).symm) s5 pw
          subst eq
          exact q _ _ _ (.new e hn) (.lst upd_same (p2.mono (.new (e.none hn))))
    · cases h2
  · cases ez
section
variable {X : Cx} {C : Nat → Addr} {a : Expr} {ta : TE} {f : FE} {pos p : Pos}
theorem q_sorted {t : TA} {fl : FL} (hm : X.mg "sorted" = none) (ha : PAD X C [a] t fl) (hg : Gl X "sorted" := by rfl) (he : starEach [a] X.env = (false, eval a X.env) :: starEach [] X.env := by rfl) (hpl : (backTo pos (starEach [] X.env)).any (·.1) = false := by rfl) :
    PD X C (.Call (.Name "sorted" p) [a] [] pos) (tCB (rSortA X.K) t) (cO sortD fl) := q_bi cr_sortA cd_sort hm (by decide +kernel) ha hg (by decide) (by decide) he hpl
end
end TR

namespace TR
open PySem PySem.Spec PyProof.Rows L2
theorem bt_abs : bootBuiltins "abs" = some (.builtin "abs") := by decide +kernel
theorem bt_all : bootBuiltins "all" = some (.builtin "all") := by decide +kernel
theorem bt_any : bootBuiltins "any" = some (.builtin "any") := by decide +kernel
theorem bt_int : bootBuiltins "int" = some (.type "int") := by decide +kernel
theorem bt_len : bootBuiltins "len" = some (.builtin "len") := by decide +kernel
theorem bt_list : bootBuiltins "list" = some (.type "list") := by decide +kernel
theorem bt_max : bootBuiltins "max" = some (.builtin "max") := by decide +kernel
theorem bt_min : bootBuiltins "min" = some (.builtin "min") := by decide +kernel
theorem bt_sorted : bootBuiltins "sorted" = some (.builtin "sorted") := by decide +kernel
theorem bt_tuple : bootBuiltins "tuple" = some (.type "tuple") := by decide +kernel
theorem mem_ws {xs : List Nat} : ∀ i ∈ xs, i ∈ xs := fun _ h => h
end TR

/-! next((a for a, b in enumerate(e) if b != 0), None), e a tuple of ints: the first place that is not 0, or None. -/
namespace TR
open PySem PySem.Spec PyProof.Rows L2
section
variable {prog : Program} {w : World} {A : Around} {E : Value → Shared → Prop} {s : Shared}
theorem call_next2 {g : Addr} {dflt : Value} {Q : Value → Shared → Prop} (hT : s.TypeIs (.ref g) "generator") (h : wpAny (model prog w) A.in1 (pyNext (.ref g)) (fun r s' => Q (r.getD dflt) s') E s) :
    wpAny (model prog w) A (call (.builtin "next") [.ref g, dflt]) Q E s := by
  refine Calls.call_function_entry (by decide +kernel) (by decide +kernel) PySem.W.kdk_entry_next (PySem.W.kdk_args_next2 _ _) ?_
  unfold Builtin.«next»
  refine wpAny_bind (m := someArgs "next" 1 2 _) (wpAny_of_eq (a := [Value.ref g, dflt]) (by first | rfl | kernel_rfl!) ?_)
  dsimp only
  refine wpAny_bind (wpAny_specialOf (name := Str.ofString "__next__") hT slot_gen_next.lookup ?_)
  refine wpAny_ite_split (fun hab => absurd hab (by decide)) (fun _ => ?_)
  exact wpAny_bind (wpAny_mono h (fun r s' q => wpAny_pure ⟨_, rfl, q⟩) fun _ _ z => z)
end
/-- the generator expression's own scope with two names -/
structure GenS2 (env : Env) (scope : Scope) (x y : Str) : Prop where
  kind : scope.kind = .function
  co : scope.isCoroutine = false
  cell : ∀ y ∈ scope.names, y.2 ≠ .cell
  dot : scope.names.lookup (".0" : Str) = some NameKind.local
  loc : scope.names.lookup x = some .local
  loc2 : scope.names.lookup y = some .local
  ne : x ≠ y
  free : ∀ y ∈ scope.names, y.2 ≠ .free
def nz (ns : List Int) (i : Nat) : Bool := match ns[i]? with
  | some n => n != 0
  | none => false
def leadN (ns : List Int) : List Nat := passing (nz ns) ns.length 0
def leadV : List Nat → V
  | [] => .non
  | i :: _ => .int (i : Nat)
section
variable {X : Cx} {pins : List (Addr × Obj)} {σ : L2.St} {H : Hp} {s : Shared}
theorem gen_lead {c P : Addr} {e : Expr} {x y : Str} {px py pt pe pi p1 p2 p3 p4 gpos : Pos} {kt j : Nat} {scope : Scope} {ta : TA} {k : Nat} {Q' : Value → Shared → Prop} {R : List Int → Hp → Prop}
    (hr : Room k X.A) (TB : GxR.TabB X.base X.mg c P) (hcode : X.env.code = .ref c) (S : GenS2 X.env scope x y) (hg : Gl X "enumerate") (hm : X.mg "enumerate" = none) (ha : PA X [e] ta)
    (hst : starEach [e] X.env = [(false, eval e X.env)]) (hs : ∀ v, genFold (.Call (.Name "enumerate" pe) [e] [] pi) X.env v = pure v)
    (hdx : (x == ("__debug__" : Str)) = false) (hdy : (y == ("__debug__" : Str)) = false)
    (I : Inv X pins σ H s) (h : ta σ H fun vs H1 => ∃ (a : Addr) (ns : List Int), vs = [.ref a] ∧ SqT X.K H1 a (ns.map V.int) ∧ GxR.TabG H1 P ∧ R ns H1)
    (hQ : ∀ ns H1 g (fp wr : List Addr) (G : Array GenState → Array GenState → Prop) (St : Nat → Shared → Prop) (s5 : Shared), R ns H1 → s5.TypeIs (.ref g) "generator" →
      WalksS X.prog X.w X.A.in1 g fp wr G (leadN ns).length (fun j y => ∃ i t, (leadN ns)[j]? = some i ∧ y = .int (i : Nat) t) St → St 0 s5 →
      (∀ s', Moved wr G s5 s' → ∃ H2, GxR.Tabbed P H1 H2 ∧ Inv X pins σ H2 s') → Q' (.ref g) s5) :
    wpAny (model X.prog X.w) X.A (eval (.GeneratorExp (.Name x p1) [⟨.Tuple [.Name x px, .Name y py] kt pt, .Call (.Name "enumerate" pe) [e] [] pi, [.Compare (.Name y p2) [.NotEq] [.Constant (.int 0) j p3] p4], 0⟩] scope gpos) X.env) Q' X.xe s := by
  refine wpAny_GeneratorExp_walksQT hr.hd S.co (closure_ok fun y hy e => absurd e (S.free y hy)) S.cell S.dot S.loc S.loc2 S.ne S.kind (by have := hr.dp; omega) ?_ hs
  refine Call_ (ld_blt I hg hm boot_enumerate (PyProof.Rows.callWith_type1 (thn (ha.run pi pins s σ H _ I h) fun us s1 ⟨vs, H1, I1, r1, q1⟩ => ?_) hst rfl))
  obtain ⟨a, ns, ex, hq, ⟨ps, hP, ht⟩, q1⟩ := q1
  subst ex
  cases r1 with
  | cons r rr =>
    cases rr
    cases r
    obtain ⟨its, rv, p', _, la⟩ := seqX .t I1 hq
    have lens : its.length = ns.length := by rw [← rv.length, List.length_map]
    refine enum_begins1 (beginsX .t a its.toArray) p' fun h2 he hit hsz hk => wpAny_pyIter_enum he ?_
    have hPs : s1.heap.get? P = some { cls := .none, data := .fields ps } := I1.hok P _ hP
    have hPlt : P < s1.heap.objs.size := Heap.lt_size hPs
    have hP2 : h2.get? P = some { cls := .none, data := .fields ps } := hk _ _ hPs
    have cd : PySem.W.CodeHd h2 c P := TB.code.keeps fun b u e => hk _ _ (I1.bk b u e)
    have lim2 : h2.NoLimit := I1.nolimit.keeps hk
    have cont : ∀ (code : Value) (h3 : Heap) (tk : Nat) (ps' : Array Value), Heap.ExtBut P h2 h3 → h2.objs.size ≤ h3.objs.size → h3.get? P = some { cls := .none, data := .fields ps' } → (∃ more, ps' = ps ++ more) → TriplesOk ps'.toList →
        wpAny (model X.prog X.w) X.A (builtinsFor X.env.globals X.env.builtins) (fun bi s₄ =>
          ∃ Ia fp wr n₀ Pt St₀ Mid pz F, Value.ref (s1.heap.objs.size + 1) = .ref Ia ∧ (∀ A' : Around, A'.handled = none → WalksU X.prog X.w A' Ia fp wr n₀ Pt St₀ Mid) ∧ (∀ i vals, Pt i vals → ∃ va vb, vals = #[va, vb]) ∧ St₀ 0 s₄.heap ∧ (∀ b ∈ fp, b < s₄.heap.objs.size) ∧ s₄.heap.NoLimit ∧ cStatics ∉ wr ∧
            (∀ href : Heap, (∀ b o, s₄.heap.get? b = some o → href.get? b = some o) →
              QuietGenT X.prog X.w (genEnv scope (cloFrom X.env.cells scope.names []) s₄.heap.objs.size code bi X.env) x y [.Compare (.Name y p2) [.NotEq] [.Constant (.int 0) j p3] p4] (.Name x p1) (List.range s₄.heap.objs.size) wr Pt pz F href) ∧
            (∀ a h₅ tk gs, gs.bare = true → s₄.heap.objs.size < a → h₅.objs.size = a + 1 → (∀ b o, s₄.heap.get? b = some o → h₅.get? b = some o) →
              WalksS X.prog X.w X.A.in4 a (a :: s₄.heap.objs.size :: List.range s₄.heap.objs.size) (s₄.heap.objs.size :: wr) (GenOnlyQ s₄.gens.size) (passing pz n₀ 0).length
                (fun j y => ∃ i, (passing pz n₀ 0)[j]? = some i ∧ F i y) (GenAt X.prog X.w X.A.in4 a s₄.gens.size s₄.heap.objs.size (List.range s₄.heap.objs.size) wr pz n₀ F) →
              GenAt X.prog X.w X.A.in4 a s₄.gens.size s₄.heap.objs.size (List.range s₄.heap.objs.size) wr pz n₀ F 0 { s₄ with gens := s₄.gens.push gs, toks := tk, heap := h₅ } →
              Q' (.ref a) { s₄ with gens := s₄.gens.push gs, toks := tk, heap := h₅ })) X.xe { s1 with heap := h3, toks := tk } := by
      intro code h3 tk ps' hx hsz3 hP3 hmore ht3
      obtain ⟨bm, ob, e1, e2, e3, e4, e5, e6, e7, e8⟩ := TB.bm
      have hcP : cStatics ≠ P := fun e => by
        obtain ⟨_, hns, _⟩ := I1.nolimit
        obtain ⟨o', es, ep, ho, hd, _⟩ := hns
        rw [e, hPs] at ho
        cases ho
        cases hd
      have hcl : cStatics < s1.heap.objs.size := let ⟨_, hns, _⟩ := I1.nolimit; hns.lt
      have keep3 : ∀ b u, b ≠ P → s1.heap.get? b = some u → h3.get? b = some u := fun b u hb e => hx b u hb (hk _ _ e)
      have gns : ({ s1 with heap := h3, toks := tk } : Shared).heap.Ns X.env.globals X.mg := by
        rw [I1.ok.glob]
        exact ((I1.mod.glob.keeps I1.bk).keeps hk).extBut hx TB.gP
      refine wpAny_builtinsFor (m := X.mg) gns e1 e2 (keep3 _ _ e4 (I1.bk _ _ e5)) e6 e7 e8 ?_
      have hN : a ≠ s1.heap.objs.size := Nat.ne_of_lt la
      have nPN : ∀ b, b = s1.heap.objs.size + 1 ∨ b = s1.heap.objs.size ∨ b = a → b ≠ P := fun b hb z => by
        have l : @LT.lt Nat _ P (s1.heap.objs.size) := hPlt
        rcases hb with w | w | w
        · have q : @Eq Nat P (s1.heap.objs.size + 1) := z.symm.trans w
          omega
        · have q : @Eq Nat P (s1.heap.objs.size) := z.symm.trans w
          omega
        · have q : P = a := z.symm.trans w
          obtain ⟨o', f1, f2, f3⟩ := (show s1.heap.IsTuple a its.toArray from p')
          rw [← q, hPs] at f1
          cases f1
          cases f2
      refine ⟨s1.heap.objs.size + 1, [s1.heap.objs.size + 1, s1.heap.objs.size, a], [s1.heap.objs.size + 1, s1.heap.objs.size], its.toArray.size, _, _, _, nz ns, (fun i v => ∃ t, v = .int (i : Nat) t), rfl,
        (fun A' hA => (WalksT.enumerateD (A := A') (drawsX .t (A := A'.in1) hA s1.heap.objs.size a hN its.toArray) (s1.heap.objs.size + 1) (Nat.succ_ne_self _) (by
          intro z
          rcases List.mem_cons.mp z with z | z
          · exact Nat.succ_ne_self _ z
          · rw [← List.mem_singleton.mp z] at la
            exact absurd la (Nat.not_lt.mpr (Nat.le_succ _))) List.mem_cons_self).toU), ?_, ?_, ?_, lim2.extBut hx hcP, ?_, ?_, ?_⟩
      · rintro i vals ⟨t, x', _, rfl⟩
        exact ⟨_, _, rfl⟩
      · refine ⟨⟨.none, ?_⟩, ?_, ?_⟩
        · exact hx _ _ (nPN _ (.inl rfl)) he
        · exact itX_at (itX_new hit) fun o e => hx _ _ (nPN _ (.inr (.inl rfl))) e
        · have p2 : s1.heap.IsTuple a its.toArray := p'
          obtain ⟨o', f1, f2, f3⟩ := p2
          exact ⟨o', keep3 _ _ (nPN _ (.inr (.inr rfl))) f1, f2, f3⟩
      · intro b hb
        show b < h3.objs.size
        have hb' : b = s1.heap.objs.size + 1 ∨ b = s1.heap.objs.size ∨ b = a := by simpa using hb
        have la' : @LT.lt Nat _ a (s1.heap.objs.size) := la
        have hz3 : (h2.objs.size : Nat) ≤ h3.objs.size := hsz3
        rcases hb' with z | z | z
        · rw [z]; show (s1.heap.objs.size + 1 : Nat) < h3.objs.size; omega
        · rw [z]; show (s1.heap.objs.size : Nat) < h3.objs.size; omega
        · rw [z]; show @LT.lt Nat _ a (h3.objs.size); omega
      · intro z
        have hb' : cStatics = s1.heap.objs.size + 1 ∨ cStatics = s1.heap.objs.size := by simpa using z
        have hcl' : @LT.lt Nat _ cStatics (s1.heap.objs.size) := hcl
        rcases hb' with z | z
        · have z : @Eq Nat cStatics (s1.heap.objs.size + 1) := z
          omega
        · have z : @Eq Nat cStatics (s1.heap.objs.size) := z
          omega
      · intro href hhref
        refine ⟨fun A' E' i va vb s₂ m₂ hA hPv hn hm1 hm2 hk' => ?_, fun A' E' i va vb s₂ m₂ hA hPv hp hn hm1 hm2 hk' => ?_⟩
        · obtain ⟨t, x', hx', hv⟩ := hPv
          have hv' : va = .int i t ∧ vb = x' := by
            have := congrArg Array.toList hv
            simp at this
            exact this
          obtain ⟨rfl, rfl⟩ := hv'
          have hx2 : its[i]? = some vb := by simpa using hx'
          have hi : i < ns.length := by
            have := (List.getElem?_eq_some_iff.mp hx2).1
            omega
          obtain ⟨n, hn0⟩ : ∃ n, ns[i]? = some n := ⟨_, List.getElem?_eq_getElem hi⟩
          obtain ⟨v0, hv0, rv0⟩ := rv.get (x := V.int n) (i := i) (by rw [List.getElem?_map, hn0]; rfl)
          rw [hx2] at hv0
          cases hv0
          obtain ⟨u, rfl⟩ := rv0
          refine wpAny_tests_one (wpAny_isTrue_Compare1 ?_)
          refine wpAny_Name (wpAny_loadName_local S.kind S.loc2 hn hm2 ?_) hdy
          refine wpAny_Constant_int ?_
          refine PyProof.Rows.ne_int ?_
          refine wpAny_truthy_bool ⟨?_, GxR.keeps_tok _ _⟩
          unfold nz
          rw [hn0]
        · obtain ⟨t, x', hx', hv⟩ := hPv
          have hv' : va = .int i t ∧ vb = x' := by
            have := congrArg Array.toList hv
            simp at this
            exact this
          obtain ⟨rfl, rfl⟩ := hv'
          refine wpAny_Name (wpAny_loadName_local S.kind S.loc hn hm1 ?_) hdx
          exact ⟨⟨_, rfl⟩, GxR.keeps_refl _⟩
      · intro g h5 tk5 gs hgb hag hsz5 hk5 W5 hat
        have hg0 := hat.1
        have ls : its.toArray.size = ns.length := by rw [List.size_toArray]; exact lens
        rw [ls] at W5 hat
        refine hQ ns H1 g _ _ _ _ _ q1 ?_ (WalksS.imp W5.in4_1 fun j y ⟨i, h1, t, h2⟩ => ⟨i, t, h1, h2⟩) hat (fun s' hm => ?_)
        · obtain ⟨u1, u2, u3, q1, q2, _⟩ := hg0
          exact ⟨_, q1, q2⟩
        · obtain ⟨more, em⟩ := hmore
          have nwr : ∀ b u, s1.heap.get? b = some u → b ∉ h3.objs.size :: [s1.heap.objs.size + 1, s1.heap.objs.size] := fun b u e hb => by
            have hl : @LT.lt Nat _ b (s1.heap.objs.size) := Heap.lt_size e
            have hz3 : (h2.objs.size : Nat) ≤ h3.objs.size := hsz3
            have hb' : b = h3.objs.size ∨ b = s1.heap.objs.size + 1 ∨ b = s1.heap.objs.size := by simpa using hb
            rcases hb' with z | z | z
            · have z : @Eq Nat b (h3.objs.size) := z
              omega
            · have z : @Eq Nat b (s1.heap.objs.size + 1) := z
              omega
            · have z : @Eq Nat b (s1.heap.objs.size) := z
              omega
          have J := GxR.inv_tab (more := more) (h' := s'.heap) (g' := s'.gens) (d' := s'.drawn) (t' := s'.toks) I1 hP (fun b u hb e => hm.heap b u (nwr b u e) (hk5 b u (keep3 b u hb e)))
            (by rw [← em]; exact hm.heap P _ (nwr P _ hPs) (hk5 P _ hP3)) (AllBare.movedS (I1.bare.push hgb) hm)
          rw [GxR.sh_eta s1 s' hm.os] at J
          refine ⟨upd H1 P (.tbl (ps ++ more)), ⟨⟨ps ++ more, upd_same, by rw [← em]; exact ht3⟩, fun b hb => upd_ne hb⟩, J⟩
    refine ⟨lim2, ?_⟩
    cases hf : codeAmong gpos ps.toList with
    | none =>
      refine wpAny_genexprCodeX hcode (cd.code hP2 ht) (cd.tab hP2) hf fun c' h' tk hx hge hlt hco' _ htab' _ => ?_
      obtain ⟨o1, vs, f1, tf, fl, tg, inF, tx, tt, op, _, _, _, _, _, _, _, _, _, htr, _⟩ := hco'
      exact cont _ h' tk _ hx (Nat.le_trans hge (Nat.le_of_lt hlt)) htab'.2 ⟨_, rfl⟩ htr
    | some cv =>
      refine wpAny_genexprCode_hit hcode (cd.code hP2 ht) hf ?_
      exact cont cv h2 s1.toks ps (Heap.ExtBut.refl _ _) (Nat.le_refl _) hP2 ⟨#[], by simp⟩ ht
/-- the first place that is not 0; behind it the def's table may have grown -/
def tLead (K : PySem.W.Frag) (P : Addr) (ta : TA) : TE := fun σ H Q => ta σ H fun vs H1 => ∃ (a : Addr) (ns : List Int), vs = [.ref a] ∧ SqT K H1 a (ns.map V.int) ∧ GxR.TabG H1 P ∧ ∀ H2, GxR.Tabbed P H1 H2 → Q (leadV (leadN ns)) H2
theorem pe_lead {c P : Addr} {e : Expr} {x y : Str} {px py pt pe pi p1 p2 p3 p4 p5 p6 pos gpos : Pos} {kt j j2 : Nat} {scope : Scope} {ta : TA} {k : Nat}
    (hr : Room k X.A) (TB : GxR.TabB X.base X.mg c P) (hcode : X.env.code = .ref c) (S : GenS2 X.env scope x y) (hg : Gl X "enumerate") (hm : X.mg "enumerate" = none) (hg2 : Gl X "next") (hm2 : X.mg "next" = none) (ha : PA X [e] ta)
    (hst : starEach [e] X.env = [(false, eval e X.env)]) (hs : ∀ v, genFold (.Call (.Name "enumerate" pe) [e] [] pi) X.env v = pure v)
    (hdx : (x == ("__debug__" : Str)) = false) (hdy : (y == ("__debug__" : Str)) = false)
    (he : ∀ gen : Expr, gen = (.GeneratorExp (.Name x p1) [⟨.Tuple [.Name x px, .Name y py] kt pt, .Call (.Name "enumerate" pe) [e] [] pi, [.Compare (.Name y p2) [.NotEq] [.Constant (.int 0) j p3] p4], 0⟩] scope gpos) →
      starEach [gen, .Constant .none j2 p5] X.env = (false, eval gen X.env) :: (false, eval (.Constant .none j2 p5) X.env) :: []) :
    PE X (.Call (.Name "next" p6) [.GeneratorExp (.Name x p1) [⟨.Tuple [.Name x px, .Name y py] kt pt, .Call (.Name "enumerate" pe) [e] [] pi, [.Compare (.Name y p2) [.NotEq] [.Constant (.int 0) j p3] p4], 0⟩] scope gpos, .Constant .none j2 p5] [] pos) (tLead X.K P ta) := by
  refine ⟨fun pins s σ H Q I h => ?_⟩
  have he := he _ rfl
  refine wpAny_Call_Name_kw (ld_blt (u := .builtin "next") I hg2 hm2 (by decide +kernel) ?_ (by decide) (by decide))
  refine Calls.callWith_builtin (by rw [he]; rfl) (Calls.evalArgs_plain ?_)
  show wpAny _ _ (spliced [(false, eval (.GeneratorExp (.Name x p1) [⟨.Tuple [.Name x px, .Name y py] kt pt, .Call (.Name "enumerate" pe) [e] [] pi, [.Compare (.Name y p2) [.NotEq] [.Constant (.int 0) j p3] p4], 0⟩] scope gpos) X.env), (false, eval (.Constant .none j2 p5) X.env)]) _ _ _
  refine Calls.spliced_cons (gen_lead (R := fun ns H1 => ∀ H2, GxR.Tabbed P H1 H2 → Q (leadV (leadN ns)) H2) hr TB hcode S hg hm ha hst hs hdx hdy I h fun ns H1 g fp wr G St s5 hR hT W h0 hI => ?_)
  refine Calls.spliced_cons (Constant_none ?_)
  refine Calls.spliced_nil ?_
  refine call_next2 hT ?_
  cases hl : leadN ns with
  | nil =>
    have hz : (leadN ns).length = 0 := by rw [hl]; rfl
    rw [hz] at W
    refine W.done _ _ _ h0 fun s' hm => ?_
    obtain ⟨H2, t, J⟩ := hI s' hm
    have := hR H2 t
    rw [hl] at this
    exact ⟨.non, H2, J, rfl, this⟩
  | cons i r =>
    refine W.item 0 _ _ _ (by rw [hl]; exact Nat.succ_pos _) h0 fun v s' hv _ hm => ?_
    obtain ⟨i', t, hi, rfl⟩ := hv
    rw [hl] at hi
    cases hi
    obtain ⟨H2, t', J⟩ := hI s' hm
    have := hR H2 t'
    rw [hl] at this
    exact ⟨.int (i : Nat), H2, J, ⟨_, rfl⟩, this⟩
end
/-! ### lead_of -/
def leadO : List D → Option D
  | [.tup ds] => (ints? ds).map fun ns => match leadN ns with
    | [] => .non
    | i :: _ => .int (i : Nat)
  | _ => none
/-- lead_of's object, with its code object -/
structure FxL (K : PySem.W.Frag) (mg : Str → Option Value) (base : Heap) (C : Nat → Addr) (x : Str) (st : Stmt) (ps : List Str) : Prop where
  ex : ∃ (f c : Addr) (oc : Value) (od : Option Addr) (kV doc pm : Value) (an : Option Addr) (ct : Value) (osl : Array (Option Value)),
    K.lookup f = some ⟨oc, od, .func (PySem.W.fnOf x x (defArgs st) (defBody st) (defScope st) .none kV doc pm an (.ref c) ct), osl⟩ ∧ PySem.W.codeIn K (.ref c) x = true ∧ PySem.W.keepIn K (.ref f) = true ∧ mg x = some (.ref f) ∧
    Binds K (PySem.W.fnOf x x (defArgs st) (defBody st) (defScope st) .none kV doc pm an (.ref c) ct) ps [] ∧ GxR.TabB base mg c (C 9)
def N_lead_of : List Str := ["row", "place", "one"]
theorem S_lead_of : FnScope N_lead_of ["row"] (defScope (topS 30)) := ⟨rfl, rfl, rfl, by decide +kernel, rfl, by decide +kernel, by decide +kernel⟩
def F_lead_of : List D → Option D := leadO
section
variable {P : Program} {w : World} {K : PySem.W.Frag} {mg : Str → Option Value} {base : Heap} {C : Nat → Addr}
theorem Step.tabbed {a : Option Addr} {G H H2 : Hp} {p : Addr} (e : Ex G H) (hg : G p = none) (h : GxR.Tabbed p H H2) (hp : GxR.TabG H p) : Step a G H G H2 where
  g := .refl _
  fr := fun x h1 _ => h1
  h := fun x o h1 _ hn => by
    have z : x ≠ p := fun z => by
      obtain ⟨ps, q, _⟩ := hp
      rw [z, q] at h1
      exact hn ps (Option.some.inj h1).symm
    rw [h.2 x z]; exact h1
  tb := fun x h1 => by
    by_cases z : x = p
    · rw [z]; exact h.1
    · obtain ⟨ps, q, t⟩ := h1
      exact ⟨ps, by rw [h.2 x z]; exact q, t⟩
  dm := fun x h1 => by
    by_cases z : x = p
    · obtain ⟨ps, q, _⟩ := h.1
      rw [z, q] at h1
      cases h1
    · rw [← h.2 x z]; exact h1
  gh := fun x o h1 => by
    have z : x ≠ p := fun z => by rw [z, hg] at h1; cases h1
    rw [h.2 x z]; exact e x o h1
theorem k_lead_of (L : FxL K mg base C "lead_of" (topS 30) ["row"]) (hm : mg "enumerate" = none) (hm2 : mg "next" = none) : Kn P w K mg base "lead_of" 1 ["row"] (spP K C F_lead_of) := by
  obtain ⟨f, c, oc, od, kV, doc, pm, an, ct, osl, lk, hcd, kp, g, b, TB⟩ := L.ex
  refine ⟨f, _, fn_of lk hcd S_lead_of (fun vs H Q E h => ?_) (fun A outer s H vs Q E hr h => ?_), g, kp, b⟩
  · obtain ⟨G, ds, d, e, tb, r, hf, q⟩ := h
    unfold F_lead_of leadO at hf
    split at hf
    · rw [r.length]; rfl
    · cases hf
  · refine ⟨_, PSs.nox (pss_one (ps_ret (pe_lead hr TB rfl ⟨rfl, rfl, by decide +kernel, rfl, rfl, rfl, by decide, by decide +kernel⟩ rfl hm rfl hm2 (pa_cons (pe_var (i := 0) rfl (Or.inl rfl) (by decide) (by decide)) pa_nil rfl) rfl (fun _ => rfl) (by decide) (by decide) (fun gen e => by subst e; rfl)))), ?_⟩
    obtain ⟨G, ds, d, e, tb, r, hf, q⟩ := h
    unfold F_lead_of leadO at hf
    split at hf
    · rename_i ds'
      obtain ⟨ns, h1, h2⟩ := Option.map_eq_some_iff.mp hf
      have h3 := ints?_some h1
      subst h3
      obtain ⟨v, rfl, r1⟩ := reps1 r
      cases r1 with
      | tup h4 h5 =>
        have h6 := h5.of_ints
        subst h6
        refine ⟨_, rfl, _, ns, rfl, ex_t e h4, tb.h, fun H2 t => ?_⟩
        refine q _ G H2 (.tabbed e tb.g t tb.h) ?_
        cases hl : leadN ns with
        | nil => rw [hl] at h2; cases h2; exact .non
        | cons i r => rw [hl] at h2; cases h2; exact .int _
    · cases hf
end
end TR

/-! Objects with slots at the data level: fields, methods, properties, making. -/
namespace TR
open PySem PySem.Spec PyProof.Rows L2

/-- the slot f of the k-th class, its place i -/
structure FldK (K : PySem.W.Frag) (C : Nat → Addr) (k : Nat) (f : Str) (i : Nat) : Prop where
  sc : SlX.SCls K (C k)
  sl : ∃ p, SlX.Slot1 K (C k) f p i
def fldD (k i : Nat) : D → Option D
  | .obj j fs => if j = k then fs[i]? else none
  | _ => none
section
variable {K : PySem.W.Frag} {C : Nat → Addr} {ta : TE} {f : FE}
theorem rep_obj {G H : Hp} (e : Ex G H) {v : V} {k : Nat} {fs : List D} (r : Rep K C G v (.obj k fs)) : ∃ a dx vs, v = .ref a ∧ SlX.Slt H a (C k) dx (vs.map some) ∧ Reps K C G vs fs := by
  cases r with
  | obj h1 h2 => exact ⟨_, _, _, rfl, ex_s e h1, h2⟩
theorem sd_fld {k i : Nat} {n : Str} (F : FldK K C k n i) (ha : Sd K C ta f) : Sd K C (SlX.tSl K ta n) (uO (fldD k i) f) := fun σ ρ T a G H d T' ok e Q q => by
  unfold uO at e
  obtain ⟨⟨x, T1⟩, e1, e⟩ := Option.bind_eq_some_iff.mp e
  obtain ⟨z, e3, e⟩ := Option.map_eq_some_iff.mp e
  cases e
  refine ha σ ρ T a G H x T1 ok e1 _ fun v G1 H1 s1 t1 r1 => ?_
  unfold fldD at e3
  split at e3
  · rename_i j fs hd
    have hd' : x = .obj j fs := hd
    subst hd'
    split at e3
    · rename_i hj
      subst hj
      obtain ⟨a', dx, vs, rfl, hs, hr⟩ := rep_obj s1.gh r1
      obtain ⟨w, h1, h2⟩ := hr.get e3
      obtain ⟨p, sl⟩ := F.sl
      exact ⟨a', _, dx, p, _, i, w, rfl, hs, F.sc, sl, by rw [List.getElem?_map, h1]; rfl, q w G1 H1 s1 t1 h2⟩
    · cases e3
  · cases e3
end
section
variable {X : Cx} {C : Nat → Addr} {e : Expr} {ta : TE} {f : FE} {pos : Pos}
theorem q_fld {k i : Nat} {n : Str} (F : FldK X.K C k n i) (ha : PD X C e ta f) (hb : attributeBase e n X.env (eval e X.env) = eval e X.env := by rfl) : PD X C (.Attribute e n pos) (SlX.tSl X.K ta n) (uO (fldD k i) f) := ⟨SlX.pe_sl ha.pe hb, sd_fld F ha.sd⟩
end

/-! ### methods -/
/-- a method of the k-th class that is known -/
structure KnM (P : Program) (w : World) (K : PySem.W.Frag) (mg : Str → Option Value) (base : Heap) (C : Nat → Addr) (k : Nat) (m : Str) (n : Nat) (sp : Sp) : Prop where
  ex : ∃ g, Meth K (C k) m g ∧ FnR P w K mg base CX0 n g sp
  sc : SlX.SCls K (C k)
/-- a method's object, as it stands behind the top -/
structure FxM (K : PySem.W.Frag) (C : Nat → Addr) (k : Nat) (m qual : Str) (st : Stmt) (ps : List Str) : Prop where
  ex : ∃ f fd, Fun K m qual st f fd ∧ Meth K (C k) m f ∧ Binds K fd ps []
  sc : SlX.SCls K (C k)
def mO (k : Nat) (F : List D → Option D) (f : FE) (g : FL) : FE := fun ρ T => (f ρ T).bind fun p => match p.1 with
  | .obj j fs => if j = k then (g ρ p.2).bind fun q => (F (.obj j fs :: q.1)).map fun z => (z, q.2) else none
  | _ => none
section
variable {K : PySem.W.Frag} {C : Nat → Addr} {ta : TE} {f : FE} {t : TA} {g : FL}
theorem sd_meth {k : Nat} {F : List D → Option D} (ha : Sd K C ta f) (hg : Sa K C t g) : Sd K C (SlX.tMethSl (C k) (spP K C F) E0 ta t) (mO k F f g) := fun σ ρ T a G H d T' ok e Q q => by
  unfold mO at e
  obtain ⟨⟨x, T1⟩, e1, e0⟩ := Option.bind_eq_some_iff.mp e
  clear e
  refine ha σ ρ T a G H x T1 ok e1 _ fun v G1 H1 s1 t1 r1 => ?_
  split at e0
  · rename_i j fs hd
    have hd' : x = .obj j fs := hd
    subst hd'
    split at e0
    · rename_i hj
      subst hj
      obtain ⟨⟨ds, T2⟩, e2, e4⟩ := Option.bind_eq_some_iff.mp e0
      obtain ⟨z, e3, e5⟩ := Option.map_eq_some_iff.mp e4
      cases e5
      obtain ⟨a', dx, vs, rfl, hs, hr⟩ := rep_obj s1.gh r1
      have ok1 := ok.step s1 t1
      refine ⟨a', dx, _, rfl, hs, hg σ ρ T1 a G1 H1 ds T2 ok1 e2 _ fun ws G2 H2 s2 t2 r2 => ?_⟩
      exact ⟨G2, _, _, s2.gh, (ok1.step s2 t2).tb, .cons (r1.mono s2.g) r2, e3, fun v G3 H3 s3 r3 => q v G3 H3 ((s1.trans s2).trans s3.any) (t2.pure s3) r3⟩
    · cases e0
  · cases e0
theorem sd_prop {k : Nat} {F : List D → Option D} (ha : Sd K C ta f) : Sd K C (SlX.tPropSl (C k) (spP K C F) E0 ta) (mO k F f aN) := fun σ ρ T a G H d T' ok e Q q => by
  unfold mO at e
  obtain ⟨⟨x, T1⟩, e1, e0⟩ := Option.bind_eq_some_iff.mp e
  clear e
  refine ha σ ρ T a G H x T1 ok e1 _ fun v G1 H1 s1 t1 r1 => ?_
  split at e0
  · rename_i j fs hd
    have hd' : x = .obj j fs := hd
    subst hd'
    split at e0
    · rename_i hj
      subst hj
      obtain ⟨⟨ds, T2⟩, e2, e4⟩ := Option.bind_eq_some_iff.mp e0
      obtain ⟨z, e3, e5⟩ := Option.map_eq_some_iff.mp e4
      cases e2; cases e5
      obtain ⟨a', dx, vs, rfl, hs, hr⟩ := rep_obj s1.gh r1
      exact ⟨a', dx, _, rfl, hs, G1, _, _, s1.gh, (ok.step s1 t1).tb, .cons r1 .nil, e3, fun v G3 H3 s3 r3 => q v G3 H3 (s1.trans s3.any) (t1.pure s3) r3⟩
    · cases e0
  · cases e0
end
section
variable {X : Cx} {C : Nat → Addr} {o e : Expr} {es : List Expr} {ta : TE} {f : FE} {t : TA} {fl : FL} {pos apos : Pos} {k n : Nat} {m : Str} {pl : Sem Bool}
theorem q_meth {F : List D → Option D} (M : KnM X.prog X.w X.K X.mg X.base C k m n (spP X.K C F)) (hr : Room n X.A) (ho : PD X C o ta f) (ha : PAD X C (e :: es) t fl)
    (hst : starEach (e :: es) X.env = (false, eval e X.env) :: starEach es X.env := by rfl) (hpl : (backTo pos (starEach es X.env)).any (·.1) = false := by rfl)
    (ht : eval (.Call (.Attribute o m apos) (e :: es) [] pos) X.env = (do
      let ov ← eval o X.env
      standAt apos.atName
      let (f, first) ← holding [ov] (getMethod ov m pl)
      callWith pos f first (backTo pos (starEach (e :: es) X.env)) (backToKw pos (keywordEach [] X.env))) := by rfl) :
    PD X C (.Call (.Attribute o m apos) (e :: es) [] pos) (SlX.tMethSl (C k) (spP X.K C F) E0 ta t) (mO k F f fl) := by
  obtain ⟨g, hm, hf⟩ := M.ex
  exact ⟨SlX.pe_methSl ho.pe M.sc hm hf hr pass0 ha.pe hst hpl ht, sd_meth ho.sd ha.sd⟩
end
/-- a property of the k-th class that is known -/
structure KnP (P : Program) (w : World) (K : PySem.W.Frag) (mg : Str → Option Value) (base : Heap) (C : Nat → Addr) (k : Nat) (m : Str) (n : Nat) (sp : Sp) : Prop where
  ex : ∃ g p, PySem.W.findIn K (.ref (C k)) m = some (some (.ref p)) ∧ PySem.W.specialIn K (.ref p) "__get__" = some (some (.builtin "property.__get__")) ∧ PySem.W.takesIn K (.ref p) = some true ∧ (∃ rest, PySem.W.recIn K p "property" = some (.ref g :: rest)) ∧ FnR P w K mg base CX0 n g sp
  sc : SlX.SCls K (C k)
structure FxP (K : PySem.W.Frag) (C : Nat → Addr) (k : Nat) (m qual : Str) (st : Stmt) (ps : List Str) : Prop where
  ex : ∃ f fd p, Fun K m qual st f fd ∧ PySem.W.findIn K (.ref (C k)) m = some (some (.ref p)) ∧ PySem.W.specialIn K (.ref p) "__get__" = some (some (.builtin "property.__get__")) ∧ PySem.W.takesIn K (.ref p) = some true ∧ (∃ rest, PySem.W.recIn K p "property" = some (.ref f :: rest)) ∧ Binds K fd ps []
  sc : SlX.SCls K (C k)
section
variable {X : Cx} {C : Nat → Addr} {o : Expr} {ta : TE} {f : FE} {pos : Pos} {k n : Nat} {m : Str}
theorem q_prop {F : List D → Option D} (M : KnP X.prog X.w X.K X.mg X.base C k m n (spP X.K C F)) (hr : Room (n + 1) X.A) (ho : PD X C o ta f) (hb : attributeBase o m X.env (eval o X.env) = eval o X.env := by rfl) :
    PD X C (.Attribute o m pos) (SlX.tPropSl (C k) (spP X.K C F) E0 ta) (mO k F f aN) := by
  obtain ⟨g, p, h1, h2, h3, h4, hf⟩ := M.ex
  exact ⟨SlX.pe_propSl ho.pe M.sc h1 h2 h3 h4 hf hr (fun _ _ _ _ h => h) hb, sd_prop ho.sd⟩
end
section
variable {P : Program} {w : World} {K : PySem.W.Frag} {mg : Str → Option Value} {base : Heap} {C : Nat → Addr} {m qual : Str} {st : Stmt} {N ps : List Str} {k j : Nat}
theorem kn_M {fs : FS} {n l : Nat} (F : FxM K C j m qual st ps) (S : FnScope N ps (defScope st)) (hn : N.length = n) (hm : ps.length = l) (hb : Bd P w K mg base C N qual st k fs) : KnM P w K mg base C j m (k + 1) (spP K C (runP n l fs)) := by
  obtain ⟨f, fd, F1, g, b⟩ := F.ex
  subst hn hm
  have hpl : ps.length ≤ N.length := by have := congrArg List.length S.pre; rw [List.length_take] at this; omega
  refine ⟨⟨f, g, ?_⟩, F.sc⟩
  have ok : FnOk P w K mg base CX0 (k + 1) f fd ps (spP K C (runP N.length ps.length fs)) := F1.ok S (fun vs H Q E h => spP_len h) (fun cdv A outer s H vs Q E hr h => let ⟨t, z⟩ := hb f cdv A outer s H E hr; ⟨t, z.ps, body_P z.ss hpl h⟩)
  exact (ok.raw b .nil).imp fun vs H Q E h => by rw [List.append_nil]; exact h
theorem kn_Pr {fs : FS} {n l : Nat} (F : FxP K C j m qual st ps) (S : FnScope N ps (defScope st)) (hn : N.length = n) (hm : ps.length = l) (hb : Bd P w K mg base C N qual st k fs) : KnP P w K mg base C j m (k + 1) (spP K C (runP n l fs)) := by
  obtain ⟨f, fd, p, F1, g1, g2, g3, g4, b⟩ := F.ex
  subst hn hm
  have hpl : ps.length ≤ N.length := by have := congrArg List.length S.pre; rw [List.length_take] at this; omega
  refine ⟨⟨f, p, g1, g2, g3, g4, ?_⟩, F.sc⟩
  have ok : FnOk P w K mg base CX0 (k + 1) f fd ps (spP K C (runP N.length ps.length fs)) := F1.ok S (fun vs H Q E h => spP_len h) (fun cdv A outer s H vs Q E hr h => let ⟨t, z⟩ := hb f cdv A outer s H E hr; ⟨t, z.ps, body_P z.ss hpl h⟩)
  exact (ok.raw b .nil).imp fun vs H Q E h => by rw [List.append_nil]; exact h
end

/-! ### making -/
section
variable (K : PySem.W.Frag) (C : Nat → Addr) (G : Hp)
inductive RepO : List (Option V) → List (Option D) → Prop
  | nil : RepO [] []
  | no {vs : List (Option V)} {fs : List (Option D)} : RepO vs fs → RepO (none :: vs) (none :: fs)
  | so {v : V} {d : D} {vs : List (Option V)} {fs : List (Option D)} : Rep K C G v d → RepO vs fs → RepO (some v :: vs) (some d :: fs)
end
def putO (i : Nat) (d : D) (fs : List (Option D)) : List (Option D) := (fs ++ List.replicate (i + 1 - fs.length) none).set i (some d)
section
variable {K : PySem.W.Frag} {C : Nat → Addr} {G G' : Hp}
theorem RepO.mono (e : Ex G G') : ∀ {vs : List (Option V)} {fs : List (Option D)}, RepO K C G vs fs → RepO K C G' vs fs
  | _, _, .nil => .nil
  | _, _, .no b => .no (RepO.mono e b)
  | _, _, .so a b => .so (a.mono e) (RepO.mono e b)
theorem RepO.length : ∀ {vs : List (Option V)} {fs : List (Option D)}, RepO K C G vs fs → vs.length = fs.length
  | _, _, .nil => rfl
  | _, _, .no b => congrArg (· + 1) (RepO.length b)
  | _, _, .so a b => congrArg (· + 1) (RepO.length b)
theorem RepO.nones : ∀ n : Nat, RepO K C G (List.replicate n none) (List.replicate n none)
  | 0 => .nil
  | n + 1 => .no (RepO.nones n)
theorem RepO.append : ∀ {vs ws : List (Option V)} {fs gs : List (Option D)}, RepO K C G vs fs → RepO K C G ws gs → RepO K C G (vs ++ ws) (fs ++ gs)
  | _, _, _, _, .nil, s => s
  | _, _, _, _, .no b, s => .no (RepO.append b s)
  | _, _, _, _, .so a b, s => .so a (RepO.append b s)
theorem RepO.set {v : V} {d : D} (r : Rep K C G v d) : ∀ {vs : List (Option V)} {fs : List (Option D)} (i : Nat), RepO K C G vs fs → RepO K C G (vs.set i (Option.some v)) (fs.set i (Option.some d))
  | _, _, _, .nil => .nil
  | _, _, 0, .no b => .so r b
  | _, _, 0, .so _ b => .so r b
  | _, _, i + 1, .no b => .no (RepO.set r i b)
  | _, _, i + 1, .so a b => .so a (RepO.set r i b)
theorem RepO.put {vs : List (Option V)} {fs : List (Option D)} (h : RepO K C G vs fs) (i : Nat) {v : V} {d : D} (r : Rep K C G v d) : RepO K C G (SlX.putS i v vs) (putO i d fs) := by
  unfold SlX.putS putO
  rw [h.length]
  exact (h.append (.nones _)).set r i
def allO : List (Option D) → Option (List D)
  | [] => some []
  | none :: _ => none
  | some d :: r => (allO r).map fun ds => d :: ds
theorem RepO.all : ∀ {vs : List (Option V)} {fs : List (Option D)} {ds : List D}, RepO K C G vs fs → allO fs = some ds → ∃ ws, vs = ws.map Option.some ∧ Reps K C G ws ds
  | _, _, _, .nil, h => by cases h; exact ⟨[], rfl, .nil⟩
  | _, _, _, .no b, h => by cases h
  | _, _, _, .so a b, h => by
    obtain ⟨es, h1, h2⟩ := Option.map_eq_some_iff.mp (show (allO _).map _ = some _ from h)
    subst h2
    obtain ⟨ws, e, r⟩ := RepO.all b h1
    exact ⟨_ :: ws, by rw [e]; rfl, .cons a r⟩
end
def hid (x dx : Addr) (H : Hp) : Hp := fun y => if y = x ∨ y = dx then none else H y
section
variable {K : PySem.W.Frag} {C : Nat → Addr} {G G' H H' : Hp} {x dx : Addr}
theorem hid_ne {y : Addr} (h1 : y ≠ x) (h2 : y ≠ dx) : hid x dx H y = H y := if_neg (by rintro (z | z) <;> contradiction)
theorem hid_some {y : Addr} {o : HO} (h : hid x dx H y = some o) : y ≠ x ∧ y ≠ dx ∧ H y = some o := by
  unfold hid at h
  split at h
  · cases h
  · rename_i n
    exact ⟨fun z => n (.inl z), fun z => n (.inr z), h⟩
theorem Step.hid (s : Step none G H G' H') (h1 : G x = none) (h2 : G dx = none) (h3 : H x ≠ none) (h4 : H dx ≠ none) : Step none G (hid x dx H) G' (hid x dx H') where
  g := s.g
  fr := fun y k1 k2 => by
    cases q : TR.hid x dx H y with
    | none => exact absurd q k2
    | some o =>
      obtain ⟨_, _, e⟩ := hid_some q
      exact s.fr y k1 (by rw [e]; exact (fun z => nomatch z))
  h := fun y o k1 _ k3 => by
    obtain ⟨n1, n2, e⟩ := hid_some k1
    rw [hid_ne n1 n2]
    exact s.h y o e (fun z => nomatch z) k3
  tb := fun y ⟨ps, k1, k2⟩ => by
    obtain ⟨n1, n2, e⟩ := hid_some k1
    obtain ⟨qs, q1, q2⟩ := s.tb y ⟨ps, e, k2⟩
    exact ⟨qs, by rw [hid_ne n1 n2]; exact q1, q2⟩
  dm := fun y k1 => by
    unfold TR.hid at k1 ⊢
    split at k1
    · rw [if_pos (by assumption)]
    · rw [if_neg (by assumption)]; exact s.dm y k1
  gh := fun y o k1 => by
    have n1 : y ≠ x := fun z => by rw [z, s.fr x h1 h3] at k1; cases k1
    have n2 : y ≠ dx := fun z => by rw [z, s.fr dx h2 h4] at k1; cases k1
    rw [hid_ne n1 n2]
    exact s.gh y o k1
end
section
variable (K : PySem.W.Frag) (C : Nat → Addr)
/-- within an __init__: self at x, what it has so far -/
structure ISt (k : Nat) (x dx : Addr) (Gb Hb : Hp) (σ : L2.St) (ρ : List SV) (fs : List (Option D)) (G H : Hp) : Prop where
  ok : Ok K C σ ρ none none G H
  se : σ[0]? = some (some (V.ref x))
  sl : ∃ vs, SlX.Slt H x (C k) dx vs ∧ RepO K C G vs fs
  nx : dx ≠ x
  gx : G x = none
  gd : G dx = none
  st : Step none Gb Hb G (hid x dx H)
  hd : ∃ o, H dx = some o ∧ ∀ q, o ≠ .tbl q
  no : ∀ (i : Nat) (ds : List D), ρ[i]? ≠ some (SV.own ds)
  bx : Hb x = none
  bd : Hb dx = none
end
abbrev IS := List SV → List (Option D) → Option (List SV × List (Option D))
def iAsg (i : Nat) (f : FE) : IS := fun ρ fs => if i = 0 then none else (f ρ none).map fun p => (ρ.set i (.val p.1), fs)
def iSet (j : Nat) (f : FE) : IS := fun ρ fs => (f ρ none).map fun p => (ρ, putO j p.1 fs)
def iSeq (f g : IS) : IS := fun ρ fs => (f ρ fs).bind fun p => g p.1 p.2
section
variable (K : PySem.W.Frag) (C : Nat → Addr)
def SI (k : Nat) (ts : TS) (f : IS) : Prop := ∀ x dx Gb Hb σ ρ fs G H ρ' fs' (D : Ends), ISt K C k x dx Gb Hb σ ρ fs G H → f ρ fs = some (ρ', fs') → (∀ σ' G' H', ISt K C k x dx Gb Hb σ' ρ' fs' G' H' → D.nx σ' H') → ts D σ H
end
section
variable {K : PySem.W.Frag} {C : Nat → Addr} {k : Nat} {te : TE} {f : FE} {t u : TS} {g h : IS}
theorem Tk.none_of {T : Tn} {G H : Hp} (t : Tk K C T none G H) : T = none := by
  unfold Tk at t
  cases T with
  | none => rfl
  | some ds => exact t.elim
theorem slt_some {H : Hp} {x c dx : Addr} {vs : List (Option V)} (h : SlX.Slt H x c dx vs) : H x ≠ none := by
  rcases h with ⟨h, _⟩ | ⟨h, _⟩ <;> rw [h] <;> exact (fun z => nomatch z)
theorem slt_step {G G' H H' : Hp} {x c dx : Addr} {vs : List (Option V)} (s : Step none G H G' H') (h : SlX.Slt H x c dx vs) : SlX.Slt H' x c dx vs := by
  rcases h with ⟨h1, h2⟩ | ⟨h1, h2⟩
  · exact .inl ⟨s.h _ _ h1 (fun z => nomatch z) (fun _ z => nomatch z), h2⟩
  · refine .inr ⟨s.h _ _ h1 (fun z => nomatch z) (fun _ z => ?_), s.h _ _ h2 (fun z => nomatch z) (fun _ z => nomatch z)⟩
    unfold SlX.SlO at z
    cases z
/-- an expression within an __init__ -/
theorem ISt.step {x dx : Addr} {Gb Hb G H G' H' : Hp} {σ : L2.St} {ρ : List SV} {fs : List (Option D)} (i : ISt K C k x dx Gb Hb σ ρ fs G H) (s : Step none G H G' H') (tk : Tk K C none none G' H') : ISt K C k x dx Gb Hb σ ρ fs G' H' := by
  obtain ⟨vs, h1, h2⟩ := i.sl
  obtain ⟨od, d1, d2⟩ := i.hd
  have d0 : H dx ≠ none := by rw [d1]; exact (fun z => nomatch z)
  exact ⟨i.ok.step s tk, i.se, ⟨vs, slt_step s h1, h2.mono s.g⟩, i.nx, s.fr x i.gx (slt_some h1), s.fr dx i.gd d0, i.st.trans (s.hid i.gx i.gd (slt_some h1) d0), ⟨od, s.h dx od d1 (fun z => nomatch z) d2, d2⟩, i.no, i.bx, i.bd⟩
theorem si_seq (h1 : SI K C k t g) (h2 : SI K C k u h) : SI K C k (tSeq t u) (iSeq g h) := fun x dx Gb Hb σ ρ fs G H ρ' fs' D i e q => by
  unfold iSeq at e
  obtain ⟨⟨ρ1, fs1⟩, e1, e2⟩ := Option.bind_eq_some_iff.mp e
  exact h1 x dx Gb Hb σ ρ fs G H ρ1 fs1 _ i e1 fun σ1 G1 H1 i1 => h2 x dx Gb Hb σ1 ρ1 fs1 G1 H1 ρ' fs' D i1 e2 q
theorem si_asg {i : Nat} (h : Sd K C te f) : SI K C k (tAsg te (gName i)) (iAsg i f) := fun x dx Gb Hb σ ρ fs G H ρ' fs' D is e q => by
  unfold iAsg at e
  split at e
  · cases e
  rename_i hi
  obtain ⟨⟨d, T1⟩, e1, e2⟩ := Option.map_eq_some_iff.mp e
  cases e2
  refine h σ ρ none none G H d T1 is.ok e1 _ fun v G1 H1 s1 t1 r1 => ?_
  have := t1.none_of
  subst this
  have i1 := is.step s1 t1
  refine q _ G1 H1 ⟨i1.ok.setVal i r1, by rw [List.getElem?_set_ne hi]; exact i1.se, i1.sl, i1.nx, i1.gx, i1.gd, i1.st, i1.hd, fun j es z => ?_, i1.bx, i1.bd⟩
  exact i1.no j es (own_set z (fun _ w => nomatch w)).2
theorem si_set {j : Nat} {n : Str} (F : FldK K C k n j) (h : Sd K C te f) : SI K C k (SlX.sSl K (tVar 0) te n) (iSet j f) := fun x dx Gb Hb σ ρ fs G H ρ' fs' D is e q => by
  unfold iSet at e
  obtain ⟨⟨d, T1⟩, e1, e2⟩ := Option.map_eq_some_iff.mp e
  cases e2
  refine h σ ρ none none G H d T1 is.ok e1 _ fun v G1 H1 s1 t1 r1 => ?_
  have := t1.none_of
  subst this
  have i1 := is.step s1 t1
  obtain ⟨vs, h1, h2⟩ := i1.sl
  obtain ⟨p, sl⟩ := F.sl
  refine ⟨.ref x, i1.se, x, _, dx, p, vs, j, rfl, h1, F.sc, sl, q σ G1 _ ?_⟩
  have hat : ∀ y, y ≠ x → y ≠ dx → SlX.slH H1 x (C k) dx (SlX.putS j v vs) y = H1 y := fun y a b => SlX.slH_ne a b
  have hh : hid x dx (SlX.slH H1 x (C k) dx (SlX.putS j v vs)) = hid x dx H1 := by
    funext y
    unfold TR.hid
    split
    · rfl
    · rename_i n
      exact hat y (fun z => n (.inl z)) (fun z => n (.inr z))
  have nG : ∀ y o, G1 y = some o → y ≠ x ∧ y ≠ dx := fun y o e => ⟨(fun z => by rw [z, i1.gx] at e; cases e), (fun z => by rw [z, i1.gd] at e; cases e)⟩
  have tb9 : C 9 ≠ x ∧ C 9 ≠ dx := by
    obtain ⟨ps, e9, _⟩ := i1.ok.tb.h
    refine ⟨fun z => ?_, fun z => ?_⟩
    · rw [z] at e9
      rcases h1 with ⟨w, _⟩ | ⟨w, _⟩
      · rw [w] at e9; cases e9
      · rw [w] at e9; unfold SlX.SlO at e9; cases e9
    · obtain ⟨od, d1, d2⟩ := i1.hd
      rw [z, d1] at e9
      exact d2 ps (Option.some.inj e9)
  exact ⟨⟨fun y o e => by rw [hat y (nG y o e).1 (nG y o e).2]; exact i1.ok.gh y o e, i1.ok.len, i1.ok.val, fun i ds e => absurd e (i1.no i ds), i1.ok.dis, i1.ok.tnk, trivial, ⟨by
      obtain ⟨ps, e9, t9⟩ := i1.ok.tb.h
      exact ⟨ps, by rw [hat _ tb9.1 tb9.2]; exact e9, t9⟩, i1.ok.tb.g⟩⟩, i1.se, ⟨_, SlX.slH_slt i1.nx, h2.put j r1⟩, i1.nx, i1.gx, i1.gd, by rw [hh]; exact i1.st, ⟨.xd [], by unfold SlX.slH; rw [upd_ne i1.nx, upd_same], fun _ z => nomatch z⟩, i1.no, i1.bx, i1.bd⟩
end
def runI (n m : Nat) (f : IS) (ds : List D) : Option (List D) := if ds.length + 1 = m then (f (.un :: startE (n - 1) ds) []).bind fun p => allO p.2 else none
section
variable (K : PySem.W.Frag) (C : Nat → Addr)
/-- the promise of an __init__: its fields by its arguments -/
def spI (k : Nat) (F : List D → Option (List D)) : Sp := fun vs H Q _ => ∃ G Hb x dx ws ds fs, vs = .ref x :: ws ∧ Ex G Hb ∧ Tb C G Hb ∧ Hb x = none ∧ Hb dx = none ∧ dx ≠ x ∧ H = upd (upd Hb dx (.own x)) x (.ins (C k) dx []) ∧ Reps K C G ws ds ∧ F ds = some fs ∧
  ∀ G' H', Step none G Hb G' H' → Rep K C G' (.ref x) (.obj k fs) → Q .non H'
end
section
variable {K : PySem.W.Frag} {C : Nat → Addr} {k : Nat}
theorem spI_len {n m : Nat} {f : IS} {vs : List V} {H : Hp} {Q : VK} {E : XK} (h : spI K C k (runI n m f) vs H Q E) : vs.length = m := by
  obtain ⟨G, Hb, x, dx, ws, ds, fs, rfl, _, _, _, _, _, _, r, hf, _⟩ := h
  unfold runI at hf
  split at hf
  · rename_i hl; rw [List.length_cons, r.length]; exact hl
  · cases hf
theorem body_I {N : List Str} {m : Nat} {t : TS} {f : IS} (hb : SI K C k t f) (hm : m ≤ N.length) {vs : List V} {H : Hp} {Q : VK} {E : XK} (h : spI K C k (runI N.length m f) vs H Q E) : t { nx := fun _ H' => Q .non H', rt := Q } (L2.start N vs) H := by
  obtain ⟨G, Hb, x, dx, ws, ds, fs, rfl, e, tb, hx, hdx, nx, rfl, r, hf, q⟩ := h
  unfold runI at hf
  split at hf
  case isFalse => cases hf
  rename_i hl
  obtain ⟨⟨ρ', fs'⟩, h1, h2⟩ := Option.bind_eq_some_iff.mp hf
  have gx : G x = none := e.none hx
  have gd : G dx = none := e.none hdx
  have e2 : Ex G (upd (upd Hb dx (.own x)) x (.ins (C k) dx [])) := (e.trans (.new hdx)).trans (.new (by rw [upd_ne (Ne.symm nx)]; exact hx))
  have c9 : C 9 ≠ x ∧ C 9 ≠ dx := by
    obtain ⟨ps, q9, _⟩ := tb.h
    exact ⟨(fun z => by rw [z, hx] at q9; cases q9), (fun z => by rw [z, hdx] at q9; cases q9)⟩
  have tb2 : Tb C G (upd (upd Hb dx (.own x)) x (.ins (C k) dx [])) := ⟨tab_upd (tab_upd tb.h c9.2) c9.1, tb.g⟩
  have e1 : L2.start N (V.ref x :: ws) = some (.ref x) :: L2.start (N.drop 1) ws := by
    unfold L2.start
    rw [List.map_cons, List.cons_append, List.length_cons, List.length_drop]
    congr 3
    omega
  have o := ok_start (N := N.drop 1) e2 tb2 r (by rw [List.length_drop, r.length]; omega)
  rw [List.length_drop] at o
  have hh : hid x dx (upd (upd Hb dx (.own x)) x (.ins (C k) dx [])) = Hb := by
    funext y
    unfold TR.hid
    split
    · rename_i z
      rcases z with z | z
      · rw [z, hx]
      · rw [z, hdx]
    · rename_i n
      rw [upd_ne (fun z => n (.inl z)), upd_ne (fun z => n (.inr z))]
  refine hb x dx G Hb _ (.un :: startE (N.length - 1) ds) [] G _ ρ' fs' _ ⟨?_, by rw [e1]; rfl, ⟨[], .inl ⟨upd_same, rfl⟩, .nil⟩, nx, gx, gd, by rw [hh]; exact .refl e, ⟨.own x, by rw [upd_ne nx, upd_same], fun _ z => nomatch z⟩, fun i es z => ?_, hx, hdx⟩ h1 fun σ' G' H' i1 => ?_
  · rw [e1]
    refine ⟨e2, by rw [List.length_cons, List.length_cons, o.len], fun i d h => ?_, fun i ds h => ?_, fun i j ds es p h1 h2 h3 h4 => ?_, fun i h => ?_, trivial, tb2⟩
    · cases i with
      | zero => cases h
      | succ i => exact o.val i d (by simpa using h)
    · cases i with
      | zero => cases h
      | succ i => exact absurd (by simpa using h) (startE_own i ds)
    · cases i with
      | zero => cases h1
      | succ i => exact absurd (by simpa using h1) (startE_own i ds)
    · cases i with
      | zero => cases h
      | succ i =>
        obtain ⟨q, k1, _⟩ := o.tnk i (by simpa using h)
        cases k1
  · cases i with
    | zero => cases z
    | succ i => exact startE_own i es (by simpa using z)
  · obtain ⟨vs, s1, s2⟩ := i1.sl
    obtain ⟨us, rfl, ru⟩ := s2.all h2
    obtain ⟨od, d1, d2⟩ := i1.hd
    obtain ⟨ox, x1⟩ : ∃ ox, H' x = some ox := by
      cases q9 : H' x with
      | none => exact absurd q9 (slt_some s1)
      | some o => exact ⟨o, rfl⟩
    have gm : Ex G' (upd (upd G' dx od) x ox) := (Ex.new i1.gd).trans (.new (by rw [upd_ne (Ne.symm nx)]; exact i1.gx))
    have nH : ∀ y o, Hb y = some o → y ≠ x ∧ y ≠ dx := fun y o z => ⟨(fun w => by rw [w, hx] at z; cases z), (fun w => by rw [w, hdx] at z; cases z)⟩
    refine q (upd (upd G' dx od) x ox) H' ⟨i1.st.g.trans gm, fun y k1 k2 => ?_, fun y o k1 _ k3 => ?_, fun y k1 => ?_, fun y k1 => ?_, fun y o k1 => ?_⟩ (.obj (dx := dx) ?_ (ru.mono gm))
    · have n : y ≠ x ∧ y ≠ dx := ⟨(fun w => k2 (by rw [w]; exact hx)), (fun w => k2 (by rw [w]; exact hdx))⟩
      rw [upd_ne n.1, upd_ne n.2]
      exact i1.st.fr y k1 k2
    · obtain ⟨n1, n2⟩ := nH y o k1
      have := i1.st.h y o k1 (fun z => nomatch z) k3
      rw [hid_ne n1 n2] at this
      exact this
    · obtain ⟨ps, q1, q2⟩ := k1
      obtain ⟨n1, n2⟩ := nH y _ q1
      obtain ⟨ps', q3, q4⟩ := i1.st.tb y ⟨ps, q1, q2⟩
      rw [hid_ne n1 n2] at q3
      exact ⟨ps', q3, q4⟩
    · by_cases n1 : y = x
      · rw [n1]; exact hx
      · by_cases n2 : y = dx
        · rw [n2]; exact hdx
        · exact i1.st.dm y (by rw [hid_ne n1 n2]; exact k1)
    · by_cases n1 : y = x
      · rw [n1, upd_same] at k1
        rw [n1, x1]; exact k1
      · rw [upd_ne n1] at k1
        by_cases n2 : y = dx
        · rw [n2, upd_same] at k1
          rw [n2, d1]; exact k1
        · rw [upd_ne n2] at k1
          exact i1.ok.gh y o k1
    · rcases s1 with ⟨w1, w2⟩ | ⟨w1, w2⟩
      · exact .inl ⟨by rw [upd_same, ← x1]; exact w1, w2⟩
      · exact .inr ⟨by rw [upd_same, ← x1]; exact w1, by rw [upd_ne nx, upd_same, ← d1]; exact w2⟩
end
structure KnI (P : Program) (w : World) (K : PySem.W.Frag) (mg : Str → Option Value) (base : Heap) (C : Nat → Addr) (k : Nat) (n : Nat) (sp : Sp) : Prop where
  ex : ∃ f fd ps, Mk K (C k) f ∧ FnOk P w K mg base CX0 n f fd ps sp ∧ Binds K fd ps []
structure FxI (K : PySem.W.Frag) (C : Nat → Addr) (k : Nat) (qual : Str) (st : Stmt) (ps : List Str) : Prop where
  ex : ∃ f fd, Fun K "__init__" qual st f fd ∧ Mk K (C k) f ∧ Binds K fd ps []
section
variable {P : Program} {w : World} {K : PySem.W.Frag} {mg : Str → Option Value} {base : Heap} {C : Nat → Addr} {qual : Str} {st : Stmt} {N ps : List Str} {k j : Nat}
theorem kn_I {fs : IS} {n l : Nat} (F : FxI K C j qual st ps) (S : FnScope N ps (defScope st)) (hn : N.length = n) (hm : ps.length = l)
    (hb : ∀ (f : Addr) (cdv : Value) (A : Around) (outer : List Env) (s : Shared) (H : Hp) (E : XK), Room k (A.deeper (envOfC qual (defScope st) s.heap.objs.size f cdv)) → ∃ t, PSs (bCx P w K mg base N qual st f cdv A outer s H E) (defBody st) t ∧ SI K C j t fs) :
    KnI P w K mg base C j (k + 1) (spI K C j (runI n l fs)) := by
  obtain ⟨f, fd, F1, g, b⟩ := F.ex
  subst hn hm
  have hpl : ps.length ≤ N.length := by have := congrArg List.length S.pre; rw [List.length_take] at this; omega
  exact ⟨f, fd, ps, g, F1.ok S (fun vs H Q E h => spI_len h) (fun cdv A outer s H vs Q E hr h => let ⟨t, z1, z2⟩ := hb f cdv A outer s H E hr; ⟨t, z1, body_I z2 hpl h⟩), b⟩
end
section
variable {K : PySem.W.Frag} {C : Nat → Addr} {t : TA} {g : FL}
theorem sd_make {k : Nat} {F : List D → Option (List D)} (h : Sa K C t g) : Sd K C (tMake (C k) (spI K C k F) [] E0 t) (cO (fun ds => (F ds).map (.obj k)) g) := fun σ ρ T a G H d T' ok e Q q => by
  unfold cO at e
  obtain ⟨⟨ds, T1⟩, e1, e0⟩ := Option.bind_eq_some_iff.mp e
  obtain ⟨z, e3, e4⟩ := Option.map_eq_some_iff.mp e0
  cases e4
  obtain ⟨fs, e5, e6⟩ := Option.map_eq_some_iff.mp e3
  subst e6
  refine h σ ρ T a G H ds T1 ok e1 _ fun vs G1 H1 s1 t1 r1 => ?_
  intro x dx hx hdx nx
  rw [List.append_nil]
  exact ⟨G1, H1, x, dx, vs, ds, fs, rfl, s1.gh, (ok.step s1 t1).tb, hx, hdx, nx, rfl, r1, e5, fun G' H' s2 r2 => ⟨rfl, q (.ref x) G' H' (s1.trans s2.any) (t1.pure s2) r2⟩⟩
end
section
variable {X : Cx} {C : Nat → Addr} {a e : Expr} {es : List Expr} {t : TA} {fl : FL} {pos p : Pos} {k n : Nat} {x : Str}
theorem q_make {F : List D → Option (List D)} (M : KnI X.prog X.w X.K X.mg X.base C k n (spI X.K C k F)) (hr : Room (n + 1) X.A) (hm : X.mg x = some (.ref (C k))) (ha : PAD X C (e :: es) t fl) (hg : Gl X x := by rfl) (hdb : (x == ("__debug__" : Str)) = false := by decide)
    (he : starEach (e :: es) X.env = (false, eval e X.env) :: starEach es X.env := by rfl) (hpl : (backTo pos (starEach es X.env)).any (·.1) = false := by rfl) : PD X C (.Call (.Name x p) (e :: es) [] pos) (tMake (C k) (spI X.K C k F) [] E0 t) (cO (fun ds => (F ds).map (.obj k)) fl) := by
  obtain ⟨f, fd, ps, m, hf, hb⟩ := M.ex
  exact ⟨pe_make m hf hr hg hm hb .nil pass0 ha.pe hdb he hpl, sd_make ha.sd⟩
/-- cls(e, ..), cls a local slot that holds the class -/
def tMakeL (i : Nat) (Ck : Addr) (sp : Sp) (E : XK) (t : TA) : TE := fun σ H Q => σ[i]? = some (some (.ref Ck)) ∧ tMake Ck sp [] E t σ H Q
theorem pe_makeL {i : Nat} {Ck f : Addr} {fd : FuncData} {ps : List Str} {sp : Sp} (M : Mk X.K Ck f) (F : FnOk X.prog X.w X.K X.mg X.base CX0 n f fd ps sp) (hr : Room (n + 1) X.A) (hN : X.N[i]? = some x) (hv : Vis X.env.scope x) (hb : Binds X.K fd ps []) (ha : PA X (e :: es) t)
    (hdb : (x == ("__debug__" : Str)) = false := by decide) (hcd : (x == ("__classdict__" : Str)) = false := by decide)
    (he : starEach (e :: es) X.env = (false, eval e X.env) :: starEach es X.env := by rfl) (hpl : (backTo pos (starEach es X.env)).any (·.1) = false := by rfl) : PE X (.Call (.Name x p) (e :: es) [] pos) (tMakeL i Ck sp E0 t) := by
  refine ⟨fun pins s σ H Q I h => ?_⟩
  obtain ⟨hs, ht⟩ := h
  refine wpAny_Call_Name_kw (thn ((pe_var (pos := p) hN hv hdb hcd).run pins s σ H (fun v H1 => v = .ref Ck ∧ H1 = H) I ⟨.ref Ck, hs, rfl, rfl⟩) fun u s1 ⟨v, H1, I1, r1, q1⟩ => ?_)
  obtain ⟨rfl, rfl⟩ := q1
  cases r1
  refine PySem.W.callWith_K (h₀ := X.base) I.ok.mod.kin M.kp (thn (ha.run pos pins s1 σ _ _ I1 ht) fun us s2 ⟨vs, H2, I2, r, q⟩ => ⟨I2.kIn, ?_⟩) he hpl
  exact run_make M F hr hb .nil pass0 I2 r q
end

/-! ### isinstance of an own class -/
def isKept : D → Option D
  | .tup _ => some (.bl false)
  | .obj k _ => if k = 1 then some (.bl true) else none
  | _ => none
structure IsK (K : PySem.W.Frag) (C : Nat → Addr) : Prop where
  sc : SlX.SCls K (C 1)
  si : SlX.SIsi K (C 1)
  yes : PySem.W.kitOne K (.ref (C 1)) (.ref (C 1)) = some true
  no : PySem.W.kitOne K (.type "tuple") (.ref (C 1)) = some false
def rKept (K : PySem.W.Frag) (C : Nat → Addr) : List V → Hp → VK → Prop := fun xs H Q => rIsi K xs H Q ∨ SlX.rIsiSl K (.ref (C 1)) xs H Q
section
variable {K : PySem.W.Frag} {C : Nat → Addr} {ta : TE} {f : FE}
theorem sd_kept (I : IsK K C) (ha : Sd K C ta f) : Sd K C (tCB (rKept K C) (tCons ta (tCons (tC (.ref (C 1))) tNil))) (uO isKept f) := fun σ ρ T' a G H d T2 ok e Q q => by
  unfold uO at e
  obtain ⟨⟨x, T1⟩, e1, e0⟩ := Option.bind_eq_some_iff.mp e
  obtain ⟨z, e3, e4⟩ := Option.map_eq_some_iff.mp e0
  cases e4
  refine ha σ ρ T' a G H x T1 ok e1 _ fun v G1 H1 s1 t1 r1 => ?_
  unfold isKept at e3
  split at e3
  · cases e3
    rename_i ds hd
    have hd' : x = .tup ds := hd
    subst hd'
    exact .inl ⟨v, _, _, _, false, rfl, .own _, ty_of s1.gh r1 rfl, I.no, q _ G1 H1 s1 t1 (.bl _)⟩
  · rename_i k fs hd
    have hd' : x = .obj k fs := hd
    subst hd'
    split at e3
    · rename_i hk
      subst hk
      cases e3
      obtain ⟨a', dx, vs, rfl, hs, hr⟩ := rep_obj s1.gh r1
      exact .inr ⟨a', _, dx, _, _, true, rfl, rfl, fun w h => h, hs, I.sc, I.si, I.yes, q _ G1 H1 s1 t1 (.bl _)⟩
    · cases e3
  · cases e3
end
section
variable {X : Cx} {C : Nat → Addr} {a : Expr} {ta : TE} {f : FE} {pos p px : Pos} {x : Str}
theorem q_kept (I : IsK X.K C) (hm : X.mg "isinstance" = none) (hx : X.mg x = some (.ref (C 1))) (ha : PD X C a ta f) (hg : Gl X "isinstance" := by rfl) (hgx : Gl X x := by rfl) (hdb : (x == ("__debug__" : Str)) = false := by decide)
    (he : starEach [a, .Name x px] X.env = (false, eval a X.env) :: starEach [.Name x px] X.env := by rfl) (he2 : starEach [.Name x px] X.env = (false, eval (.Name x px) X.env) :: starEach [] X.env := by rfl) (hpl : (backTo pos (starEach [.Name x px] X.env)).any (·.1) = false := by rfl) :
    PD X C (.Call (.Name "isinstance" p) [a, .Name x px] [] pos) (tCB (rKept X.K C) (tCons ta (tCons (tC (.ref (C 1))) tNil))) (uO isKept f) :=
  ⟨pe_callB (call_isi.or (SlX.call_isiSl _)) hg hm (by decide +kernel) (pa_cons ha.pe (pa_cons (pe_glob hgx hx rfl hdb) pa_nil he2) he) (by decide) (by decide) he hpl, sd_kept I ha.sd⟩
end

/-! ### statements of an __init__ -/
structure PSI (X : Cx) (C : Nat → Addr) (k : Nat) (st : Stmt) (t : TS) (f : IS) : Prop where
  ps : PS X st t
  si : SI X.K C k t f
structure PSsI (X : Cx) (C : Nat → Addr) (k : Nat) (st : List Stmt) (t : TS) (f : IS) : Prop where
  ps : PSs X st t
  si : SI X.K C k t f
section
variable {X : Cx} {C : Nat → Addr} {k : Nat} {e : Expr} {te : TE} {f : FE} {pos px py p' : Pos} {x y n : Str} {st : Stmt} {rest : List Stmt} {t u : TS} {g h : IS}
theorem y_one (h : PSI X C k st t g) : PSsI X C k [st] t g := ⟨pss_one h.ps, h.si⟩
theorem y_cons (h1 : PSI X C k st t g) (h2 : PSsI X C k rest u h) : PSsI X C k (st :: rest) (tSeq t u) (iSeq g h) := ⟨pss_cons h1.ps h2.ps, si_seq h1.si h2.si⟩
theorem y_asg (i : Nat) (hN : X.N.Nodup) (hi : X.N[i]? = some x) (hx : Loc X.env.scope x) (he : PD X C e te f) (hs : swapsWith e (some (.Name x px)) pos.line X.env = pure false := by rfl) (hf : X.fn x = true ∨ X.env.scope.names.lookup x = some .local := by first | exact .inl rfl | exact .inr rfl) :
    PSI X C k (.Assign [.Name x px] e pos) (tAsg te (gName i)) (iAsg i f) := ⟨ps_set hN hi hx he.pe hs hf, si_asg he.sd⟩
theorem y_set {j : Nat} (F : FldK X.K C k n j) (hi : X.N[0]? = some y) (hv : Vis X.env.scope y) (he : PD X C e te f) (hd : (y == ("__debug__" : Str)) = false := by decide) (hcd : (y == ("__classdict__" : Str)) = false := by decide)
    (hs : swapsWith e (some (.Attribute (.Name y py) n p')) pos.line X.env = pure false := by rfl) : PSI X C k (.Assign [.Attribute (.Name y py) n p'] e pos) (SlX.sSl X.K (tVar 0) te n) (iSet j f) := ⟨SlX.ps_sl (pe_var hi hv hd hcd) he.pe hs, si_set F he.sd⟩
end
end TR

/-! Dict comprehensions with tuples of ints for keys; comprehensions of two clauses. The walk of the dict comprehension follows HandS.DictComp's. -/
namespace TR
open PySem PySem.Spec PyProof.Rows L2
section
variable {X : Cx} {pins : List (Addr × Obj)} {σ : L2.St} {H : Hp} {s : Shared} {A : Around} {E : Value → Shared → Prop}
theorem d_dictSetT {D b : Addr} {kvs : List (List Key × V)} {k : List Key} {v : V} {u r : Value} {Q : Unit → Shared → Prop} (hu : X.A.units + 1 < cLine) (I : Inv X pins σ H s) (hD : H D = some (.dT kvs)) (eb : H b = some (.tup (k.map kV))) (hz : kvs.length < sizeLine)
    (ry : RelV (.ref b) u) (rv : RelV v r) (h : ∀ s', Inv X pins σ (upd H D (.dT (putK kvs k v))) s' → Q () s') : wpAny (model X.prog X.w) X.A (dictSet D u r) Q E s := by
  cases (show u = Value.ref b from ry)
  obtain ⟨z, hd, xs, rel, dd⟩ := dt_of I.hok hD
  have hzv : xs.length ≤ sizeLine := by rw [← Paired.length rel]; exact z
  have hl : (putK kvs k v).length ≤ sizeLine := by have := length_putK kvs k v; omega
  refine wpAny_dictSet_heap (hsz := hzv) (show (tupleKind (mixKind X.prog X.w)).room X.A from Nat.lt_of_succ_lt hu) (key_of I.hok eb) dd fun h' dd' hs => h _ ?_
  obtain ⟨q, es, ep, hq, h2, h3, h4, _, h5⟩ := dd'
  refine d_write I (by rw [hD]; exact True.intro) hs ⟨q, hq⟩ ⟨hl, hd, _, (rel.put k eb rv).keeps fun c ys ec => ?_, q, es, ep, hq, h2, h3, h4, h5⟩
  rw [upd_ne (ne_of ec hD (fun z => nomatch z))]
  exact ec
end
section
variable {X : Cx}
/-- {k: v for target in iter if ..}, the keys tuples: D the new dict -/
def tDct (wi : TI) (g : TG) (tt : TT) (tk tv : TE) (vs : List Nat) : TE := fun σ H Q => wi σ H fun J H1 => ∀ D, H1 D = none → ∃ W : Nat → Nat → Hp → Prop, (∃ m, W 0 m (upd H1 D (.dT []))) ∧ ∀ i m H, W i m H →
  (J.stop i H ∧ Q (.ref D) H) ∨ (J.go i H ∧ ∃ Nx : Hp → Prop, (∀ H', Nx H' → ∃ m', m' < m ∧ W (i + 1) m' H') ∧ ∀ x H', J.yld i H x H' → g x (wipe σ vs) H' fun σ2 H2 => wipe σ2 vs = wipe σ vs ∧ tt σ2 H2 fun b H3 =>
    if b = true then tk σ2 H3 fun y H4 => tv σ2 H4 fun z H5 => ∃ kvs k b, y = .ref b ∧ H5 D = some (.dT kvs) ∧ H5 b = some (.tup (k.map kV)) ∧ kvs.length < sizeLine ∧ Nx (upd H5 D (.dT (putK kvs k z))) else Nx H3)
theorem dct_core {pins : List (Addr × Obj)} {s : Shared} {σ : L2.St} {H : Hp} {Q : VK} {kx vx tg iter : Expr} {ifs : List Expr} {scope : Scope} {own : List (Str × Nat)} {pos pos' : Pos} {wi : TI} {g : TG} {tt : TT} {tk tv : TE} {use : Option (Value → Sem Unit)} {Qf : Value → Shared → Prop}
    (hc : X.calm = true) (hN : X.N.Nodup) (I : Inv X pins σ H s) (hi : PI X tg iter wi) (ok : BlkOk X.N X.env.scope scope own)
    (hg : ∀ (s : Shared) (H : Hp) (C : Addr) (cl : List (Str × Addr)) (fp : List Addr), PG (X.blk s H scope (compEnvC scope cl C X.env) fp) tg g) (ht : ∀ (s : Shared) (H : Hp) (C : Addr) (cl : List (Str × Addr)) (fp : List Addr), PTs (X.blk s H scope (compEnvC scope cl C X.env) fp) ifs tt)
    (hk : ∀ (s : Shared) (H : Hp) (C : Addr) (cl : List (Str × Addr)) (fp : List Addr), PE (X.blk s H scope (compEnvC scope cl C X.env) fp) kx tk)
    (he : ∀ (s : Shared) (H : Hp) (C : Addr) (cl : List (Str × Addr)) (fp : List Addr), PE (X.blk s H scope (compEnvC scope cl C X.env) fp) vx tv) (hs : ∀ x, foldedSetIterable iter X.env x = pure x)
    (hu : X.A.units + 1 < cLine) (h : tDct wi g tt tk tv (own.map (·.2)) σ H Q)
    (hRR : ∀ D C s' m H', Inv X pins σ H' s' → Q (.ref D) H' → s'.heap.Ns C m → FpOk X pins H' C → compPost (model X.prog X.w) X.A X.xe use Qf (.ref D) C (.ok .next) s') :
    wpAny (model X.prog X.w) X.A (comprehension (.DictComp kx vx [⟨tg, iter, ifs, 0⟩] scope pos) scope X.env pos' newDict false (eval iter X.env) use) Qf X.xe s := by
  have hfree : ∀ y ∈ scope.names, y.2 = .free → ∃ c, X.env.cells.lookup y.1 = some c := fun y hy e => by
    rcases ok.free y hy e with k | k
    · exact I.ok.has _ (.inl k)
    · exact I.ok.has _ (.inr k)
  refine wpAny_comprehension_free (use := use) rfl hs (closure_ok hfree) ok.kind (fun y hy e => by rw [ok.uniq y hy, e])
    (thn (hi.run pins s σ H _ I h) fun xv s1 hx => thn hx fun itv s2 h2 => ?_)
  obtain ⟨it, fp, tn, J, H2, e, I2, T, st2, f2, q⟩ := h2
  subst e
  refine wpAny_newObj_type (newEnv_comp ?_)
  generalize hD : s2.heap.objs.size = D
  have hDn : H2 D = none := I2.hok.fresh (Nat.le_of_eq hD)
  obtain ⟨W, ⟨m0, w0⟩, turn⟩ := q D hDn
  -- the new list
  generalize hs3 : ({ s2 with heap := s2.heap.push { cls := .type "dict", data := .dict #[] } } : Shared) = s3
  have I3 : Inv X pins σ (upd H2 D (.dT [])) s3 := by
    rw [← hs3]
    refine I2.laid (t' := s2.toks) (fun b o e => Heap.get?_push_of_some _ e) (Nat.le_of_eq hD) ?_
    rw [← hD]
    exact dt_empty s2.heap I2.big
  have h3 : s3.heap = s2.heap.push { cls := .type "dict", data := .dict #[] } := by rw [← hs3]
  have sz : ∀ b ∈ fp, b < s2.heap.objs.size := fun b hb => by
    obtain ⟨o, e, _⟩ := T.obj _ _ st2 b hb
    exact Heap.lt_size e
  have f3 : ∀ b ∈ fp, FpOk X pins (upd H2 D (.dT [])) b ∧ b < s3.heap.objs.size := fun b hb => by
    have hlt := sz b hb
    refine ⟨⟨?_, (f2 b hb).2⟩, by rw [h3, Heap.size_push]; exact Nat.lt_succ_of_lt hlt⟩
    rw [upd_ne (by rw [← hD]; exact Nat.ne_of_lt hlt)]
    exact (f2 b hb).1
  have st3 : tn 0 s3.heap := T.keep _ _ _ st2 fun b _ o e => by rw [h3]; exact Heap.get?_push_of_some _ e
  have I4 := block_start I3 ok hN f3
  have pg := hg s3 (upd H2 D (.dT [])) s3.heap.objs.size (cellsFrom (s3.heap.objs.size + 1) scope.names (cloFrom X.env.cells scope.names [])) fp
  have pt := ht s3 (upd H2 D (.dT [])) s3.heap.objs.size (cellsFrom (s3.heap.objs.size + 1) scope.names (cloFrom X.env.cells scope.names [])) fp
  have pk := hk s3 (upd H2 D (.dT [])) s3.heap.objs.size (cellsFrom (s3.heap.objs.size + 1) scope.names (cloFrom X.env.cells scope.names [])) fp
  have pe := he s3 (upd H2 D (.dT [])) s3.heap.objs.size (cellsFrom (s3.heap.objs.size + 1) scope.names (cloFrom X.env.cells scope.names [])) fp
  show codeAny _ _ (.compStart (.DictComp kx vx [⟨tg, iter, ifs, 0⟩] scope pos) 0 (.ref it) (.ref D) (compEnvC scope (cellsFrom (s3.heap.objs.size + 1) scope.names (cloFrom X.env.cells scope.names [])) s3.heap.objs.size X.env)) (compPost (model X.prog X.w) X.A X.xe use Qf (.ref D) s3.heap.objs.size) { s3 with heap := pushCells (s3.heap.push { cls := .type "dict", data := .dict #[] }) scope.names }
  have nfp : ∀ b ∈ fp, (upd H2 D (.dT [])) b = none := fun b hb => (f3 b hb).1.1
  generalize hce : compEnvC scope (cellsFrom (s3.heap.objs.size + 1) scope.names (cloFrom X.env.cells scope.names [])) s3.heap.objs.size X.env = ce at I4 pg pt pk pe ⊢
  have cL : ce.locals = s3.heap.objs.size := by subst hce; rfl
  generalize hH3 : upd H2 D (.dT []) = H3 at I3 I4 pg pt pk pe w0 nfp f3
  generalize hs4 : ({ s3 with heap := pushCells (s3.heap.push { cls := .type "dict", data := .dict #[] }) scope.names } : Shared) = s4 at I4 ⊢
  have st4 : tn 0 s4.heap := T.keep _ _ _ st3 fun b _ o e => by rw [← hs4]; exact pushCells_keeps _ _ _ _ (Heap.get?_push_of_some _ e)
  have stat : ∀ {σ' : L2.St} {H' : Hp} {s' : Shared}, Inv (X.blk s3 H3 scope ce fp) [] σ' H' s' → (∀ b ∈ fp, H' b = none) → ∀ b ∈ fp, FpOk (X.blk s3 H3 scope ce fp) [] H' b := fun {σ' H' s'} I' hn b hb =>
    ⟨hn b hb, (I'.ok.exf b hb).1, I'.ok.exfs b hb, .inl hb, fun x c e => (I'.ok.exf b hb).2 x c e, fun p hp => absurd (show p ∈ ([] : List (Addr × Obj)) ++ [] from hp) (by simp)⟩
  have loop : codeAny (model X.prog X.w) X.A (.compLoop (.DictComp kx vx [⟨tg, iter, ifs, 0⟩] scope pos) 0 (.ref it) (.ref D) ce) (compPost (model X.prog X.w) X.A X.xe use Qf (.ref D) s3.heap.objs.size) s4 := by
    refine compLoop_anyD (fun n s' => ∃ i H', Inv (X.blk s3 H3 scope ce fp) [] (wipe σ (own.map (·.2))) H' s' ∧ tn i s'.heap ∧ (∀ b ∈ fp, H' b = none) ∧ W i n H') ?_ m0 ⟨0, H3, I4, st4, nfp, w0⟩
    rintro n s5 ⟨i, H5, I5, st5, n5, w5⟩
    rcases turn i n H5 w5 with ⟨stop, qq⟩ | ⟨go, Nx, hNx, step⟩
    · have td := T.done (X.blk s3 H3 scope ce fp) rfl rfl rfl hc i [] s5 _ H5 (fun _ _ => False) I5 (stat I5 n5) st5 stop
      refine thnF td fun r s6 ⟨hr, I6⟩ => ?_
      subst hr
      -- back in the def's context
      have I7 : Inv X pins σ H5 s6 := I3.call' (ch := fp) I6.os I6.base I6.hok I6.bare fun b hb => ⟨(f3 b hb).1.2.2.2.1, (f3 b hb).1.2.1, (f3 b hb).1.2.2.2.2.1, (f3 b hb).1.2.2.2.2.2⟩
      have nC : H5 s3.heap.objs.size = none := by
        have z : H5 ce.locals = none := I6.free
        rw [cL] at z
        exact z
      obtain ⟨m, hn, _⟩ := I6.loc
      have hn : s6.heap.Ns ce.locals m := hn
      rw [cL] at hn
      exact hRR D s3.heap.objs.size s6 m H5 I7 qq hn (I3.fpOk (Nat.le_refl _) nC)
    · have ti := T.item (X.blk s3 H3 scope ce fp) rfl rfl rfl hc i [] s5 _ H5 (fun _ _ => False) I5 (stat I5 n5) st5 go
      refine thnF ti fun r s6 ⟨u, hr, h6⟩ => ?_
      subst hr
      refine thnF h6 fun _ s7 ⟨x, H7, I7, r7, y7, st7, n7⟩ => ?_
      have I7' := I7.pinned (stat I7 n7) (T.obj _ _ st7)
      refine thnF (pg.run _ s7 _ H7 x u _ I7' r7 (step x H7 y7)) fun _ s8 ⟨σ8, H8, I8, hw8, q8⟩ => ?_
      refine thnF (pt.run _ s8 σ8 H8 _ I8 q8) fun b s9 ⟨H9, I9, q9⟩ => ?_
      -- the turn's end
      have fin : ∀ {s' : Shared} {H' : Hp}, Inv (X.blk s3 H3 scope ce fp) ([] ++ pinsAt fp s7.heap) σ8 H' s' → Nx H' → ∃ m, m < n ∧ ∃ i H', Inv (X.blk s3 H3 scope ce fp) [] (wipe σ (own.map (·.2))) H' s' ∧ tn i s'.heap ∧ (∀ b ∈ fp, H' b = none) ∧ W i m H' := fun {s' H'} I' nx => by
        obtain ⟨m', hm, w'⟩ := hNx H' nx
        have pin' : ∀ b ∈ fp, ∀ o, s7.heap.get? b = some o → s'.heap.get? b = some o ∧ H' b = none := fun b hb o e =>
          let z := I'.pin (b, o) (List.mem_append_right _ (List.mem_append_right _ (mem_pinsAt hb e)))
          ⟨z.1, z.2.1⟩
        have hl : (wipe σ (own.map (·.2))).length = σ8.length := by rw [← hw8, wipe_length]
        refine ⟨m', hm, i + 1, H', (I'.unpinned (pins := [])).weak hl (fun j v e => ?_), T.keep _ _ _ st7 fun b hb o e => (pin' b hb o e).1, fun b hb => ?_, w'⟩
        · rw [← hw8] at e
          exact (wipe_some e).1
        · obtain ⟨o, e, _⟩ := T.obj _ _ st7 b hb
          exact (pin' b hb o e).2
      cases b with
      | false =>
        simp only [Bool.false_eq_true, if_false] at q9 ⊢
        exact fin I9 q9
      | true =>
        simp only [if_true] at q9 ⊢
        refine thnF (pk.run _ s9 σ8 H9 _ I9 q9) fun z s10 ⟨yk, H10, I10, r10, q10⟩ => ?_
        refine thnF (pe.run _ s10 σ8 H10 _ I10 q10) fun z2 s11 ⟨yv, H11, I11, r11, kvs, k, b, ek, hD11, hb11, hz11, nx⟩ => ?_
        subst ek
        exact d_dictSetT (X := X.blk s3 H3 scope ce fp) hu I11 hD11 hb11 hz11 r10 r11 fun s12 I12 => fin I12 nx
  exact codeAny_compStart_dict loop (T.self X.A 0 _ _ _ st4 loop)
/-- as a value -/
theorem pe_dct {kx vx tg iter : Expr} {ifs : List Expr} {scope : Scope} {own : List (Str × Nat)} {pos : Pos} {wi : TI} {g : TG} {tt : TT} {tk tv : TE} (hu : X.A.units + 1 < cLine) (hc : X.calm = true) (hN : X.N.Nodup) (hi : PI X tg iter wi) (ok : BlkOk X.N X.env.scope scope own)
    (hg : ∀ (s : Shared) (H : Hp) (C : Addr) (cl : List (Str × Addr)) (fp : List Addr), PG (X.blk s H scope (compEnvC scope cl C X.env) fp) tg g) (ht : ∀ (s : Shared) (H : Hp) (C : Addr) (cl : List (Str × Addr)) (fp : List Addr), PTs (X.blk s H scope (compEnvC scope cl C X.env) fp) ifs tt)
    (hk : ∀ (s : Shared) (H : Hp) (C : Addr) (cl : List (Str × Addr)) (fp : List Addr), PE (X.blk s H scope (compEnvC scope cl C X.env) fp) kx tk)
    (he : ∀ (s : Shared) (H : Hp) (C : Addr) (cl : List (Str × Addr)) (fp : List Addr), PE (X.blk s H scope (compEnvC scope cl C X.env) fp) vx tv) (hs : ∀ x, foldedSetIterable iter X.env x = pure x := by intro _; rfl) :
    PE X (.DictComp kx vx [⟨tg, iter, ifs, 0⟩] scope pos) (tDct wi g tt tk tv (own.map (·.2))) := by
  refine ⟨fun pins s σ H Q I h => ?_⟩
  rw [arm_eval_DictComp]
  refine dct_core hc hN I hi ok hg ht hk he hs hu h fun D C s' m H' I' q hn f => ⟨m, hn, fun h'' sb => ?_⟩
  obtain ⟨f0, f1, f2, f3, f4, f5⟩ := f
  exact ⟨.ref D, H', I'.turned (t' := s'.toks) (fun b o hb e => (sb.2 b hb).trans e) f0 f1 f3 f4 f5, rfl, q⟩
end
/-! ### at the data level -/
section
variable {K : PySem.W.Frag} {C : Nat → Addr} {G G' H H' : Hp}
theorem Rept.mono (e : Ex G G') : ∀ {vs : List (List Key × V)} {ds : List (List Int × D)}, Rept K C G vs ds → Rept K C G' vs ds
  | _, _, .nil => .nil
  | _, _, .cons a b => .cons (a.mono e) (Rept.mono e b)
theorem Rept.app {s : List Int} {v : V} {d : D} (r : Rep K C G v d) : ∀ {vs : List (List Key × V)} {ds : List (List Int × D)}, Rept K C G vs ds → Rept K C G (vs ++ [(s.map Sum.inl, v)]) (ds ++ [(s, d)])
  | _, _, .nil => .cons r .nil
  | _, _, .cons a b => .cons a (Rept.app r b)
theorem Rept.length : ∀ {vs : List (List Key × V)} {ds : List (List Int × D)}, Rept K C G vs ds → vs.length = ds.length
  | _, _, .nil => rfl
  | _, _, .cons _ b => congrArg (· + 1) (Rept.length b)
theorem inl_inj {s t : List Int} (h : s.map (Sum.inl : Int → Key) = t.map Sum.inl) : s = t := List.map_inj_right (fun a b e => Sum.inl.inj e) |>.mp h
theorem Rept.any {s : List Int} : ∀ {vs : List (List Key × V)} {ds : List (List Int × D)}, Rept K C G vs ds → (ds.any fun p => p.1 == s) = false → (vs.any fun kv => decide (kv.1 = s.map Sum.inl)) = false
  | _, _, .nil, _ => rfl
  | _, _, .cons (s := t) a b, h => by
    rw [List.any_cons, Bool.or_eq_false_iff] at h
    rw [List.any_cons, Bool.or_eq_false_iff]
    refine ⟨decide_eq_false fun z => ?_, Rept.any b h.2⟩
    have := inl_inj z
    rw [this] at h
    simp at h
theorem putK_app {kvs : List (List Key × V)} {k : List Key} {v : V} (h : (kvs.any fun kv => decide (kv.1 = k)) = false) : putK kvs k v = kvs ++ [(k, v)] := by
  unfold putK
  rw [if_neg (by rw [h]; decide)]
def getT : List (List Int × D) → List Int → Option D
  | [], _ => none
  | (j, u) :: r, k => if j = k then some u else getT r k
theorem getT_ok : ∀ {kvs : List (List Key × V)} {kds : List (List Int × D)} {k : List Int} {d : D}, Rept K C G kvs kds → getT kds k = some d → ∃ v, valV kvs (k.map Sum.inl) = some v ∧ Rep K C G v d
  | _, _, _, _, .nil, h => by cases h
  | _, _, k, d, .cons (s := s) a b, h => by
    unfold getT at h
    split at h
    · rename_i e
      cases h
      subst e
      exact ⟨_, valV_pos rfl, a⟩
    · rename_i e
      obtain ⟨v, h1, h2⟩ := getT_ok b h
      exact ⟨v, by rw [valV_neg (fun z => e (inl_inj z))]; exact h1, h2⟩
theorem Step.mutD {a : Option Addr} {p : Addr} {o : HO} {G1 H1 : Hp} (s : Step a G H G1 H1) (hg : G1 p = none) (hp : H p = none) (hl : ∃ vs, H1 p = some (.dT vs)) : Step a G H G1 (upd H1 p o) where
  g := s.g
  fr := s.fr
  tb := fun x h1 => by
    have h2 := s.tb x h1
    refine tab_upd h2 fun z => ?_
    obtain ⟨ps, e, _⟩ := h2
    obtain ⟨vs, e2⟩ := hl
    rw [z, e2] at e
    cases e
  h := fun x u h1 h2 h3 => by rw [upd_ne (ne_of_none h1 hp)]; exact s.h x u h1 h2 h3
  dm := fun x h1 => by
    by_cases z : x = p
    · rw [z, upd_same] at h1; cases h1
    · rw [upd_ne z] at h1; exact s.dm x h1
  gh := fun x u h1 => by rw [upd_ne (ne_of_none h1 hg)]; exact s.gh x u h1
end
def dctS (g : FG) (k v : FE) (ρ : List SV) : List D → Tn → List (List Int × D) → Option (List (List Int × D) × Tn)
  | [], T, acc => some (acc, T)
  | d :: ds, T, acc => (g d ρ).bind fun ρ1 => (k ρ1 T).bind fun x => (v ρ1 x.2).bind fun y => match x.1 with
    | .kt ns => if (acc.any fun p => p.1 == ns) = true then none else dctS g k v ρ ds y.2 (acc ++ [(ns, y.1)])
    | _ => none
def dctE (it : FL) (g : FG) (k v : FE) (vs : List Nat) : FE := fun ρ T => (it ρ T).bind fun p => if p.1.length ≤ 50000 then (dctS g k v (wipeE ρ vs) p.1 p.2 []).map fun r => (.dit r.1, r.2) else none
section
variable {K : PySem.W.Frag} {C : Nat → Addr}
theorem sd_dct {wi : TI} {it : FL} {vs ws : List Nat} {tg : TG} {fg : FG} {tk tv : TE} {fk fv : FE} (hi : Si K C wi it) (hg : Sg K C ws tg fg) (hs : ∀ i ∈ ws, i ∈ vs) (hk : Sd K C tk fk) (he : Sd K C tv fv) : Sd K C (tDct wi tg tYes tk tv vs) (dctE it fg fk fv vs) := fun σ ρ T a G H res Tf ok e Q q => by
  unfold dctE at e
  obtain ⟨⟨ds, T1⟩, e1, e⟩ := Option.bind_eq_some_iff.mp e
  split at e
  case isFalse => cases e
  rename_i hz
  have hz : ds.length ≤ 50000 := hz
  obtain ⟨⟨rs, T9⟩, e8, e9⟩ := Option.map_eq_some_iff.mp e
  cases e9
  refine hi σ ρ T a G H ds T1 ok e1 _ fun J G1 H1 s1 t1 wk => ?_
  intro D hD
  have okw := (ok.step s1 t1).wipe vs
  have na : a ≠ some D := fun z => (t1.there z).1 hD
  refine ⟨fun i m H' => m = ds.length - i ∧ i ≤ ds.length ∧ ∃ T' G' vacc acc, Step a G1 H1 G' H' ∧ Tk K C T' a G' H' ∧ H' D = some (.dT vacc) ∧ G' D = none ∧ Rept K C G' vacc acc ∧ acc.length ≤ i ∧
      dctS fg fk fv (wipeE ρ vs) (ds.drop i) T' acc = some (rs, T9),
    ⟨ds.length, by simp, Nat.zero_le _, T1, G1, [], [], .newH s1.gh hD, t1.upd na, upd_same, s1.gh.none hD, .nil, Nat.le_refl _, e8⟩, ?_⟩
  rintro i m H' ⟨rfl, hi', T', G', vacc, acc, s', t', hD', gD', racc, hal, e'⟩
  by_cases hl : i < ds.length
  · right
    rw [List.drop_eq_getElem_cons hl] at e'
    unfold dctS at e'
    obtain ⟨ρ1, e2, e'⟩ := Option.bind_eq_some_iff.mp e'
    obtain ⟨⟨x0, T2⟩, e3, e'⟩ := Option.bind_eq_some_iff.mp e'
    obtain ⟨⟨y0, T4⟩, e4, e'⟩ := Option.bind_eq_some_iff.mp e'
    obtain ⟨ns, hx1, hnew, e5⟩ : ∃ ns, x0 = .kt ns ∧ (acc.any fun p => p.1 == ns) = false ∧ dctS fg fk fv (wipeE ρ vs) (ds.drop (i + 1)) T4 (acc ++ [(ns, y0)]) = some (rs, T9) := by
      cases x0 with
      | kt ns =>
        refine ⟨ns, rfl, ?_⟩
        cases hb : acc.any fun p => p.1 == ns with
        | true => simp [hb] at e'
        | false => exact ⟨rfl, by simpa [hb] using e'⟩
      | _ => simp at e'
    subst hx1
    obtain ⟨go, yl⟩ := (wk i G' H' s'.g s'.gh).2 _ (List.getElem?_eq_getElem hl)
    refine ⟨go, _, fun _ z => z, fun x H2 hy => ?_⟩
    obtain ⟨G2, s2, r2⟩ := yl x H2 hy
    refine hg _ _ ρ1 e2 x (L2.wipe σ vs) G2 H2 _ r2 s2.gh fun σ3 l3 o3 _ f3 => ?_
    refine ⟨wipe_same l3 o3 hs, ?_⟩
    have ok3 : Ok K C σ3 ρ1 T' a G2 H2 := f3 a T' ((okw.step s' t').pure s2)
    have hD2 : H2 D = some (.dT vacc) := s2.h D _ hD' (fun z => nomatch z) (fun _ z => nomatch z)
    have gD2 : G2 D = none := s2.fr D gD' (by rw [hD']; exact (fun z => nomatch z))
    show tYes σ3 H2 _
    unfold tYes
    dsimp only
    rw [if_pos rfl]
    refine hk σ3 ρ1 T' a G2 H2 _ T2 ok3 e3 _ fun u G3 H3 s3 t3 r3 => ?_
    have hD3 : H3 D = some (.dT vacc) := s3.h D _ hD2 (Ne.symm na) (fun _ z => nomatch z)
    have gD3 : G3 D = none := s3.fr D gD2 (by rw [hD2]; exact (fun z => nomatch z))
    refine he σ3 ρ1 T2 a G3 H3 _ T4 (ok3.step s3 t3) e4 _ fun w G4 H4 s4 t4 r4 => ?_
    have hD4 : H4 D = some (.dT vacc) := s4.h D _ hD3 (Ne.symm na) (fun _ z => nomatch z)
    have gD4 : G4 D = none := s4.fr D gD3 (by rw [hD3]; exact (fun z => nomatch z))
    have racc4 := racc.mono (s2.g.trans (s3.g.trans s4.g))
    have r3' := r3.mono s4.g
    cases r3' with
    | @kt ad _ h9 =>
      have hb : H4 ad = some (.tup ((ns.map (Sum.inl : Int → Key)).map kV)) := by
        have := s4.gh _ _ h9
        rw [List.map_map]
        exact this
      have pk := putK_app (v := w) (racc4.any hnew)
      refine ⟨vacc, ns.map Sum.inl, _, rfl, hD4, hb, sz_lt (by rw [racc.length]; omega), ds.length - (i + 1), by omega, rfl, hl, T4, G4, vacc ++ [(ns.map Sum.inl, w)], acc ++ [(ns, y0)], ?_, t4.upd na, by rw [pk]; exact upd_same, gD4, racc4.app r4, by rw [List.length_append]; exact Nat.succ_le_succ hal, e5⟩
      exact (((s'.trans s2.any).trans s3).trans s4).mutD gD4 hD ⟨_, hD4⟩
  · left
    have : i = ds.length := by omega
    subst this
    rw [List.drop_length] at e'
    cases e'
    refine ⟨(wk _ G' H' s'.g s'.gh).1 rfl, ?_⟩
    have s9 := (s1.trans s').freeze ok.gh (s1.dm D hD) hD'
    refine q (.ref D) _ H' s9 ?_ (.dit upd_same (racc.mono (.new gD')))
    unfold Tk at t' ⊢
    cases T9 with
    | none => cases a with
      | none => trivial
      | some b => exact t'
    | some ts => cases a with
      | none => exact t'
      | some b =>
        obtain ⟨ws', k1, k2, k3⟩ := t'
        have z : b ≠ D := fun z => na (by rw [z])
        exact ⟨ws', k1, by rw [upd_ne z]; exact k2, k3.mono (.new gD')⟩
/-- a tuple of ints that one has made -/
def ktE (f : FL) : FE := fun ρ T => (f ρ T).bind fun p => (ints? p.1).bind fun ns => if ns.length ≤ 100000 then some (.kt ns, p.2) else none
theorem sd_kt {t : TA} {g : FL} (ha : Sa K C t g) : Sd K C (tTup t) (ktE g) := fun σ ρ T a G H d T' ok e Q q => by
  unfold ktE at e
  obtain ⟨⟨x, T1⟩, e1, e0⟩ := Option.bind_eq_some_iff.mp e
  obtain ⟨ns, e2, e3⟩ := Option.bind_eq_some_iff.mp e0
  split at e3
  · rename_i hl
    cases e3
    have hx := ints?_some e2
    have hx' : x = ns.map .int := hx
    subst hx'
    refine ha σ ρ T a G H _ _ ok e1 _ fun vs G1 H1 s1 t1 r1 => ?_
    have hv := r1.of_ints
    subst hv
    refine ⟨sz_of (by rw [List.length_map]; exact hl), fun p hp => ?_⟩
    have s2 : Step none G1 H1 (upd G1 p (.tup (ns.map V.int))) (upd H1 p (.tup (ns.map V.int))) := .new s1.gh hp
    exact q _ _ _ (s1.trans s2.any) (t1.pure s2) (.kt upd_same)
  · cases e3
/-- d[a, b] -/
def dgT (f : FE) (g : FL) : FE := fun ρ T => (f ρ T).bind fun p => (g ρ p.2).bind fun r => (ints? r.1).bind fun ns => if ns.length ≤ 100000 then match p.1 with
  | .dit kvs => (getT kvs ns).map fun d => (d, r.2)
  | _ => none else none
theorem sd_dgT {ta : TE} {f : FE} {t : TA} {g : FL} (h : Sd K C ta f) (ha : Sa K C t g) : Sd K C (tDGet ta (tTup t)) (dgT f g) := fun σ ρ T a G H d T' ok e Q q => by
  unfold dgT at e
  obtain ⟨⟨x, T1⟩, e1, e0⟩ := Option.bind_eq_some_iff.mp e
  obtain ⟨⟨ks, T2⟩, e2, e3⟩ := Option.bind_eq_some_iff.mp e0
  obtain ⟨ns, e4, e5⟩ := Option.bind_eq_some_iff.mp e3
  split at e5
  case isFalse => cases e5
  rename_i hl
  have hx := ints?_some e4
  have hx' : ks = ns.map .int := hx
  subst hx'
  refine h σ ρ T a G H x T1 ok e1 _ fun v G1 H1 s1 t1 r1 => ?_
  have ok1 := ok.step s1 t1
  split at e5
  · rename_i kvs hd
    have hd' : x = .dit kvs := hd
    subst hd'
    obtain ⟨d', e6, e7⟩ := Option.map_eq_some_iff.mp e5
    cases e7
    refine ha σ ρ T1 a G1 H1 _ T2 ok1 e2 _ fun vs G2 H2 s2 t2 r2 => ?_
    have hv := r2.of_ints
    subst hv
    refine ⟨sz_of (by rw [List.length_map]; exact hl), fun p hp => ?_⟩
    have s3 : Step none G2 H2 (upd G2 p (.tup (ns.map V.int))) (upd H2 p (.tup (ns.map V.int))) := .new s2.gh hp
    have r1' := r1.mono (s2.g.trans s3.g)
    cases r1' with
    | dit h1 h2 =>
      obtain ⟨w, h3, h4⟩ := getT_ok h2 e6
      refine ⟨_, w, rfl, ?_, q w _ _ ((s1.trans s2).trans s3.any) (t2.pure s3) h4⟩
      rw [← h3]
      refine DGet.t (s3.gh _ _ h1) ?_
      rw [upd_same, List.map_map]
      rfl
  · cases e5
end
section
variable {X : Cx} {C : Nat → Addr} {a b : Expr} {ta tb : TE} {f g : FE} {es : List Expr} {t : TA} {fl : FL} {pos pos2 : Pos} {k x1 : Nat}
theorem q_kt (h : PAD X C es t fl) : PD X C (.Tuple es x1 pos) (tTup t) (ktE fl) := ⟨pe_tup h.pe, sd_kt h.sd⟩
theorem q_dgT (hr : Room k X.A) (ha : PD X C a ta f) (h : PAD X C es t fl) (hs : NoSl (.Tuple es x1 pos2) := by exact fun _ _ => rfl) : PD X C (.Subscript a (.Tuple es x1 pos2) pos) (tDGet ta (tTup t)) (dgT f fl) := ⟨pe_dget (by have := hr.un; omega) ha.pe (pe_tup h.pe) hs, sd_dgT ha.sd h.sd⟩
theorem q_dct {kx vx tg it : Expr} {tk tv : BK TE} {tgt : BK TG} {fk fv : FE} {fi : FL} {wi : TI} {vs : List Nat} {scope : Scope} {fg : FG} (own : List (Str × Nat)) (hv : own.map (·.2) = vs) (hr : Room k X.A) (hc : X.calm = true) (hN : X.N.Nodup) (hi : PID X C tg it wi fi) (ok : BlkOk X.N X.env.scope scope own)
    (hg : ∀ s H A cl fp, PGD (blkX X scope s H A cl fp) C tg vs (tgt s H A cl fp) fg) (hk : ∀ s H A cl fp, PD (blkX X scope s H A cl fp) C kx (tk s H A cl fp) fk) (he : ∀ s H A cl fp, PD (blkX X scope s H A cl fp) C vx (tv s H A cl fp) fv)
    (hfi : ∀ x, foldedSetIterable it X.env x = pure x := by intro _; rfl) (kg : ∀ s H A cl fp, tgt s H A cl fp = bk0 X tgt := by exact fun _ _ _ _ _ => rfl) (kk : ∀ s H A cl fp, tk s H A cl fp = bk0 X tk := by exact fun _ _ _ _ _ => rfl) (ke : ∀ s H A cl fp, tv s H A cl fp = bk0 X tv := by exact fun _ _ _ _ _ => rfl) :
    PD X C (.DictComp kx vx [⟨tg, it, [], 0⟩] scope pos) (tDct wi (bk0 X tgt) tYes (bk0 X tk) (bk0 X tv) vs) (dctE fi fg fk fv vs) := by
  subst hv
  exact ⟨pe_dct (by have := hr.un; omega) hc hN hi.pi ok (fun s H A cl fp => kg s H A cl fp ▸ (hg s H A cl fp).pg) (fun _ _ _ _ _ => pts_nil) (fun s H A cl fp => kk s H A cl fp ▸ (hk s H A cl fp).pe) (fun s H A cl fp => ke s H A cl fp ▸ (he s H A cl fp).pe) hfi,
    sd_dct hi.si (hg (PySem.start X.prog).1 (fun _ => none) 0 [] []).sg (fun _ h => h) (hk (PySem.start X.prog).1 (fun _ => none) 0 [] []).sd (he (PySem.start X.prog).1 (fun _ => none) 0 [] []).sd⟩
end
/-! ### comprehensions of two clauses -/
def lc2S (g : FG) (it1 : FL) (g1 : FG) (e : FE) (vs1 : List Nat) (ρ : List SV) : List D → Tn → Option (List D × Tn)
  | [], T => some ([], T)
  | d :: ds, T => (g d ρ).bind fun ρ1 => (it1 ρ1 T).bind fun p => if p.1.length ≤ 200 then (lcS g1 yesB e (wipeE ρ1 vs1) p.1 p.2).bind fun x => (lc2S g it1 g1 e vs1 ρ ds x.2).map fun r => (x.1 ++ r.1, r.2) else none
def lc2E (it : FL) (g : FG) (it1 : FL) (g1 : FG) (e : FE) (vs vs1 : List Nat) : FL := fun ρ T => match T with
  | none => (it ρ none).bind fun p => if p.1.length ≤ 200 then lc2S g it1 g1 e vs1 (wipeE ρ vs) p.1 p.2 else none
  | some _ => none
section
variable {K : PySem.W.Frag} {C : Nat → Addr}
/-- a list that no slot has, as the tank -/
theorem Ok.asTank {σ : L2.St} {ρ : List SV} {G H : Hp} {p : Addr} {vs : List V} {ds : List D} (o : Ok K C σ ρ none none G H) (hp : H p = some (.lst vs)) (hg : G p = none) (r : Reps K C G vs ds) (hn : ∀ (i : Nat) (es : List D), ρ[i]? = some (SV.own es) → σ[i]? ≠ some (some (V.ref p))) : Ok K C σ ρ (some ds) (some p) G H :=
  ⟨o.gh, o.len, o.val, fun i es h => by
    obtain ⟨q, ws, k1, k2, k3, k4, k5⟩ := o.own i es h
    exact ⟨q, ws, k1, k2, k3, fun z => hn i es h (by rw [k1, Option.some.inj z]), k5⟩, o.dis, (fun i h => by
    obtain ⟨q, k1, _⟩ := o.tnk i h
    cases k1), ⟨vs, hp, hg, r⟩, o.tb⟩
theorem Ok.noTank {σ : L2.St} {ρ : List SV} {G H : Hp} {p : Addr} {ds : List D} (o : Ok K C σ ρ (some ds) (some p) G H) (hn : ∀ i : Nat, ρ[i]? ≠ some SV.tnk) : Ok K C σ ρ none none G H :=
  ⟨o.gh, o.len, o.val, fun i es h => by
    obtain ⟨q, ws, k1, k2, k3, k4, k5⟩ := o.own i es h
    exact ⟨q, ws, k1, k2, k3, (fun z => nomatch z), k5⟩, o.dis, fun i h => absurd h (hn i), trivial, o.tb⟩
theorem Ok.mutTank {σ : L2.St} {ρ : List SV} {G H : Hp} {p : Addr} {ds es : List D} {vs : List V} (o : Ok K C σ ρ (some ds) (some p) G H) (r : Reps K C G vs es) : Ok K C σ ρ (some es) (some p) G (upd H p (.lst vs)) := by
  obtain ⟨ws, h1, h2, h3⟩ : ∃ vs, H p = some (.lst vs) ∧ G p = none ∧ Reps K C G vs ds := o.tk
  refine ⟨fun x u h => by rw [upd_ne (ne_of_none h h2)]; exact o.gh x u h, o.len, o.val, fun j es h => ?_, o.dis, o.tnk, ⟨vs, upd_same, h2, r⟩, ⟨tab_upd o.tb.h (o.tb.ne_lst h1), o.tb.g⟩⟩
  obtain ⟨q, ws, k1, k2, k3, k4, k5⟩ := o.own j es h
  exact ⟨q, ws, k1, by rw [upd_ne (fun z => k4 (by rw [z]))]; exact k2, k3, k4, k5⟩
theorem sf_lc2 {wi wi1 : TI} {it it1 : FL} {vs vs1 ws ws1 : List Nat} {tg tg1 : TG} {fg fg1 : FG} {te : TE} {f : FE} (hi : Si K C wi it) (hg : Sg K C ws tg fg) (hs : ∀ i ∈ ws, i ∈ vs) (hi1 : Si K C wi1 it1) (hg1 : Sg K C ws1 tg1 fg1) (hs1 : ∀ i ∈ ws1, i ∈ vs1) (he : Sd K C te f) :
    Sf K C (tLc2 wi tg tYes wi1 tg1 tYes te vs vs1) (lc2E it fg it1 fg1 f vs vs1) := fun σ ρ T a G H res Tf ok e Q q => by
  unfold lc2E at e
  cases T with
  | some ts => cases e
  | none =>
  have ha : a = none := by
    have t0 := ok.tk
    cases a with
    | none => rfl
    | some p => exact t0.elim
  subst ha
  obtain ⟨⟨ds, T1⟩, e1, e0⟩ := Option.bind_eq_some_iff.mp e
  split at e0
  case isFalse => cases e0
  rename_i hz
  have hz : ds.length ≤ 200 := hz
  refine hi σ ρ none none G H ds T1 ok e1 _ fun J G1 H1 s1 t1 wk => ?_
  have := t1.none_of
  subst this
  intro D hD
  have okw := (ok.step s1 t1).wipe vs
  have nown : ∀ (i : Nat) (es : List TR.D), (wipeE ρ vs)[i]? = some (SV.own es) → (L2.wipe σ vs)[i]? ≠ some (some (V.ref D)) := (new_ne (G' := G1) (H' := H1) (T' := none) okw hD).2
  refine ⟨fun i m H' => m = ds.length - i ∧ i ≤ ds.length ∧ ∃ G' vacc acc rest, Step none G1 H1 G' H' ∧ H' D = some (.lst vacc) ∧ G' D = none ∧ Reps K C G' vacc acc ∧ acc.length ≤ i * 200 ∧
      lc2S fg it1 fg1 f vs1 (wipeE ρ vs) (ds.drop i) none = some (rest, Tf) ∧ acc ++ rest = res,
    ⟨ds.length, by simp, Nat.zero_le _, G1, [], [], res, .newH s1.gh hD, upd_same, s1.gh.none hD, .nil, Nat.zero_le _, e0, rfl⟩, ?_⟩
  rintro i m H' ⟨rfl, hi', G', vacc, acc, rest, s', hD', gD', racc, hal, e', er⟩
  by_cases hl : i < ds.length
  · right
    rw [List.drop_eq_getElem_cons hl] at e'
    unfold lc2S at e'
    obtain ⟨ρ1, e2, e3⟩ := Option.bind_eq_some_iff.mp e'
    obtain ⟨⟨es, T2⟩, e4, e5⟩ := Option.bind_eq_some_iff.mp e3
    split at e5
    case isFalse => cases e5
    rename_i hz2
    have hz2 : es.length ≤ 200 := hz2
    obtain ⟨⟨xs, T3⟩, e6, e7⟩ := Option.bind_eq_some_iff.mp e5
    obtain ⟨⟨rest', Tf'⟩, e8, e9⟩ := Option.map_eq_some_iff.mp e7
    cases e9
    obtain ⟨go, yl⟩ := (wk i G' H' s'.g s'.gh).2 _ (List.getElem?_eq_getElem hl)
    refine ⟨go, _, fun _ z => z, fun x H2 hy => ?_⟩
    obtain ⟨G2, s2, r2⟩ := yl x H2 hy
    refine hg _ _ ρ1 e2 x (L2.wipe σ vs) G2 H2 _ r2 s2.gh fun σ3 l3 o3 _ f3 => ?_
    refine ⟨wipe_same l3 o3 hs, ?_⟩
    have hD2 : H2 D = some (.lst vacc) := s2.h D _ hD' (fun z => nomatch z) (fun _ z => nomatch z)
    have gD2 : G2 D = none := s2.fr D gD' (by rw [hD']; exact (fun z => nomatch z))
    have okb := (okw.step (T' := none) s' trivial).pure s2
    have ok3 : Ok K C σ3 ρ1 none none G2 H2 := f3 none none okb
    have ok4 : Ok K C σ3 ρ1 (some acc) (some D) G2 H2 := f3 (some D) (some acc) (okb.asTank hD2 gD2 (racc.mono s2.g) nown)
    have ntk : ∀ i : Nat, (wipeE ρ1 vs1)[i]? ≠ some SV.tnk := fun i h => by
      obtain ⟨q, k1, _⟩ := (ok3.wipe vs1).tnk i h
      cases k1
    unfold tYes
    dsimp only
    rw [if_pos rfl]
    refine hi1 σ3 ρ1 none none G2 H2 es T2 ok3 e4 _ fun J1 G3 H3 s3 t3 wk1 => ?_
    have := t3.none_of
    subst this
    have hD3 : H3 D = some (.lst vacc) := s3.h D _ hD2 (fun z => nomatch z) (fun _ z => nomatch z)
    have gD3 : G3 D = none := s3.fr D gD2 (by rw [hD2]; exact (fun z => nomatch z))
    have okt := (ok4.pure s3).wipe vs1
    have st3 : Step none G1 H1 G3 H3 := (s'.trans s2).trans s3
    refine ⟨fun j k H'' => k = es.length - j ∧ j ≤ es.length ∧ ∃ G'' vacc2 acc2 rest2, Ok K C (L2.wipe σ3 vs1) (wipeE ρ1 vs1) (some acc2) (some D) G'' H'' ∧ Ex G3 G'' ∧ Step none G1 H1 G'' H'' ∧ H'' D = some (.lst vacc2) ∧ Reps K C G'' vacc2 acc2 ∧ acc2.length ≤ i * 200 + j ∧
        lcS fg1 yesB f (wipeE ρ1 vs1) (es.drop j) none = some (rest2, T3) ∧ acc2 ++ rest2 = acc ++ xs,
      ⟨es.length, by simp, Nat.zero_le _, G3, vacc, acc, xs, okt, .refl _, st3, hD3, racc.mono (s2.g.trans s3.g), hal, e6, rfl⟩, ?_⟩
    rintro j k H'' ⟨rfl, hj', G'', vacc2, acc2, rest2, okq, q1, q2, hD4, racc2, hal2, e10, er2⟩
    obtain ⟨_, _, gD4, _⟩ : ∃ vs, H'' D = some (.lst vs) ∧ G'' D = none ∧ Reps K C G'' vs acc2 := okq.tk
    by_cases hl2 : j < es.length
    · right
      rw [List.drop_eq_getElem_cons hl2] at e10
      unfold lcS at e10
      obtain ⟨ρ2, e11, e12⟩ := Option.bind_eq_some_iff.mp e10
      obtain ⟨⟨b, T5⟩, e13, e14⟩ := Option.bind_eq_some_iff.mp e12
      cases e13
      rw [if_pos rfl] at e14
      obtain ⟨⟨y, T6⟩, e15, e16⟩ := Option.bind_eq_some_iff.mp e14
      obtain ⟨⟨rest3, T7⟩, e17, e18⟩ := Option.map_eq_some_iff.mp e16
      cases e18
      obtain ⟨go1, yl1⟩ := (wk1 j G'' H'' q1 okq.gh).2 _ (List.getElem?_eq_getElem hl2)
      refine ⟨go1, _, fun _ z => z, fun x1 H5 hy1 => ?_⟩
      obtain ⟨G5, s5, r5⟩ := yl1 x1 H5 hy1
      refine hg1 _ _ ρ2 e11 x1 (L2.wipe σ3 vs1) G5 H5 _ r5 s5.gh fun σ4 l4 o4 _ f4 => ?_
      refine ⟨wipe_same l4 o4 hs1, ?_⟩
      have okq5 := okq.pure s5
      have ok5 : Ok K C σ4 ρ2 none none G5 H5 := f4 none none (okq5.noTank ntk)
      have hD5 : H5 D = some (.lst vacc2) := s5.h D _ hD4 (fun z => nomatch z) (fun _ z => nomatch z)
      have gD5 : G5 D = none := s5.fr D gD4 (by rw [hD4]; exact (fun z => nomatch z))
      dsimp only
      rw [if_pos rfl]
      refine he σ4 ρ2 none none G5 H5 y T6 ok5 e15 _ fun w G6 H6 s6 t6 r6 => ?_
      have := t6.none_of
      subst this
      have hD6 : H6 D = some (.lst vacc2) := s6.h D _ hD5 (fun z => nomatch z) (fun _ z => nomatch z)
      have gD6 : G6 D = none := s6.fr D gD5 (by rw [hD5]; exact (fun z => nomatch z))
      have big : acc2.length < 100000 := by
        have : i * 200 ≤ 200 * 200 := Nat.mul_le_mul_right _ (by omega)
        omega
      have rr : Reps K C G6 (vacc2 ++ [w]) (acc2 ++ [y]) := (racc2.mono (s5.g.trans s6.g)).append (.cons r6 .nil)
      refine ⟨vacc2, hD6, sz_lt (by rw [racc2.length]; exact big), es.length - (j + 1), by omega, rfl, hl2, G6, vacc2 ++ [w], acc2 ++ [y], rest3, (okq5.pure s6).mutTank rr, q1.trans (s5.g.trans s6.g), ?_, upd_same, rr, by rw [List.length_append]; exact Nat.succ_le_succ hal2, e17, ?_⟩
      · exact ((q2.trans s5).trans s6).mut gD6 (.inl hD) ⟨_, hD6⟩
      · rw [List.append_assoc]; exact er2
    · left
      have : j = es.length := by omega
      subst this
      rw [List.drop_length] at e10
      cases e10
      rw [List.append_nil] at er2
      subst er2
      exact ⟨(wk1 _ G'' H'' q1 okq.gh).1 rfl, ds.length - (i + 1), by omega, rfl, hl, G'', vacc2, acc ++ xs, rest', q2, hD4, gD4, racc2, by rw [Nat.succ_mul]; omega, e8, by rw [← er, List.append_assoc]⟩
  · left
    have : i = ds.length := by omega
    subst this
    rw [List.drop_length] at e'
    cases e'
    rw [List.append_nil] at er
    subst er
    exact ⟨(wk _ G' H' s'.g s'.gh).1 rfl, q D vacc G' H' (s1.trans s') trivial (s1.dm D hD) hD' gD' racc⟩
end
section
variable {X : Cx} {C : Nat → Addr} {elt tg it tg1 it1 : Expr} {te : BK TE} {tgt tgt1 : BK TG} {wi1 : BK TI} {f : FE} {fi fi1 : FL} {pos : Pos} {wi : TI} {vs vs1 : List Nat} {scope : Scope} {fg fg1 : FG}
theorem f_lc2 (own : List (Str × Nat)) {vv : List Nat} (hvv : own.map (·.2) = vv) (hv : vv = vs ++ vs1) (hc : X.calm = true) (hN : X.N.Nodup) (hi : PID X C tg it wi fi) (ok : BlkOk X.N X.env.scope scope own)
    (hg : ∀ s H A cl fp, PGD (blkX X scope s H A cl fp) C tg vs (tgt s H A cl fp) fg) (hi1 : ∀ s H A cl fp, PID (blkX X scope s H A cl fp) C tg1 it1 (wi1 s H A cl fp) fi1) (hg1 : ∀ s H A cl fp, PGD (blkX X scope s H A cl fp) C tg1 vs1 (tgt1 s H A cl fp) fg1)
    (he : ∀ s H A cl fp, PD (blkX X scope s H A cl fp) C elt (te s H A cl fp) f)
    (hfi : ∀ x, foldedSetIterable it X.env x = pure x := by intro _; rfl) (hfi1 : ∀ env x, foldedSetIterable it1 env x = pure x := by intro _ _; rfl)
    (kg : ∀ s H A cl fp, tgt s H A cl fp = bk0 X tgt := by exact fun _ _ _ _ _ => rfl) (ki : ∀ s H A cl fp, wi1 s H A cl fp = bk0 X wi1 := by exact fun _ _ _ _ _ => rfl) (kg1 : ∀ s H A cl fp, tgt1 s H A cl fp = bk0 X tgt1 := by exact fun _ _ _ _ _ => rfl)
    (ke : ∀ s H A cl fp, te s H A cl fp = bk0 X te := by exact fun _ _ _ _ _ => rfl) :
    PF X C (.ListComp elt [⟨tg, it, [], 0⟩, ⟨tg1, it1, [], 0⟩] scope pos) (tLc2 wi (bk0 X tgt) tYes (bk0 X wi1) (bk0 X tgt1) tYes (bk0 X te) vv vs1) (lc2E fi fg fi1 fg1 f vv vs1) := by
  subst hvv
  exact ⟨pe_lc2 hc hN hi.pi ok (fun i h => by rw [hv]; exact List.mem_append_right _ h) (fun s H A cl fp => kg s H A cl fp ▸ (hg s H A cl fp).pg) (fun _ _ _ _ _ => pts_nil) (fun s H A cl fp => ki s H A cl fp ▸ (hi1 s H A cl fp).pi) (fun s H A cl fp => kg1 s H A cl fp ▸ (hg1 s H A cl fp).pg) (fun _ _ _ _ _ => pts_nil) (fun s H A cl fp => ke s H A cl fp ▸ (he s H A cl fp).pe) hfi hfi1,
    sf_lc2 hi.si (hg (PySem.start X.prog).1 (fun _ => none) 0 [] []).sg (fun i h => by rw [hv]; exact List.mem_append_left _ h) (hi1 (PySem.start X.prog).1 (fun _ => none) 0 [] []).si (hg1 (PySem.start X.prog).1 (fun _ => none) 0 [] []).sg (fun _ h => h) (he (PySem.start X.prog).1 (fun _ => none) 0 [] []).sd⟩
end
end TR

/-! Class methods at the data level. -/
namespace TR
open PySem PySem.Spec PyProof.Rows L2
def spC (K : PySem.W.Frag) (C : Nat → Addr) (k : Nat) (F : List D → Option D) : Sp := fun vs H Q E => ∃ ws, vs = .ref (C k) :: ws ∧ spP K C F ws H Q E
structure KnC (P : Program) (w : World) (K : PySem.W.Frag) (mg : Str → Option Value) (base : Heap) (C : Nat → Addr) (k : Nat) (m : Str) (n : Nat) (sp : Sp) : Prop where
  ex : ∃ mc p g, ClX.CRead K (C k) mc ∧ ClX.CMet K (C k) mc m p g ∧ FnR P w K mg base CX0 n g sp
section
variable {X : Cx} {C : Nat → Addr} {e : Expr} {es : List Expr} {t : TA} {fl : FL} {pos apos px : Pos} {k n : Nat} {x m : Str} {pl : Sem Bool}
theorem q_cmeth {F : List D → Option D} (M : KnC X.prog X.w X.K X.mg X.base C k m n (spC X.K C k F)) (hr : Room n X.A) (hm : X.mg x = some (.ref (C k))) (ha : PAD X C (e :: es) t fl) (hg : Gl X x := by rfl) (hdb : (x == ("__debug__" : Str)) = false := by decide)
    (hst : starEach (e :: es) X.env = (false, eval e X.env) :: starEach es X.env := by rfl) (hpl : (backTo pos (starEach es X.env)).any (·.1) = false := by rfl)
    (ht : eval (.Call (.Attribute (.Name x px) m apos) (e :: es) [] pos) X.env = (do
      let ov ← eval (.Name x px) X.env
      standAt apos.atName
      let (f, first) ← holding [ov] (getMethod ov m pl)
      callWith pos f first (backTo pos (starEach (e :: es) X.env)) (backToKw pos (keywordEach [] X.env))) := by rfl) :
    PD X C (.Call (.Attribute (.Name x px) m apos) (e :: es) [] pos) (ClX.tCMeth (C k) (spC X.K C k F) E0 (tC (.ref (C k))) t) (cO F fl) := by
  obtain ⟨mc, p, g, h1, h2, hf⟩ := M.ex
  refine ⟨ClX.pe_cmeth (pe_glob hg hm rfl hdb) h1 h2 hf hr pass0 ha.pe hst hpl ht, fun σ ρ T a G H d T' ok e Q q => ?_⟩
  unfold cO at e
  obtain ⟨⟨ds, T1⟩, e1, e0⟩ := Option.bind_eq_some_iff.mp e
  obtain ⟨z, e3, e4⟩ := Option.map_eq_some_iff.mp e0
  cases e4
  refine ⟨rfl, ha.sd σ ρ T a G H ds T1 ok e1 _ fun vs G1 H1 s1 t1 r1 => ?_⟩
  exact ⟨vs, rfl, G1, ds, _, s1.gh, (ok.step s1 t1).tb, r1, e3, fun v G2 H2 s2 r2 => q v G2 H2 (s1.trans s2.any) (t1.pure s2) r2⟩
end
/-! ### bodies of class methods that end with cls(..) -/
section
variable (K : PySem.W.Frag) (C : Nat → Addr)
def Cs (k : Nat) (t : TS) (f : List SV → Option D) : Prop := ∀ σ ρ G H d (D : Ends), Ok K C σ ρ none none G H → σ[0]? = some (some (V.ref (C k))) → f ρ = some d → (∀ v G' H', Step none G H G' H' → Rep K C G' v d → D.rt v H') → t D σ H
end
def cDrop (f : FE) (g : List SV → Option D) : List SV → Option D := fun ρ => (f ρ none).bind fun _ => g ρ
def cIf (c : FB) (g : List SV → Option D) : List SV → Option D := fun ρ => (c ρ none).bind fun p => if p.1 = true then none else g ρ
def cRet (k : Nat) (F : List D → Option (List D)) (fl : FL) : List SV → Option D := fun ρ => (fl ρ none).bind fun p => (F p.1).map (.obj k)
section
variable {K : PySem.W.Frag} {C : Nat → Addr} {k : Nat} {te : TE} {f : FE} {t : TS} {g : List SV → Option D} {tt : TT} {c : FB} {ta : TA} {fl : FL}
theorem cs_drop (h : Sd K C te f) (h2 : Cs K C k t g) : Cs K C k (tSeq (tDrop te) t) (cDrop f g) := fun σ ρ G H d D ok e0 e q => by
  unfold cDrop at e
  obtain ⟨⟨x, T1⟩, e1, e2⟩ := Option.bind_eq_some_iff.mp e
  refine h σ ρ none none G H x T1 ok e1 _ fun v G1 H1 s1 t1 r1 => ?_
  have := t1.none_of
  subst this
  exact h2 σ ρ G1 H1 d D (ok.step s1 t1) e0 e2 fun v G2 H2 s2 r2 => q v G2 H2 (s1.trans s2) r2
theorem cs_if (h : Sb K C tt c) (h2 : Cs K C k t g) : Cs K C k (tSeq (tIfS tt tNever tNext) t) (cIf c g) := fun σ ρ G H d D ok e0 e q => by
  unfold cIf at e
  obtain ⟨⟨b, T1⟩, e1, e2⟩ := Option.bind_eq_some_iff.mp e
  refine h σ ρ none none G H b T1 ok e1 _ fun G1 H1 s1 t1 => ?_
  have := t1.none_of
  subst this
  cases b with
  | true => rw [if_pos rfl] at e2; cases e2
  | false => exact h2 σ ρ G1 H1 d D (ok.step s1 t1) e0 (by simpa using e2) fun v G2 H2 s2 r2 => q v G2 H2 (s1.trans s2) r2
theorem cs_ret {F : List D → Option (List D)} (ha : Sa K C ta fl) : Cs K C k (tRet (tMakeL 0 (C k) (spI K C k F) E0 ta)) (cRet k F fl) := fun σ ρ G H d D ok e0 e q => by
  unfold cRet at e
  obtain ⟨⟨ds, T1⟩, e1, e2⟩ := Option.bind_eq_some_iff.mp e
  obtain ⟨fs, e5, e6⟩ := Option.map_eq_some_iff.mp e2
  subst e6
  refine ⟨e0, ha σ ρ none none G H ds T1 ok e1 _ fun vs G1 H1 s1 t1 r1 => ?_⟩
  have := t1.none_of
  subst this
  intro x dx hx hdx nx
  rw [List.append_nil]
  exact ⟨G1, H1, x, dx, vs, ds, fs, rfl, s1.gh, (ok.step s1 t1).tb, hx, hdx, nx, rfl, r1, e5, fun G' H' s2 r2 => ⟨rfl, q (.ref x) G' H' (s1.trans s2) r2⟩⟩
end
def runC (n m : Nat) (f : List SV → Option D) (ds : List D) : Option D := if ds.length + 1 = m then f (.un :: startE (n - 1) ds) else none
section
variable {K : PySem.W.Frag} {C : Nat → Addr} {k : Nat}
theorem spC_len {n m : Nat} {f : List SV → Option D} {vs : List V} {H : Hp} {Q : VK} {E : XK} (h : spC K C k (runC n m f) vs H Q E) : vs.length = m := by
  obtain ⟨ws, rfl, G, ds, d, e, tb, r, hf, q⟩ := h
  unfold runC at hf
  split at hf
  · rename_i hl; rw [List.length_cons, r.length]; exact hl
  · cases hf
theorem body_C {N : List Str} {m : Nat} {t : TS} {f : List SV → Option D} (hb : Cs K C k t f) (hm : m ≤ N.length) {vs : List V} {H : Hp} {Q : VK} {E : XK} (h : spC K C k (runC N.length m f) vs H Q E) : t { nx := fun _ H' => Q .non H', rt := Q } (L2.start N vs) H := by
  obtain ⟨ws, rfl, G, ds, d, e, tb, r, hf, q⟩ := h
  unfold runC at hf
  split at hf
  case isFalse => cases hf
  rename_i hl
  have e1 : L2.start N (V.ref (C k) :: ws) = some (.ref (C k)) :: L2.start (N.drop 1) ws := by
    unfold L2.start
    rw [List.map_cons, List.cons_append, List.length_cons, List.length_drop]
    congr 3
    omega
  have o := ok_start (N := N.drop 1) e tb r (by rw [List.length_drop, r.length]; omega)
  rw [List.length_drop] at o
  refine hb _ (.un :: startE (N.length - 1) ds) G H d _ ?_ (by rw [e1]; rfl) hf fun v G' H' s' r' => q v G' H' s' r'
  rw [e1]
  refine ⟨e, by rw [List.length_cons, List.length_cons, o.len], fun i d h => ?_, fun i ds h => ?_, fun i j ds es p h1 h2 h3 h4 => ?_, fun i h => ?_, trivial, tb⟩
  · cases i with
    | zero => cases h
    | succ i => exact o.val i d (by simpa using h)
  · cases i with
    | zero => cases h
    | succ i => exact absurd (by simpa using h) (startE_own i ds)
  · cases i with
    | zero => cases h1
    | succ i => exact absurd (by simpa using h1) (startE_own i ds)
  · cases i with
    | zero => cases h
    | succ i =>
      obtain ⟨q, k1, _⟩ := o.tnk i (by simpa using h)
      cases k1
end
structure FxC (K : PySem.W.Frag) (C : Nat → Addr) (k : Nat) (m qual : Str) (st : Stmt) (ps : List Str) : Prop where
  ex : ∃ f fd mc p, Fun K m qual st f fd ∧ ClX.CRead K (C k) mc ∧ ClX.CMet K (C k) mc m p f ∧ Binds K fd ps []
structure PCl (X : Cx) (C : Nat → Addr) (k : Nat) (st : List Stmt) (t : TS) (f : List SV → Option D) : Prop where
  ps : PSs X st t
  cs : Cs X.K C k t f
section
variable {P : Program} {w : World} {K : PySem.W.Frag} {mg : Str → Option Value} {base : Heap} {C : Nat → Addr} {m qual : Str} {st : Stmt} {N ps : List Str} {k j : Nat}
theorem kn_C {fs : List SV → Option D} {n l : Nat} (F : FxC K C j m qual st ps) (S : FnScope N ps (defScope st)) (hn : N.length = n) (hm : ps.length = l)
    (hb : ∀ (f : Addr) (cdv : Value) (A : Around) (outer : List Env) (s : Shared) (H : Hp) (E : XK), Room k (A.deeper (envOfC qual (defScope st) s.heap.objs.size f cdv)) → ∃ t, PCl (bCx P w K mg base N qual st f cdv A outer s H E) C j (defBody st) t fs) :
    KnC P w K mg base C j m (k + 1) (spC K C j (runC n l fs)) := by
  obtain ⟨f, fd, mc, p, F1, g1, g2, b⟩ := F.ex
  subst hn hm
  have hpl : ps.length ≤ N.length := by have := congrArg List.length S.pre; rw [List.length_take] at this; omega
  refine ⟨mc, p, f, g1, g2, ?_⟩
  have ok : FnOk P w K mg base CX0 (k + 1) f fd ps (spC K C j (runC N.length ps.length fs)) := F1.ok S (fun vs H Q E h => spC_len h) (fun cdv A outer s H vs Q E hr h => let ⟨t, z⟩ := hb f cdv A outer s H E hr; ⟨t, z.ps, body_C z.cs hpl h⟩)
  exact (ok.raw b .nil).imp fun vs H Q E h => by rw [List.append_nil]; exact h
end
section
variable {X : Cx} {C : Nat → Addr} {k n : Nat} {e c : Expr} {es : List Expr} {te : TE} {f : FE} {pos p : Pos} {rest xs : List Stmt} {t : TS} {g : List SV → Option D} {tt : TT} {ft : FB} {ta : TA} {fl : FL} {x : Str}
theorem x_drop (h : PD X C e te f) (h2 : PCl X C k rest t g) (hs : swapsWith e none pos.line X.env = pure false := by rfl) : PCl X C k (.Expr e pos :: rest) (tSeq (tDrop te) t) (cDrop f g) := ⟨pss_cons (ps_expr h.pe hs) h2.ps, cs_drop h.sd h2.cs⟩
theorem x_if (hc : PTD X C c tt ft) (h2 : PCl X C k rest t g) : PCl X C k (.If c xs [] pos :: rest) (tSeq (tIfS tt tNever tNext) t) (cIf ft g) := ⟨pss_cons (ps_if hc.pe pss_never pss_nil) h2.ps, cs_if hc.sd h2.cs⟩
theorem x_ret {F : List D → Option (List D)} (M : KnI X.prog X.w X.K X.mg X.base C k n (spI X.K C k F)) (hr : Room (n + 1) X.A) (hN : X.N[0]? = some x) (hv : Vis X.env.scope x) (ha : PAD X C (e :: es) ta fl) (hdb : (x == ("__debug__" : Str)) = false := by decide) (hcd : (x == ("__classdict__" : Str)) = false := by decide)
    (he : starEach (e :: es) X.env = (false, eval e X.env) :: starEach es X.env := by rfl) (hpl : (backTo pos (starEach es X.env)).any (·.1) = false := by rfl) {pos2 : Pos} : PCl X C k [.Return (some (.Call (.Name x p) (e :: es) [] pos)) pos2] (tRet (tMakeL 0 (C k) (spI X.K C k F) E0 ta)) (cRet k F fl) := by
  obtain ⟨f, fd, ps, m, hf, hb⟩ := M.ex
  exact ⟨pss_one (ps_ret (pe_makeL m hf hr hN hv hb ha.pe hdb hcd he hpl)), cs_ret ha.sd⟩
end
/-! ### a tank made, used and left -/
section
variable {K : PySem.W.Frag} {C : Nat → Addr}
theorem Step.absorb {p : Addr} {G H G1 H1 G' H' : Hp} (s : Step none G H G1 H1) (hp : H p = none) (t : Step (some p) G1 H1 G' H') : Step none G H G' H' where
  g := s.g.trans t.g
  fr := fun x h1 h2 => t.fr x (s.fr x h1 h2) fun z => h2 (s.dm x z)
  h := fun x o h1 h2 h3 => t.h x o (s.h x o h1 h2 h3) (fun z => by rw [Option.some.inj z, hp] at h1; cases h1) h3
  tb := fun x z => t.tb x (s.tb x z)
  dm := fun x z => s.dm x (t.dm x z)
  gh := t.gh
theorem Ok.setAny {a : Option Addr} {G H : Hp} {σ : L2.St} {ρ : List SV} {T : Tn} (o : Ok K C σ ρ T a G H) (i : Nat) (w : Option V) : Ok K C (σ.set i w) (ρ.set i .un) T a G H := by
  have sp : ∀ (j : Nat) (s : SV), s ≠ .un → (ρ.set i SV.un)[j]? = some s → i ≠ j ∧ ρ[j]? = some s := fun j s hs h => by
    by_cases z : i = j
    · subst z
      have hl : i < ρ.length := by
        have := (List.getElem?_eq_some_iff.mp h).1
        rw [List.length_set] at this; exact this
      rw [List.getElem?_set_self hl] at h
      exact absurd (Option.some.inj h).symm hs
    · rw [List.getElem?_set_ne z] at h
      exact ⟨z, h⟩
  refine ⟨o.gh, by rw [List.length_set, List.length_set]; exact o.len, fun j d h => ?_, fun j ds h => ?_, fun j k ds es p h1 h2 h3 h4 => ?_, fun j h => ?_, o.tk, o.tb⟩
  · obtain ⟨z, h⟩ := sp j (.val d) (fun z => SV.noConfusion z) h
    rw [List.getElem?_set_ne z]
    exact o.val j d h
  · obtain ⟨z, h⟩ := sp j (.own ds) (fun z => SV.noConfusion z) h
    rw [List.getElem?_set_ne z]
    exact o.own j ds h
  · obtain ⟨z1, h1⟩ := sp j (.own ds) (fun z => SV.noConfusion z) h1
    obtain ⟨z2, h2⟩ := sp k (.own es) (fun z => SV.noConfusion z) h2
    rw [List.getElem?_set_ne z1] at h3
    rw [List.getElem?_set_ne z2] at h4
    exact o.dis j k ds es p h1 h2 h3 h4
  · obtain ⟨z, h⟩ := sp j .tnk (fun z => SV.noConfusion z) h
    rw [List.getElem?_set_ne z]
    exact o.tnk j h
end
def sTwo (i : Nat) (f : FL) (F : List D → List D → Option (D × List D)) : FS := fun ρ T => match T with
  | none => (f ρ none).bind fun p => (F p.1 []).bind fun q => match q.1 with
    | .bl true => if i < ρ.length then some (.nx (ρ.set i .un) none) else none
    | _ => none
  | some _ => none
section
variable {K : PySem.W.Frag} {C : Nat → Addr} {te : TE} {f : FL} {u : TS}
theorem ss_two {i : Nat} {F : List D → List D → Option (D × List D)} (h : Sf K C te f) : Ss K C (tSeq (tAsg te (gName i)) (tIfS (tNot (tB (tCall (spT K C F) [] E0 (tCons (tVar i) tNil)))) u tNext)) (sTwo i f F) := fun a G0 H0 σ ρ T G H out D ok e q => by
  unfold sTwo at e
  cases T with
  | some ts => cases e
  | none =>
  have ha : a = none := by
    have t0 := ok.ok.tk
    cases a with
    | none => rfl
    | some p => exact t0.elim
  subst ha
  obtain ⟨⟨ds, T1⟩, e1, e2⟩ := Option.bind_eq_some_iff.mp e
  obtain ⟨⟨d, tk'⟩, e3, e4⟩ := Option.bind_eq_some_iff.mp e2
  obtain ⟨hd, hl, ho⟩ : d = .bl true ∧ i < ρ.length ∧ Out.nx (ρ.set i .un) none = out := by
    cases d with
    | bl b => cases b with
      | true =>
        by_cases z : i < ρ.length
        · simp [z] at e4; exact ⟨rfl, z, e4⟩
        · simp [z] at e4
      | false => simp at e4
    | _ => simp at e4
  subst hd ho
  refine h σ ρ none none G H ds T1 ok.ok e1 _ fun p vs G1 H1 s1 t1 hn hp hg r1 => ?_
  have := t1.none_of
  subst this
  have hl' : i < σ.length := by rw [← ok.ok.len]; exact hl
  refine ⟨.ref p, List.getElem?_set_self hl', ?_⟩
  have ok1 := ok.step (T' := none) s1 trivial
  refine ⟨G1, p, vs, ds, [], [], .bl true, tk', rfl, s1.gh, ok1.ok.tb, hp, hg, r1, .nil, e3, fun v G2 H2 s2 t2 r2 => ?_⟩
  cases r2
  refine ⟨true, rfl, ?_⟩
  show (if (!true) = true then _ else _)
  rw [if_neg (by decide)]
  have s3 := s1.absorb hn s2
  have ok2 := ok.step (T' := none) s3 trivial
  exact q _ G2 H2 ⟨ok2.ok.setAny i _, ok2.st, fun j es p h1 h2 => by
    obtain ⟨z, h⟩ := own_set h1 (fun _ z => nomatch z)
    rw [List.getElem?_set_ne z] at h2
    exact ok2.fresh j es p h h2, ok2.e0⟩ s3.g
end
section
variable {X : Cx} {C : Nat → Addr} {e : Expr} {te : TE} {fl : FL} {x y : Str} {px px2 pf pc p1 p2 p3 : Pos} {k : Nat} {xs : List Stmt} {ps : List Str}
theorem z_two (i : Nat) {F : List D → List D → Option (D × List D)} (hN : X.N.Nodup) (hi : X.N[i]? = some x) (hx : X.env.scope.names.lookup x = some .local) (he : PF X C e te fl) (hk : Kn X.prog X.w X.K X.mg X.base y k ps (spT X.K C F)) (hr : Room k X.A)
    (hs : swapsWith e (some (.Name x px)) p1.line X.env = pure false := by rfl) (hg : Gl X y := by rfl) (hdb : (y == ("__debug__" : Str)) = false := by decide) (hd : (x == ("__debug__" : Str)) = false := by decide) (hcd : (x == ("__classdict__" : Str)) = false := by decide)
    (hst : starEach [.Name x px2] X.env = (false, eval (.Name x px2) X.env) :: starEach [] X.env := by rfl) (hpl : (backTo pc (starEach [] X.env)).any (·.1) = false := by rfl)
    (ht : ∀ whole, isTrue (.Call (.Name y pf) [.Name x px2] [] pc) X.env whole = (do let v ← whole; standAt (Expr.Call (.Name y pf) [.Name x px2] [] pc).pos; holding [v] (truthy v)) := by intro _; rfl) :
    PSsD X C [.Assign [.Name x px] e p1, .If (.UnaryOp .Not (.Call (.Name y pf) [.Name x px2] [] pc) p2) xs [] p3] (tSeq (tAsg te (gName i)) (tIfS (tNot (tB (tCall (spT X.K C F) [] E0 (tCons (tVar i) tNil)))) tNever tNext)) (sTwo i fl F) := by
  obtain ⟨f, fd, F1, g, kp, b⟩ := hk.ex
  exact ⟨pss_cons (ps_set hN hi (.inl hx) he.pe hs (.inr hx)) (pss_one (ps_if (pt_not (pt_val (pe_call F1 hr hg g kp b .nil pass0 (pa_cons (pe_var hi (.inl hx) hd hcd) pa_nil hst) hdb hst hpl) ht)) pss_never pss_nil)), ss_two he.sd⟩
end
end TR

namespace TR
open PySem PySem.Spec PyProof.Rows L2
structure Tops (P : Program) (w : World) (K : PySem.W.Frag) (mg : Str → Option Value) (base : Heap) (C : Nat → Addr) : Prop where
  b_abs : mg "abs" = none
  b_all : mg "all" = none
  b_any : mg "any" = none
  b_bool : mg "bool" = none
  b_enumerate : mg "enumerate" = none
  b_int : mg "int" = none
  b_isinstance : mg "isinstance" = none
  b_len : mg "len" = none
  b_list : mg "list" = none
  b_max : mg "max" = none
  b_min : mg "min" = none
  b_next : mg "next" = none
  b_range : mg "range" = none
  b_sorted : mg "sorted" = none
  b_tuple : mg "tuple" = none
  b_zip : mg "zip" = none
  x_wall : Fx K mg "_wall" (topS 0) ["k"]
  x_is_whole : Fx K mg "is_whole" (topS 15) ["value"]
  x_is_integer : Fx K mg "is_integer" (topS 16) ["value"]
  x_is_within : Fx K mg "is_within" (topS 17) ["value", "least", "greatest"]
  x_is_prime : Fx K mg "is_prime" (topS 18) ["value"]
  x_is_residue_row : Fx K mg "is_residue_row" (topS 19) ["prime", "width", "value"]
  x_undone_residue : Fx K mg "undone_residue" (topS 20) ["prime", "residue"]
  x_require_integer : Fx K mg "require_integer" (topS 21) ["value"]
  x_require_within : Fx K mg "require_within" (topS 22) ["value", "least", "greatest"]
  x_require_prime : Fx K mg "require_prime" (topS 23) ["value"]
  x_zero_row : Fx K mg "zero_row" (topS 25) ["width"]
  x_single_row : Fx K mg "single_row" (topS 26) ["width", "place"]
  x_scaled_row : Fx K mg "scaled_row" (topS 27) ["prime", "factor", "row"]
  x_added_row : Fx K mg "added_row" (topS 28) ["prime", "row", "other", "factor"]
  x_led_row : Fx K mg "led_row" (topS 29) ["prime", "table", "row", "width"]
  x_lead_of : FxL K mg base C "lead_of" (topS 30) ["row"]
  x_rest_of : Fx K mg "rest_of" (topS 31) ["prime", "space", "row"]
  x_with_row : Fx K mg "with_row" (topS 32) ["prime", "space", "row"]
  x_reduced : Fx K mg "reduced" (topS 33) ["prime", "rows"]
  x_solution_in : Fx K mg "solution_in" (topS 34) ["prime", "table", "row"]
  x_places_table : Fx K mg "places_table" (topS 37) ["pairs"]
  x_full_places : Fx K mg "full_places" (topS 38) ["side"]
  x_powers_of_letter : Fx K mg "powers_of_letter" (topS 39) ["prime", "poly", "many"]
  x_poly_products : Fx K mg "poly_products" (topS 40) ["prime", "poly"]
  x_pair_products : Fx K mg "pair_products" (topS 41) ["one", "other"]
  x_members_number : Fx K mg "members_number" (topS 42) ["prime", "size"]
  x_is_monic_in : Fx K mg "is_monic_in" (topS 43) ["prime", "value"]
  x_group_fault : Fx K mg "group_fault" (topS 49) ["prime", "table"]
  x_one_in : Fx K mg "one_in" (topS 50) ["prime", "table"]
  x_fault_in : Fx K mg "fault_in" (topS 51) ["prime", "table"]
  x_are_products : Fx K mg "are_products" (topS 52) ["prime", "value"]
  x_require_products : Fx K mg "require_products" (topS 53) ["prime", "table"]
  x_products_told : Fx K mg "products_told" (topS 55) ["prime", "table"]
  x_is_member_in : Fx K mg "is_member_in" (topS 57) ["ring", "value"]
  x_right_table : Fx K mg "right_table" (topS 58) ["ring", "member"]
  x_product_in : Fx K mg "product_in" (topS 59) ["ring", "one", "other"]
  x_power_in : Fx K mg "power_in" (topS 60) ["ring", "member", "number"]
  x_undone_member : Fx K mg "undone_member" (topS 61) ["ring", "member"]
  x_require_ring : Fx K mg "require_ring" (topS 62) ["value"]
  x_require_member : Fx K mg "require_member" (topS 63) ["ring", "value"]
  x_law_tank : Fx K mg "_law_tank" (topS 65) ["_law_script", "_law_spot"]
  x_law_drop : Fx K mg "_law_drop" (topS 66) ["_law_tank_here", "_law_total"]
  x_law_choice : Fx K mg "_law_choice" (topS 67) ["_law_tank_here", "_law_items"]
  x_law_plus : Fx K mg "_law_plus" (topS 68) ["_law_p", "_law_one", "_law_other", "_law_factor"]
  x_law_undone : Fx K mg "_law_undone" (topS 69) ["_law_p", "_law_number"]
  x_law_reduced : Fx K mg "_law_reduced" (topS 70) ["_law_p", "_law_rows"]
  x_law_rest : Fx K mg "_law_rest" (topS 71) ["_law_p", "_law_space", "_law_row"]
  x_law_solved : Fx K mg "_law_solved" (topS 72) ["_law_p", "_law_rows", "_law_goal"]
  x_law_ring : Fx K mg "_law_ring" (topS 73) ["_law_p", "_law_table"]
  x_law_times : Fx K mg "_law_times" (topS 74) ["_law_ring_here", "_law_one", "_law_other"]
  x_law_unit : Fx K mg "_law_unit" (topS 75) ["_law_size"]
  x_law_squares : Fx K mg "_law_squares" (topS 76) ["_law_p", "_law_side", "_law_upper"]
  x_law_moved : Fx K mg "_law_moved" (topS 77) ["_law_p", "_law_moves"]
  x_law_poly_ring : Fx K mg "_law_poly_ring" (topS 78) ["_law_p", "_law_poly"]
  x_law_beside : Fx K mg "_law_beside" (topS 79) ["_law_one", "_law_other"]
  x_law_shears : Fx K mg "_law_shears" (topS 80) ["_law_tank_here", "_law_p", "_law_size"]
  x_law_led : Fx K mg "_law_led" (topS 81) ["_law_p", "_law_table", "_law_row"]
  x_law_rebased : Fx K mg "_law_rebased" (topS 82) ["_law_ring_here", "_law_one", "_law_back"]
  x_law_turned : Fx K mg "_law_turned" (topS 83) ["_law_ring_here"]
  x_law_plain_ring : Fx K mg "_law_plain_ring" (topS 84) ["_law_tank_here", "_law_most"]
  x_law_drawn_ring : Fx K mg "_law_drawn_ring" (topS 85) ["_law_tank_here", "_law_most"]
  x_law_made : Fx K mg "_law_made" (topS 86) ["_law_ring_here"]
  x_law_member : Fx K mg "_law_member" (topS 87) ["_law_tank_here", "_law_ring_here"]
  x_law_one_of_ring : Fx K mg "_law_one_of_ring" (topS 88) ["_law_ring_here"]
  x_law_great_power : Fx K mg "_law_great_power" (topS 89) ["_law_ring_here", "_law_member_here", "_law_number"]
  x_law_undoing : Fx K mg "_law_undoing" (topS 90) ["_law_ring_here", "_law_member_here"]
  x_law_told_inverse : Fx K mg "_law_told_inverse" (topS 91) ["_law_made_here", "_law_member_here"]
  x_law_units_right : Fx K mg "_law_units_right" (topS 92) ["_law_ring_here", "_law_made_here", "_law_member_here"]
  x_law_right : Fx K mg "_law_right" (topS 93) ["_law_tank_here"]
  x_law : Fx K mg "law" (topS 94) ["_law_script"]
  g_SIXTY_DIGITS : ∃ v u, mg "SIXTY_DIGITS" = some u ∧ RelV v u ∧ ∀ G, Rep K C G v (.int (10 ^ 60))
  g_PRIMES : ∃ v u, mg "PRIMES" = some u ∧ RelV v u ∧ ∀ G, Rep K C G v (.tup [.int 2, .int 3, .int 5, .int 7])
  g_MAX_SIZE : ∃ v u, mg "MAX_SIZE" = some u ∧ RelV v u ∧ ∀ G, Rep K C G v (.int 9)
  g_MAX_SIDE : ∃ v u, mg "MAX_SIDE" = some u ∧ RelV v u ∧ ∀ G, Rep K C G v (.int 3)
  g_MOST_BASE : ∃ v u, mg "MOST_BASE" = some u ∧ RelV v u ∧ ∀ G, Rep K C G v (.int 9)
  g_GROUP : ∃ v u, mg "GROUP" = some u ∧ RelV v u ∧ ∀ G, Rep K C G v (.str "group")
  g_NO_ONE : ∃ v u, mg "NO_ONE" = some u ∧ RelV v u ∧ ∀ G, Rep K C G v (.str "one")
  m_KeptProducts : mg "KeptProducts" = some (.ref (C 1))
  m_Ring : mg "Ring" = some (.ref (C 0))
  fl_own_one : FldK K C 0 "own_one" 0
  fl_own_prime : FldK K C 0 "own_prime" 1
  fl_own_size : FldK K C 0 "own_size" 2
  fl_own_table : FldK K C 0 "own_table" 3
  fl_own_rows : FldK K C 1 "own_rows" 0
  isk : IsK K C
  x_Ring_added : FxM K C 0 "added" "Ring.added" (inClass (topS 56) 12) ["self", "one", "other"]
  x_Ring_inverse : FxM K C 0 "inverse" "Ring.inverse" (inClass (topS 56) 17) ["self", "member"]
  x_Ring_is_unit : FxM K C 0 "is_unit" "Ring.is_unit" (inClass (topS 56) 16) ["self", "value"]
  x_Ring_power : FxM K C 0 "power" "Ring.power" (inClass (topS 56) 15) ["self", "member", "number"]
  x_Ring_product : FxM K C 0 "product" "Ring.product" (inClass (topS 56) 13) ["self", "one", "other"]
  x_Ring_times : FxM K C 0 "times" "Ring.times" (inClass (topS 56) 14) ["self", "number", "member"]
  x_Ring_full : FxC K C 0 "full" "Ring.full" (inClass (topS 56) 2) ["cls", "prime", "side"]
  x_Ring_of_poly : FxC K C 0 "of_poly" "Ring.of_poly" (inClass (topS 56) 5) ["cls", "prime", "poly"]
  x_Ring_one : FxP K C 0 "one" "Ring.one" (inClass (topS 56) 10) ["self"]
  x_KeptProducts_init : FxI K C 1 "KeptProducts.__init__" (inClass (topS 54) 1) ["self", "rows"]
  x_Ring_init : FxI K C 0 "Ring.__init__" (inClass (topS 56) 1) ["self", "prime", "table"]
  g_UNDONE : ∃ q, mg "UNDONE" = some (.ref q) ∧ ∀ i d, undT i = some d → ∃ v, KDI K q i v ∧ ∀ G, Rep K C G v d
section
variable {P : Program} {w : World} {K : PySem.W.Frag} {mg : Str → Option Value} {base : Heap} {C : Nat → Addr}
theorem k_lead (h : Tops P w K mg base C) : Kn P w K mg base "lead_of" 1 ["row"] (spP K C F_lead_of) := k_lead_of h.x_lead_of h.b_enumerate h.b_next
end
end TR

namespace TR
open PySem PySem.Spec PyProof.Rows L2
variable {P : Program} {w : World} {K : PySem.W.Frag} {mg : Str → Option Value} {base : Heap} {C : Nat → Addr}
def B_is_whole : FS := (sRet (andE (uO isI (vr 0)) (notE (uO isB (vr 0)))))
def F_is_whole : List D → Option D := runP 1 1 B_is_whole
def N_is_whole : List Str := ["value"]
theorem S_is_whole : FnScope N_is_whole ["value"] (defScope (topS 15)) := ⟨rfl, rfl, rfl, by decide +kernel, rfl, by decide +kernel, by decide +kernel⟩
theorem k_is_whole (h : Tops P w K mg base C) : Kn P w K mg base "is_whole" 1 ["value"] (spP K C F_is_whole) := by
  have nd := S_is_whole.nd
  refine kn_P h.x_is_whole S_is_whole rfl rfl fun f cdv A outer s H E hr => ⟨_, (z_one (s_ret (q_and (q_isInt h.b_isinstance h.b_int (q_var 0 rfl (Or.inl rfl))) (q_one (q_not (q_isBool h.b_isinstance h.b_bool (q_var 0 rfl (Or.inl rfl))))))))⟩
def B_is_integer : FS := (sRet (andE (cO F_is_whole (aC (vr 0) aN)) (bO ltD (cO absD (aC (vr 0) aN)) (cD (.int (10 ^ 60))))))
def F_is_integer : List D → Option D := runP 1 1 B_is_integer
def N_is_integer : List Str := ["value"]
theorem S_is_integer : FnScope N_is_integer ["value"] (defScope (topS 16)) := ⟨rfl, rfl, rfl, by decide +kernel, rfl, by decide +kernel, by decide +kernel⟩
theorem k_is_integer (h : Tops P w K mg base C) : Kn P w K mg base "is_integer" 2 ["value"] (spP K C F_is_integer) := by
  obtain ⟨v_SIXTY_DIGITS, u_SIXTY_DIGITS, m_SIXTY_DIGITS, r_SIXTY_DIGITS, d_SIXTY_DIGITS⟩ := h.g_SIXTY_DIGITS
  have nd := S_is_integer.nd
  refine kn_P h.x_is_integer S_is_integer rfl rfl fun f cdv A outer s H E hr => ⟨_, (z_one (s_ret (q_and (q_call (k_is_whole h) (hr.mono (by decide)) (a_cons (q_var 0 rfl (Or.inl rfl)) a_nil)) (q_one (q_lt (q_bi call_abs cd_abs h.b_abs bt_abs (a_cons (q_var 0 rfl (Or.inl rfl)) a_nil)) (q_glob m_SIXTY_DIGITS r_SIXTY_DIGITS d_SIXTY_DIGITS))))))⟩
def B_is_within : FS := (sRet (andE (cO F_is_whole (aC (vr 0) aN)) (chE leD leD (vr 1) (vr 0) (vr 2))))
def F_is_within : List D → Option D := runP 3 3 B_is_within
def N_is_within : List Str := ["value", "least", "greatest"]
theorem S_is_within : FnScope N_is_within ["value", "least", "greatest"] (defScope (topS 17)) := ⟨rfl, rfl, rfl, by decide +kernel, rfl, by decide +kernel, by decide +kernel⟩
theorem k_is_within (h : Tops P w K mg base C) : Kn P w K mg base "is_within" 2 ["value", "least", "greatest"] (spP K C F_is_within) := by
  have nd := S_is_within.nd
  refine kn_P h.x_is_within S_is_within rfl rfl fun f cdv A outer s H E hr => ⟨_, (z_one (s_ret (q_and (q_call (k_is_whole h) (hr.mono (by decide)) (a_cons (q_var 0 rfl (Or.inl rfl)) a_nil)) (q_one (q_chain op_le rd_le op_le rd_le (q_var 1 rfl (Or.inl rfl)) (q_var 0 rfl (Or.inl rfl)) (q_var 2 rfl (Or.inl rfl)))))))⟩
def B_is_prime : FS := (sRet (andE (cO F_is_whole (aC (vr 0) aN)) (bO inD (vr 0) (cD (.tup [.int 2, .int 3, .int 5, .int 7])))))
def F_is_prime : List D → Option D := runP 1 1 B_is_prime
def N_is_prime : List Str := ["value"]
theorem S_is_prime : FnScope N_is_prime ["value"] (defScope (topS 18)) := ⟨rfl, rfl, rfl, by decide +kernel, rfl, by decide +kernel, by decide +kernel⟩
theorem k_is_prime (h : Tops P w K mg base C) : Kn P w K mg base "is_prime" 2 ["value"] (spP K C F_is_prime) := by
  obtain ⟨v_PRIMES, u_PRIMES, m_PRIMES, r_PRIMES, d_PRIMES⟩ := h.g_PRIMES
  have nd := S_is_prime.nd
  refine kn_P h.x_is_prime S_is_prime rfl rfl fun f cdv A outer s H E hr => ⟨_, (z_one (s_ret (q_and (q_call (k_is_whole h) (hr.mono (by decide)) (a_cons (q_var 0 rfl (Or.inl rfl)) a_nil)) (q_one (q_in (q_var 0 rfl (Or.inl rfl)) (q_glob m_PRIMES r_PRIMES d_PRIMES))))))⟩
def B_is_residue_row : FS := (sRet (andE (uO isT (vr 2)) (andE (bO eqD (cO lenD (aC (vr 2) aN)) (vr 1)) (cO allD (aC (frz (lcE (itT (vr 2)) (gN 3) yesB (cO F_is_within (aC (vr 3) (aC (cD (.int 0)) (aC (bO subD (vr 0) (cD (.int 1))) aN)))) [3])) aN)))))
def F_is_residue_row : List D → Option D := runP 4 3 B_is_residue_row
def N_is_residue_row : List Str := ["prime", "width", "value", "one"]
theorem S_is_residue_row : FnScope N_is_residue_row ["prime", "width", "value"] (defScope (topS 19)) := ⟨rfl, rfl, rfl, by decide +kernel, rfl, by decide +kernel, by decide +kernel⟩
theorem k_is_residue_row (h : Tops P w K mg base C) : Kn P w K mg base "is_residue_row" 3 ["prime", "width", "value"] (spP K C F_is_residue_row) := by
  have nd := S_is_residue_row.nd
  refine kn_P h.x_is_residue_row S_is_residue_row rfl rfl fun f cdv A outer s H E hr => ⟨_, (z_one (s_ret (q_and (q_isTup h.b_isinstance h.b_tuple (q_var 2 rfl (Or.inl rfl))) (q_and (q_eq hr (q_bi call_len_seq cd_len h.b_len bt_len (a_cons (q_var 2 rfl (Or.inl rfl)) a_nil)) (q_var 1 rfl (Or.inl rfl))) (q_one (q_bi (cr_all rfl) cd_all h.b_all bt_all (a_cons (PF.d (f_lcV [("one", 3)] rfl rfl nd (i_tup (q_var 2 rfl (Or.inl rfl))) (blkOk_by (by kernel_rfl)) (fun s H A cl fp => (g_name 3 nd rfl (Or.inl rfl))) (fun s H A cl fp => (q_call (k_is_within h) (hr.mono (by decide)) (a_cons (q_var 3 rfl (Or.inl rfl)) (a_cons q_int (a_cons (q_sub (q_var 0 rfl (Or.inr (Or.inl rfl))) q_int) a_nil))))))) a_nil)))))))⟩
def B_zero_row : FS := (sRet (bO mulD (tupE (lenOk (aC (cD (.int 0)) aN))) (vr 0)))
def F_zero_row : List D → Option D := runP 1 1 B_zero_row
def N_zero_row : List Str := ["width"]
theorem S_zero_row : FnScope N_zero_row ["width"] (defScope (topS 25)) := ⟨rfl, rfl, rfl, by decide +kernel, rfl, by decide +kernel, by decide +kernel⟩
theorem k_zero_row (h : Tops P w K mg base C) : Kn P w K mg base "zero_row" 1 ["width"] (spP K C F_zero_row) := by
  have nd := S_zero_row.nd
  refine kn_P h.x_zero_row S_zero_row rfl rfl fun f cdv A outer s H E hr => ⟨_, (z_one (s_ret (q_mul (q_tup (a_cons q_int a_nil)) (q_var 0 rfl (Or.inl rfl)))))⟩
def B_single_row : FS := (sRet (cO tupleD (aC (frz (lcE (itR1 (aC (vr 0) aN)) (gN 2) yesB (cO intD (aC (bO eqD (vr 2) (vr 1)) aN)) [2])) aN)))
def F_single_row : List D → Option D := runP 3 2 B_single_row
def N_single_row : List Str := ["width", "place", "at"]
theorem S_single_row : FnScope N_single_row ["width", "place"] (defScope (topS 26)) := ⟨rfl, rfl, rfl, by decide +kernel, rfl, by decide +kernel, by decide +kernel⟩
theorem k_single_row (h : Tops P w K mg base C) : Kn P w K mg base "single_row" 1 ["width", "place"] (spP K C F_single_row) := by
  have nd := S_single_row.nd
  refine kn_P h.x_single_row S_single_row rfl rfl fun f cdv A outer s H E hr => ⟨_, (z_one (s_ret (q_ty call_tuple_of cd_tuple h.b_tuple bt_tuple (a_cons (PF.d (f_lcV [("at", 2)] rfl rfl nd (i_rng1 h.b_range (a_cons (q_var 0 rfl (Or.inl rfl)) a_nil)) (blkOk_by (by kernel_rfl)) (fun s H A cl fp => (g_name 2 nd rfl (Or.inl rfl))) (fun s H A cl fp => (q_ty call_int1 cd_int h.b_int bt_int (a_cons (q_eq hr (q_var 2 rfl (Or.inl rfl)) (q_var 1 rfl (Or.inr (Or.inl rfl)))) a_nil))))) a_nil))))⟩
def B_scaled_row : FS := (sRet (cO tupleD (aC (frz (lcE (itT (vr 2)) (gN 3) yesB (bO modD (bO mulD (vr 1) (vr 3)) (vr 0)) [3])) aN)))
def F_scaled_row : List D → Option D := runP 4 3 B_scaled_row
def N_scaled_row : List Str := ["prime", "factor", "row", "one"]
theorem S_scaled_row : FnScope N_scaled_row ["prime", "factor", "row"] (defScope (topS 27)) := ⟨rfl, rfl, rfl, by decide +kernel, rfl, by decide +kernel, by decide +kernel⟩
theorem k_scaled_row (h : Tops P w K mg base C) : Kn P w K mg base "scaled_row" 1 ["prime", "factor", "row"] (spP K C F_scaled_row) := by
  have nd := S_scaled_row.nd
  refine kn_P h.x_scaled_row S_scaled_row rfl rfl fun f cdv A outer s H E hr => ⟨_, (z_one (s_ret (q_ty call_tuple_of cd_tuple h.b_tuple bt_tuple (a_cons (PF.d (f_lcV [("one", 3)] rfl rfl nd (i_tup (q_var 2 rfl (Or.inl rfl))) (blkOk_by (by kernel_rfl)) (fun s H A cl fp => (g_name 3 nd rfl (Or.inl rfl))) (fun s H A cl fp => (q_mod (q_mul (q_var 1 rfl (Or.inr (Or.inl rfl))) (q_var 3 rfl (Or.inl rfl))) (q_var 0 rfl (Or.inr (Or.inl rfl))))))) a_nil))))⟩
def B_added_row : FS := (sRet (cO tupleD (aC (frz (lcE (itZ (aC (vr 1) (aC (vr 2) aN))) (gT2 4 5) yesB (bO modD (bO addD (vr 4) (bO mulD (vr 3) (vr 5))) (vr 0)) [4, 5])) aN)))
def F_added_row : List D → Option D := runP 6 4 B_added_row
def N_added_row : List Str := ["prime", "row", "other", "factor", "one", "two"]
theorem S_added_row : FnScope N_added_row ["prime", "row", "other", "factor"] (defScope (topS 28)) := ⟨rfl, rfl, rfl, by decide +kernel, rfl, by decide +kernel, by decide +kernel⟩
theorem k_added_row (h : Tops P w K mg base C) : Kn P w K mg base "added_row" 1 ["prime", "row", "other", "factor"] (spP K C F_added_row) := by
  have nd := S_added_row.nd
  refine kn_P h.x_added_row S_added_row rfl rfl fun f cdv A outer s H E hr => ⟨_, (z_one (s_ret (q_ty call_tuple_of cd_tuple h.b_tuple bt_tuple (a_cons (PF.d (f_lcV [("one", 4), ("two", 5)] rfl rfl nd (i_zip h.b_zip (a_cons (q_var 1 rfl (Or.inl rfl)) (a_cons (q_var 2 rfl (Or.inl rfl)) a_nil))) (blkOk_by (by kernel_rfl)) (fun s H A cl fp => (g_tup2 rfl (g_name 4 nd rfl (Or.inl rfl)) (g_name 5 nd rfl (Or.inl rfl)))) (fun s H A cl fp => (q_mod (q_add (q_var 4 rfl (Or.inl rfl)) (q_mul (q_var 3 rfl (Or.inr (Or.inl rfl))) (q_var 5 rfl (Or.inl rfl)))) (q_var 0 rfl (Or.inr (Or.inl rfl))))))) a_nil))))⟩
def B_led_row : FS := (sSeq (sAsg 4 (bO mulD (frz (lenOk (aC (cD (.int 0)) aN))) (vr 3))) (sSeq (sFor (itZ (aC (vr 2) (aC (vr 1) aN))) (gT2 5 6) (sIf (tst (bO neD (vr 5) (cD (.int 0)))) (sAsg 4 (frz (lcE (itZ (aC (vr 4) (aC (vr 6) aN))) (gT2 7 8) yesB (bO addD (vr 7) (bO mulD (vr 5) (vr 8))) [7, 8]))) sNx)) (sRet (cO tupleD (aC (frz (lcE (itL (vr 4)) (gN 7) yesB (bO modD (vr 7) (vr 0)) [7])) aN)))))
def F_led_row : List D → Option D := runP 9 4 B_led_row
def N_led_row : List Str := ["prime", "table", "row", "width", "found", "factor", "line", "one", "two"]
theorem S_led_row : FnScope N_led_row ["prime", "table", "row", "width"] (defScope (topS 29)) := ⟨rfl, rfl, rfl, by decide +kernel, rfl, by decide +kernel, by decide +kernel⟩
theorem k_led_row (h : Tops P w K mg base C) : Kn P w K mg base "led_row" 1 ["prime", "table", "row", "width"] (spP K C F_led_row) := by
  have nd := S_led_row.nd
  refine kn_P h.x_led_row S_led_row rfl rfl fun f cdv A outer s H E hr => ⟨_, (z_cons (s_set 4 nd rfl (Or.inl rfl) (q_mul (PF.d (f_lst (a_cons q_int a_nil))) (q_var 3 rfl (Or.inl rfl))))
    (z_cons (s_for PassesOwn.never rfl (i_zip h.b_zip (a_cons (q_var 2 rfl (Or.inl rfl)) (a_cons (q_var 1 rfl (Or.inl rfl)) a_nil))) (g_tup2 rfl (g_name 5 nd rfl (Or.inr rfl)) (g_name 6 nd rfl (Or.inl rfl)))
    (z_one (s_if (t_ne hr (q_var 5 rfl (Or.inr (Or.inl rfl))) q_int)
    (z_one (s_lcV 4 rfl rfl (lcV [("one", 7), ("two", 8)] rfl rfl nd (i_zip h.b_zip (a_cons (q_var 4 rfl (Or.inl rfl)) (a_cons (q_var 6 rfl (Or.inl rfl)) a_nil))) (blkOk_by (by kernel_rfl)) (fun s H A cl fp => (g_tup2 rfl (g_name 7 nd rfl (Or.inl rfl)) (g_name 8 nd rfl (Or.inl rfl)))) (fun s H A cl fp => (q_add (q_var 7 rfl (Or.inl rfl)) (q_mul (q_var 5 rfl (Or.inr (Or.inl rfl))) (q_var 8 rfl (Or.inl rfl)))))) (sw_true rfl rfl rfl rfl)))
    z_nil)))
    (z_one (s_ret (q_ty call_tuple_of cd_tuple h.b_tuple bt_tuple (a_cons (PF.d (f_lcV [("one", 7)] rfl rfl nd (i_list (q_var 4 rfl (Or.inl rfl))) (blkOk_by (by kernel_rfl)) (fun s H A cl fp => (g_name 7 nd rfl (Or.inl rfl))) (fun s H A cl fp => (q_mod (q_var 7 rfl (Or.inl rfl)) (q_var 0 rfl (Or.inr (Or.inl rfl))))))) a_nil))))))⟩
def B_law_tank : FS := (sSeq (sAsg 2 (ifE (tst (bO ltD (vr 1) (cO lenD (aC (vr 0) aN)))) (cO intD (aC (bO ixD (vr 0) (vr 1)) aN)) (bO addD (bO mulD (cD (.int 277)) (vr 1)) (cD (.int 955))))) (sSeq (sAsg 3 (bO modD (cO intD (aC (cO absD (aC (vr 2) aN)) aN)) (bO powD (bO powD (cD (.int 10)) (cD (.int 59))) (cD (.int 7))))) (sRetF (lenOk (aC (cO maxD2 (aC (cD (.int 0)) (aC (bO subD (vr 3) (bO powD (cD (.int 10)) (cD (.int 15)))) aN))) (aC (bO addD (bO addD (bO addD (bO mulD (bO modD (cO intD (aC (vr 3) aN)) (cD (.int 2147483549))) (cD (.int 65))) (bO mulD (cD (.int 93)) (vr 1))) (bO mulD (cD (.int 19)) (cO intD (aC (bO ltD (vr 2) (cD (.int 0))) aN)))) (cD (.int 3))) (aC (cD (.int 0)) aN)))))))
def F_law_tank : List D → Option (List D) := runF 4 2 B_law_tank
def N_law_tank : List Str := ["_law_script", "_law_spot", "_law_cell", "_law_great"]
theorem S_law_tank : FnScope N_law_tank ["_law_script", "_law_spot"] (defScope (topS 65)) := ⟨rfl, rfl, rfl, by decide +kernel, rfl, by decide +kernel, by decide +kernel⟩
theorem k_law_tank (h : Tops P w K mg base C) : Kn P w K mg base "_law_tank" 1 ["_law_script", "_law_spot"] (spF K C F_law_tank) := by
  have nd := S_law_tank.nd
  refine kn_F h.x_law_tank S_law_tank rfl rfl fun f cdv A outer s H E hr => ⟨_, (z_cons (s_set 2 nd rfl (Or.inl rfl) (q_if (t_lt (q_var 1 rfl (Or.inl rfl)) (q_bi call_len_seq cd_len h.b_len bt_len (a_cons (q_var 0 rfl (Or.inl rfl)) a_nil))) (q_ty call_int1 cd_int h.b_int bt_int (a_cons (q_ix (q_var 0 rfl (Or.inl rfl)) (q_var 1 rfl (Or.inl rfl))) a_nil)) (q_add (q_mul q_int (q_var 1 rfl (Or.inl rfl))) q_int)))
    (z_cons (s_set 3 nd rfl (Or.inl rfl) (q_mod (q_ty call_int1 cd_int h.b_int bt_int (a_cons (q_bi call_abs cd_abs h.b_abs bt_abs (a_cons (q_var 2 rfl (Or.inl rfl)) a_nil)) a_nil)) (q_pow (q_pow q_int q_int) q_int)))
    (z_one (s_retF (f_lst (a_cons (q_bi (call_max2 rfl) cd_max2 h.b_max bt_max (a_cons q_int (a_cons (q_sub (q_var 3 rfl (Or.inl rfl)) (q_pow q_int q_int)) a_nil))) (a_cons (q_add (q_add (q_add (q_mul (q_mod (q_ty call_int1 cd_int h.b_int bt_int (a_cons (q_var 3 rfl (Or.inl rfl)) a_nil)) q_int) q_int) (q_mul q_int (q_var 1 rfl (Or.inl rfl)))) (q_mul q_int (q_ty call_int1 cd_int h.b_int bt_int (a_cons (q_lt (q_var 2 rfl (Or.inl rfl)) q_int) a_nil)))) q_int) (a_cons q_int a_nil))))))))⟩
def B_law_drop : FS := (sSeq (sIf (tst (bO gtD (ixTk 0 (cD (.int 0))) (cD (.int 0)))) (sSeq (sAsg 2 (bO modD (cO intD (aC (ixTk 0 (cD (.int 0))) aN)) (vr 1))) (sSeq (sSetT 0 (bO fdivD (ixTk 0 (cD (.int 0))) (vr 1)) (cD (.int 0))) (sRet (vr 2)))) sNx) (sSeq (sSetT 0 (bO addD (ixTk 0 (cD (.int 2))) (cD (.int 1))) (cD (.int 2))) (sSeq (sAsg 3 (bO modD (bO addD (cO intD (aC (ixTk 0 (cD (.int 1))) aN)) (bO mulD (cD (.int 49979687)) (ixTk 0 (cD (.int 2))))) (cD (.int 2305843009213693951)))) (sSeq (sAsg 4 (bO addD (bO mulD (bO modD (cO intD (aC (bO addD (bO mulD (vr 3) (vr 3)) (bO mulD (cD (.int 44)) (ixTk 0 (cD (.int 2))))) aN)) (cD (.int 2305843009213693907))) (cD (.int 86028121))) (vr 3))) (sRet (bO modD (cO intD (aC (bO fdivD (vr 4) (cD (.int 32768))) aN)) (vr 1)))))))
def F_law_drop : List D → List D → Option (D × List D) := runT 5 2 B_law_drop
def N_law_drop : List Str := ["_law_tank_here", "_law_total", "_law_found", "_law_one", "_law_two"]
theorem S_law_drop : FnScope N_law_drop ["_law_tank_here", "_law_total"] (defScope (topS 66)) := ⟨rfl, rfl, rfl, by decide +kernel, rfl, by decide +kernel, by decide +kernel⟩
theorem k_law_drop (h : Tops P w K mg base C) : Kn P w K mg base "_law_drop" 1 ["_law_tank_here", "_law_total"] (spT K C F_law_drop) := by
  have nd := S_law_drop.nd
  refine kn_T h.x_law_drop S_law_drop rfl rfl fun f cdv A outer s H E hr => ⟨_, (z_cons (s_if (t_gt (q_ixT 0 rfl (Or.inl rfl) q_int) q_int)
    (z_cons (s_set 2 nd rfl (Or.inl rfl) (q_mod (q_ty call_int1 cd_int h.b_int bt_int (a_cons (q_ixT 0 rfl (Or.inl rfl) q_int) a_nil)) (q_var 1 rfl (Or.inl rfl))))
    (z_cons (s_setT 0 rfl (Or.inl rfl) (q_fdiv (q_ixT 0 rfl (Or.inl rfl) q_int) (q_var 1 rfl (Or.inl rfl))) q_int)
    (z_one (s_ret (q_var 2 rfl (Or.inl rfl))))))
    z_nil)
    (z_cons (s_setT 0 rfl (Or.inl rfl) (q_add (q_ixT 0 rfl (Or.inl rfl) q_int) q_int) q_int)
    (z_cons (s_set 3 nd rfl (Or.inl rfl) (q_mod (q_add (q_ty call_int1 cd_int h.b_int bt_int (a_cons (q_ixT 0 rfl (Or.inl rfl) q_int) a_nil)) (q_mul q_int (q_ixT 0 rfl (Or.inl rfl) q_int))) q_int))
    (z_cons (s_set 4 nd rfl (Or.inl rfl) (q_add (q_mul (q_mod (q_ty call_int1 cd_int h.b_int bt_int (a_cons (q_add (q_mul (q_var 3 rfl (Or.inl rfl)) (q_var 3 rfl (Or.inl rfl))) (q_mul q_int (q_ixT 0 rfl (Or.inl rfl) q_int))) a_nil)) q_int) q_int) (q_var 3 rfl (Or.inl rfl))))
    (z_one (s_ret (q_mod (q_ty call_int1 cd_int h.b_int bt_int (a_cons (q_fdiv (q_var 4 rfl (Or.inl rfl)) q_int) a_nil)) (q_var 1 rfl (Or.inl rfl)))))))))⟩
def B_law_choice : FS := (sRet (bO ixD (vr 1) (tcE 0 F_law_drop (aC (cO lenD (aC (vr 1) aN)) aN))))
def F_law_choice : List D → List D → Option (D × List D) := runT 2 2 B_law_choice
def N_law_choice : List Str := ["_law_tank_here", "_law_items"]
theorem S_law_choice : FnScope N_law_choice ["_law_tank_here", "_law_items"] (defScope (topS 67)) := ⟨rfl, rfl, rfl, by decide +kernel, rfl, by decide +kernel, by decide +kernel⟩
theorem k_law_choice (h : Tops P w K mg base C) : Kn P w K mg base "_law_choice" 2 ["_law_tank_here", "_law_items"] (spT K C F_law_choice) := by
  have nd := S_law_choice.nd
  refine kn_T h.x_law_choice S_law_choice rfl rfl fun f cdv A outer s H E hr => ⟨_, (z_one (s_ret (q_ix (q_var 1 rfl (Or.inl rfl)) (q_callT (k_law_drop h) (hr.mono (by decide)) rfl (Or.inl rfl) (a_cons (q_bi call_len_seq cd_len h.b_len bt_len (a_cons (q_var 1 rfl (Or.inl rfl)) a_nil)) a_nil)))))⟩
def B_law_plus : FS := (sRet (cO tupleD (aC (frz (lcE (itZ (aC (vr 1) (aC (vr 2) aN))) (gT2 4 5) yesB (bO modD (bO addD (vr 4) (bO mulD (vr 3) (vr 5))) (vr 0)) [4, 5])) aN)))
def F_law_plus : List D → Option D := runP 6 4 B_law_plus
def N_law_plus : List Str := ["_law_p", "_law_one", "_law_other", "_law_factor", "_law_a", "_law_b"]
theorem S_law_plus : FnScope N_law_plus ["_law_p", "_law_one", "_law_other", "_law_factor"] (defScope (topS 68)) := ⟨rfl, rfl, rfl, by decide +kernel, rfl, by decide +kernel, by decide +kernel⟩
theorem k_law_plus (h : Tops P w K mg base C) : Kn P w K mg base "_law_plus" 1 ["_law_p", "_law_one", "_law_other", "_law_factor"] (spP K C F_law_plus) := by
  have nd := S_law_plus.nd
  refine kn_P h.x_law_plus S_law_plus rfl rfl fun f cdv A outer s H E hr => ⟨_, (z_one (s_ret (q_ty call_tuple_of cd_tuple h.b_tuple bt_tuple (a_cons (PF.d (f_lcV [("_law_a", 4), ("_law_b", 5)] rfl rfl nd (i_zip h.b_zip (a_cons (q_var 1 rfl (Or.inl rfl)) (a_cons (q_var 2 rfl (Or.inl rfl)) a_nil))) (blkOk_by (by kernel_rfl)) (fun s H A cl fp => (g_tup2 rfl (g_name 4 nd rfl (Or.inl rfl)) (g_name 5 nd rfl (Or.inl rfl)))) (fun s H A cl fp => (q_mod (q_add (q_var 4 rfl (Or.inl rfl)) (q_mul (q_var 3 rfl (Or.inr (Or.inl rfl))) (q_var 5 rfl (Or.inl rfl)))) (q_var 0 rfl (Or.inr (Or.inl rfl))))))) a_nil))))⟩
def B_law_undone : FS := (sRet (bO ixD (frz (lcE (itR2 (aC (cD (.int 1)) (aC (vr 0) aN))) (gN 2) (tst (bO eqD (bO modD (bO mulD (vr 2) (vr 1)) (vr 0)) (cD (.int 1)))) (vr 2) [2])) (cD (.int 0))))
def F_law_undone : List D → Option D := runP 3 2 B_law_undone
def N_law_undone : List Str := ["_law_p", "_law_number", "_law_one"]
theorem S_law_undone : FnScope N_law_undone ["_law_p", "_law_number"] (defScope (topS 69)) := ⟨rfl, rfl, rfl, by decide +kernel, rfl, by decide +kernel, by decide +kernel⟩
theorem k_law_undone (h : Tops P w K mg base C) : Kn P w K mg base "_law_undone" 1 ["_law_p", "_law_number"] (spP K C F_law_undone) := by
  have nd := S_law_undone.nd
  refine kn_P h.x_law_undone S_law_undone rfl rfl fun f cdv A outer s H E hr => ⟨_, (z_one (s_ret (q_ix (PF.d (f_lcU [("_law_one", 2)] rfl rfl nd (i_rng2 h.b_range (a_cons q_int (a_cons (q_var 0 rfl (Or.inr (Or.inl rfl))) a_nil))) (blkOk_by (by kernel_rfl)) (fun s H A cl fp => (g_name 2 nd rfl (Or.inl rfl))) (fun s H A cl fp => (t_eq hr (q_mod (q_mul (q_var 2 rfl (Or.inl rfl)) (q_var 1 rfl (Or.inr (Or.inl rfl)))) (q_var 0 rfl (Or.inr (Or.inl rfl)))) q_int)) (fun s H A cl fp => (q_var 2 rfl (Or.inl rfl))))) q_int)))⟩
def B_law_reduced : FS := (sSeq (sPar 2 3 (xV (frz (lcE (itL (vr 1)) (gN 8) yesB (cO tupleD (aC (vr 8) aN)) [8]))) (xV (frz (lenOk aN)))) (sSeq (sAsg 4 (cO maxD1 (aC (bO addD (frz (lcE (itL (vr 2)) (gN 8) yesB (cO lenD (aC (vr 8) aN)) [8])) (frz (lenOk (aC (cD (.int 0)) aN)))) aN))) (sSeq (sFor (itR1 (aC (vr 4) aN)) (gN 5) (sSeq (sAsg 6 (frz (lcE (itL (vr 2)) (gN 8) (tst (bO neD (bO ixD (vr 8) (vr 5)) (cD (.int 0)))) (vr 8) [8]))) (sSeq (sIf (tst (bO eqD (vr 6) (frz (lenOk aN)))) sCt sNx) (sSeq (sAsg 7 (cO tupleD (aC (frz (lcE (itT (bO ixD (vr 6) (cD (.int 0)))) (gN 9) yesB (bO modD (bO mulD (vr 9) (cO F_law_undone (aC (vr 0) (aC (bO ixD (bO ixD (vr 6) (cD (.int 0))) (vr 5)) aN)))) (vr 0)) [9])) aN))) (sSeq (sAsg 2 (frz (lcE (itL (vr 2)) (gN 8) yesB (cO F_law_plus (aC (vr 0) (aC (vr 8) (aC (vr 7) (aC (bO subD (cD (.int 0)) (bO ixD (vr 8) (vr 5))) aN))))) [8]))) (sAsg 3 (bO addD (frz (lcE (itL (vr 3)) (gN 8) yesB (cO F_law_plus (aC (vr 0) (aC (vr 8) (aC (vr 7) (aC (bO subD (cD (.int 0)) (bO ixD (vr 8) (vr 5))) aN))))) [8])) (frz (lenOk (aC (vr 7) aN)))))))))) (sRet (cO tupleD (aC (vr 3) aN))))))
def F_law_reduced : List D → Option D := runP 10 2 B_law_reduced
def N_law_reduced : List Str := ["_law_p", "_law_rows", "_law_left", "_law_found", "_law_wide", "_law_at", "_law_some", "_law_head", "_law_row", "_law_entry"]
theorem S_law_reduced : FnScope N_law_reduced ["_law_p", "_law_rows"] (defScope (topS 70)) := ⟨rfl, rfl, rfl, by decide +kernel, rfl, by decide +kernel, by decide +kernel⟩
theorem k_law_reduced (h : Tops P w K mg base C) : Kn P w K mg base "_law_reduced" 2 ["_law_p", "_law_rows"] (spP K C F_law_reduced) := by
  have nd := S_law_reduced.nd
  refine kn_P h.x_law_reduced S_law_reduced rfl rfl fun f cdv A outer s H E hr => ⟨_, (z_cons (s_par 2 3 (by decide) rfl nd rfl rfl rfl rfl (PD.x (PF.d (f_lcV [("_law_row", 8)] rfl rfl nd (i_list (q_var 1 rfl (Or.inl rfl))) (blkOk_by (by kernel_rfl)) (fun s H A cl fp => (g_name 8 nd rfl (Or.inl rfl))) (fun s H A cl fp => (q_ty call_tuple_of cd_tuple h.b_tuple bt_tuple (a_cons (q_var 8 rfl (Or.inl rfl)) a_nil)))))) (PD.x (PF.d (f_lst a_nil))))
    (z_cons (s_set 4 nd rfl (Or.inl rfl) (q_bi ((cr_max rfl).or (cr_maxT hr rfl)) cd_max1 h.b_max bt_max (a_cons (q_add (PF.d (f_lcV [("_law_row", 8)] rfl rfl nd (i_list (q_var 2 rfl (Or.inl rfl))) (blkOk_by (by kernel_rfl)) (fun s H A cl fp => (g_name 8 nd rfl (Or.inl rfl))) (fun s H A cl fp => (q_bi call_len_seq cd_len h.b_len bt_len (a_cons (q_var 8 rfl (Or.inl rfl)) a_nil))))) (PF.d (f_lst (a_cons q_int a_nil)))) a_nil)))
    (z_cons (s_for PassesOwn.never rfl (i_rng1 h.b_range (a_cons (q_var 4 rfl (Or.inl rfl)) a_nil)) (g_name 5 nd rfl (Or.inr rfl))
    (z_cons (s_set 6 nd rfl (Or.inr rfl) (PF.d (f_lcU [("_law_row", 8)] rfl rfl nd (i_list (q_var 2 rfl (Or.inl rfl))) (blkOk_by (by kernel_rfl)) (fun s H A cl fp => (g_name 8 nd rfl (Or.inl rfl))) (fun s H A cl fp => (t_ne hr (q_ix (q_var 8 rfl (Or.inl rfl)) (q_var 5 rfl (Or.inr (Or.inl rfl)))) q_int)) (fun s H A cl fp => (q_var 8 rfl (Or.inl rfl))))))
    (z_cons (s_if (t_eq hr (q_var 6 rfl (Or.inr (Or.inl rfl))) (PF.d (f_lst a_nil)))
    (z_one s_ct)
    z_nil)
    (z_cons (s_set 7 nd rfl (Or.inr rfl) (q_ty call_tuple_of cd_tuple h.b_tuple bt_tuple (a_cons (PF.d (f_lcV [("_law_entry", 9)] rfl rfl nd (i_tup (q_ix (q_var 6 rfl (Or.inr (Or.inl rfl))) q_int)) (blkOk_by (by kernel_rfl)) (fun s H A cl fp => (g_name 9 nd rfl (Or.inl rfl))) (fun s H A cl fp => (q_mod (q_mul (q_var 9 rfl (Or.inl rfl)) (q_call (k_law_undone h) (hr.mono (by decide)) (a_cons (q_var 0 rfl (Or.inr (Or.inl rfl))) (a_cons (q_ix (q_ix (q_var 6 rfl (Or.inr (Or.inl rfl))) q_int) (q_var 5 rfl (Or.inr (Or.inl rfl)))) a_nil)))) (q_var 0 rfl (Or.inr (Or.inl rfl))))))) a_nil)))
    (z_cons (s_lcV 2 rfl rfl (lcV [("_law_row", 8)] rfl rfl nd (i_list (q_var 2 rfl (Or.inl rfl))) (blkOk_by (by kernel_rfl)) (fun s H A cl fp => (g_name 8 nd rfl (Or.inl rfl))) (fun s H A cl fp => (q_call (k_law_plus h) (hr.mono (by decide)) (a_cons (q_var 0 rfl (Or.inr (Or.inl rfl))) (a_cons (q_var 8 rfl (Or.inl rfl)) (a_cons (q_var 7 rfl (Or.inr (Or.inl rfl))) (a_cons (q_sub q_int (q_ix (q_var 8 rfl (Or.inl rfl)) (q_var 5 rfl (Or.inr (Or.inl rfl))))) a_nil))))))) (sw_true rfl rfl rfl rfl))
    (z_one (s_set 3 nd rfl (Or.inl rfl) (q_add (PF.d (f_lcV [("_law_row", 8)] rfl rfl nd (i_list (q_var 3 rfl (Or.inl rfl))) (blkOk_by (by kernel_rfl)) (fun s H A cl fp => (g_name 8 nd rfl (Or.inl rfl))) (fun s H A cl fp => (q_call (k_law_plus h) (hr.mono (by decide)) (a_cons (q_var 0 rfl (Or.inr (Or.inl rfl))) (a_cons (q_var 8 rfl (Or.inl rfl)) (a_cons (q_var 7 rfl (Or.inr (Or.inl rfl))) (a_cons (q_sub q_int (q_ix (q_var 8 rfl (Or.inl rfl)) (q_var 5 rfl (Or.inr (Or.inl rfl))))) a_nil)))))))) (PF.d (f_lst (a_cons (q_var 7 rfl (Or.inr (Or.inl rfl))) a_nil)))))))))))
    (z_one (s_ret (q_ty call_tuple_of cd_tuple h.b_tuple bt_tuple (a_cons (q_var 3 rfl (Or.inl rfl)) a_nil)))))))⟩
def B_law_solved : FS := (sSeq (sPar 3 4 (xV (cO lenD (aC (vr 2) aN))) (xV (cO lenD (aC (vr 1) aN)))) (sSeq (sAsg 5 (frz (lcE (itE (aC (vr 1) aN)) (gT2 9 10) yesB (bO addD (cO tupleD (aC (vr 10) aN)) (cO tupleD (aC (frz (lcE (itR1 (aC (vr 4) aN)) (gN 11) yesB (cO intD (aC (bO eqD (vr 9) (vr 11)) aN)) [11])) aN))) [9, 10]))) (sSeq (sAsg 6 (bO addD (cO tupleD (aC (vr 2) aN)) (bO mulD (tupE (lenOk (aC (cD (.int 0)) aN))) (vr 4)))) (sSeq (sFor (itT (cO F_law_reduced (aC (vr 0) (aC (vr 5) aN)))) (gN 7) (sSeq (sAsg 8 (bO ixD (frz (lcE (itE (aC (vr 7) aN)) (gT2 9 12) (tst (bO neD (vr 12) (cD (.int 0)))) (vr 9) [9, 12])) (cD (.int 0)))) (sIf (tst (bO ltD (vr 8) (vr 3))) (sAsg 6 (cO F_law_plus (aC (vr 0) (aC (vr 6) (aC (vr 7) (aC (bO subD (cD (.int 0)) (bO ixD (vr 6) (vr 8))) aN)))))) sNx))) (sRet (ifE (tst (bO gtD (cO maxD1 (aC (bO addD (slE (vr 6) oN (oS (vr 3))) (tupE (lenOk (aC (cD (.int 0)) aN)))) aN)) (cD (.int 0)))) (cD .non) (cO tupleD (aC (frz (lcE (itT (slE (vr 6) (oS (vr 3)) oN)) (gN 12) yesB (bO modD (bO subD (cD (.int 0)) (vr 12)) (vr 0)) [12])) aN))))))))
def F_law_solved : List D → Option D := runP 13 3 B_law_solved
def N_law_solved : List Str := ["_law_p", "_law_rows", "_law_goal", "_law_wide", "_law_size", "_law_longer", "_law_found", "_law_line", "_law_lead", "_law_at", "_law_row", "_law_to", "_law_entry"]
theorem S_law_solved : FnScope N_law_solved ["_law_p", "_law_rows", "_law_goal"] (defScope (topS 72)) := ⟨rfl, rfl, rfl, by decide +kernel, rfl, by decide +kernel, by decide +kernel⟩
theorem k_law_solved (h : Tops P w K mg base C) : Kn P w K mg base "_law_solved" 3 ["_law_p", "_law_rows", "_law_goal"] (spP K C F_law_solved) := by
  have nd := S_law_solved.nd
  refine kn_P h.x_law_solved S_law_solved rfl rfl fun f cdv A outer s H E hr => ⟨_, (z_cons (s_parC 3 4 (by decide) rfl nd rfl rfl (Or.inl rfl) (Or.inr rfl) (PD.x (q_bi call_len_seq cd_len h.b_len bt_len (a_cons (q_var 2 rfl (Or.inl rfl)) a_nil))) (PD.x (q_bi call_len_seq cd_len h.b_len bt_len (a_cons (q_var 1 rfl (Or.inl rfl)) a_nil))))
    (z_cons (s_lcV 5 rfl rfl (lcV [("_law_at", 9), ("_law_row", 10)] rfl rfl nd (i_enum h.b_enumerate (a_cons (q_var 1 rfl (Or.inl rfl)) a_nil)) (blkOk_by (by kernel_rfl)) (fun s H A cl fp => (g_tup2 rfl (g_name 9 nd rfl (Or.inr rfl)) (g_name 10 nd rfl (Or.inl rfl)))) (fun s H A cl fp => (q_add (q_ty call_tuple_of cd_tuple h.b_tuple bt_tuple (a_cons (q_var 10 rfl (Or.inl rfl)) a_nil)) (q_ty call_tuple_of cd_tuple h.b_tuple bt_tuple (a_cons (PF.d (f_lcV [("_law_to", 11)] rfl rfl nd (i_rng1 h.b_range (a_cons (q_var 4 rfl (Or.inr (Or.inl rfl))) a_nil)) (blkOk_by (by kernel_rfl)) (fun s H A cl fp => (g_name 11 nd rfl (Or.inl rfl))) (fun s H A cl fp => (q_ty call_int1 cd_int h.b_int bt_int (a_cons (q_eq hr (q_var 9 rfl (Or.inr (Or.inl rfl))) (q_var 11 rfl (Or.inl rfl))) a_nil))))) a_nil))))) (sw_true rfl rfl rfl rfl))
    (z_cons (s_set 6 nd rfl (Or.inl rfl) (q_add (q_ty call_tuple_of cd_tuple h.b_tuple bt_tuple (a_cons (q_var 2 rfl (Or.inl rfl)) a_nil)) (q_mul (q_tup (a_cons q_int a_nil)) (q_var 4 rfl (Or.inr (Or.inl rfl))))))
    (z_cons (s_for PassesOwn.never rfl (i_tup (q_call (k_law_reduced h) (hr.mono (by decide)) (a_cons (q_var 0 rfl (Or.inr (Or.inl rfl))) (a_cons (q_var 5 rfl (Or.inl rfl)) a_nil)))) (g_name 7 nd rfl (Or.inl rfl))
    (z_cons (s_set 8 nd rfl (Or.inl rfl) (q_ix (PF.d (f_lcU [("_law_at", 9), ("_law_entry", 12)] rfl rfl nd (i_enum h.b_enumerate (a_cons (q_var 7 rfl (Or.inl rfl)) a_nil)) (blkOk_by (by kernel_rfl)) (fun s H A cl fp => (g_tup2 rfl (g_name 9 nd rfl (Or.inl rfl)) (g_name 12 nd rfl (Or.inl rfl)))) (fun s H A cl fp => (t_ne hr (q_var 12 rfl (Or.inl rfl)) q_int)) (fun s H A cl fp => (q_var 9 rfl (Or.inl rfl))))) q_int))
    (z_one (s_if (t_lt (q_var 8 rfl (Or.inl rfl)) (q_var 3 rfl (Or.inl rfl)))
    (z_one (s_set 6 nd rfl (Or.inl rfl) (q_call (k_law_plus h) (hr.mono (by decide)) (a_cons (q_var 0 rfl (Or.inr (Or.inl rfl))) (a_cons (q_var 6 rfl (Or.inl rfl)) (a_cons (q_var 7 rfl (Or.inl rfl)) (a_cons (q_sub q_int (q_ix (q_var 6 rfl (Or.inl rfl)) (q_var 8 rfl (Or.inl rfl)))) a_nil)))))))
    z_nil))))
    (z_one (s_ret (q_if (t_gt (q_bi ((cr_max rfl).or (cr_maxT hr rfl)) cd_max1 h.b_max bt_max (a_cons (q_add (q_slice (q_var 6 rfl (Or.inl rfl)) o_none (o_some (q_var 3 rfl (Or.inl rfl)))) (q_tup (a_cons q_int a_nil))) a_nil)) q_int) q_non (q_ty call_tuple_of cd_tuple h.b_tuple bt_tuple (a_cons (PF.d (f_lcV [("_law_entry", 12)] rfl rfl nd (i_tup (q_slice (q_var 6 rfl (Or.inl rfl)) (o_some (q_var 3 rfl (Or.inl rfl))) o_none)) (blkOk_by (by kernel_rfl)) (fun s H A cl fp => (g_name 12 nd rfl (Or.inl rfl))) (fun s H A cl fp => (q_mod (q_sub q_int (q_var 12 rfl (Or.inl rfl))) (q_var 0 rfl (Or.inr (Or.inl rfl))))))) a_nil)))))))))⟩
def B_law_ring : FS := (sRet (dispE "p" "n" "t" (aC (vr 0) (aC (cO lenD (aC (vr 1) aN)) (aC (frz (lcE (itL (vr 1)) (gN 2) yesB (frz (lcE (itL (vr 2)) (gN 3) yesB (cO tupleD (aC (vr 3) aN)) [3])) [2])) aN)))))
def F_law_ring : List D → Option D := runP 4 2 B_law_ring
def N_law_ring : List Str := ["_law_p", "_law_table", "_law_line", "_law_row"]
theorem S_law_ring : FnScope N_law_ring ["_law_p", "_law_table"] (defScope (topS 73)) := ⟨rfl, rfl, rfl, by decide +kernel, rfl, by decide +kernel, by decide +kernel⟩
theorem k_law_ring (h : Tops P w K mg base C) : Kn P w K mg base "_law_ring" 1 ["_law_p", "_law_table"] (spP K C F_law_ring) := by
  have nd := S_law_ring.nd
  refine kn_P h.x_law_ring S_law_ring rfl rfl fun f cdv A outer s H E hr => ⟨_, (z_one (s_ret (q_disp (q_var 0 rfl (Or.inl rfl)) (q_bi call_len_seq cd_len h.b_len bt_len (a_cons (q_var 1 rfl (Or.inl rfl)) a_nil)) (PF.d (f_lcV [("_law_line", 2)] rfl rfl nd (i_list (q_var 1 rfl (Or.inl rfl))) (blkOk_by (by kernel_rfl)) (fun s H A cl fp => (g_name 2 nd rfl (Or.inl rfl))) (fun s H A cl fp => (PF.d (f_lcV [("_law_row", 3)] rfl rfl nd (i_list (q_var 2 rfl (Or.inl rfl))) (blkOk_by (by kernel_rfl)) (fun s H A cl fp => (g_name 3 nd rfl (Or.inl rfl))) (fun s H A cl fp => (q_ty call_tuple_of cd_tuple h.b_tuple bt_tuple (a_cons (q_var 3 rfl (Or.inl rfl)) a_nil)))))))))))⟩
def B_law_times : FS := (sSeq (sAsg 3 (bO mulD (tupE (lenOk (aC (cD (.int 0)) aN))) (dgE "n" (vr 0)))) (sSeq (sFor (itE (aC (vr 1) aN)) (gT2 4 5) (sFor (itE (aC (vr 2) aN)) (gT2 6 7) (sIf (tst (bO neD (bO mulD (vr 5) (vr 7)) (cD (.int 0)))) (sAsg 3 (cO F_law_plus (aC (dgE "p" (vr 0)) (aC (vr 3) (aC (bO ixD (bO ixD (dgE "t" (vr 0)) (vr 4)) (vr 6)) (aC (bO mulD (vr 5) (vr 7)) aN)))))) sNx))) (sRet (vr 3))))
def F_law_times : List D → Option D := runP 8 3 B_law_times
def N_law_times : List Str := ["_law_ring_here", "_law_one", "_law_other", "_law_found", "_law_i", "_law_a", "_law_j", "_law_b"]
theorem S_law_times : FnScope N_law_times ["_law_ring_here", "_law_one", "_law_other"] (defScope (topS 74)) := ⟨rfl, rfl, rfl, by decide +kernel, rfl, by decide +kernel, by decide +kernel⟩
theorem k_law_times (h : Tops P w K mg base C) : Kn P w K mg base "_law_times" 2 ["_law_ring_here", "_law_one", "_law_other"] (spP K C F_law_times) := by
  have nd := S_law_times.nd
  refine kn_P h.x_law_times S_law_times rfl rfl fun f cdv A outer s H E hr => ⟨_, (z_cons (s_set 3 nd rfl (Or.inl rfl) (q_mul (q_tup (a_cons q_int a_nil)) (q_dg hr (q_var 0 rfl (Or.inl rfl)) (fun _ _ => rfl))))
    (z_cons (s_for PassesOwn.never rfl (i_enum h.b_enumerate (a_cons (q_var 1 rfl (Or.inl rfl)) a_nil)) (g_tup2 rfl (g_name 4 nd rfl (Or.inl rfl)) (g_name 5 nd rfl (Or.inl rfl)))
    (z_one (s_for PassesOwn.never rfl (i_enum h.b_enumerate (a_cons (q_var 2 rfl (Or.inl rfl)) a_nil)) (g_tup2 rfl (g_name 6 nd rfl (Or.inl rfl)) (g_name 7 nd rfl (Or.inl rfl)))
    (z_one (s_if (t_ne hr (q_mul (q_var 5 rfl (Or.inl rfl)) (q_var 7 rfl (Or.inl rfl))) q_int)
    (z_one (s_set 3 nd rfl (Or.inl rfl) (q_call (k_law_plus h) (hr.mono (by decide)) (a_cons (q_dg hr (q_var 0 rfl (Or.inl rfl)) (fun _ _ => rfl)) (a_cons (q_var 3 rfl (Or.inl rfl)) (a_cons (q_ix (q_ix (q_dg hr (q_var 0 rfl (Or.inl rfl)) (fun _ _ => rfl)) (q_var 4 rfl (Or.inl rfl))) (q_var 6 rfl (Or.inl rfl))) (a_cons (q_mul (q_var 5 rfl (Or.inl rfl)) (q_var 7 rfl (Or.inl rfl))) a_nil)))))))
    z_nil)))))
    (z_one (s_ret (q_var 3 rfl (Or.inl rfl))))))⟩
def B_law_unit : FS := (sRetF (lcE (itR1 (aC (vr 0) aN)) (gN 1) yesB (cO tupleD (aC (frz (lcE (itR1 (aC (vr 0) aN)) (gN 2) yesB (cO intD (aC (bO eqD (vr 1) (vr 2)) aN)) [2])) aN)) [1]))
def F_law_unit : List D → Option (List D) := runF 3 1 B_law_unit
def N_law_unit : List Str := ["_law_size", "_law_at", "_law_to"]
theorem S_law_unit : FnScope N_law_unit ["_law_size"] (defScope (topS 75)) := ⟨rfl, rfl, rfl, by decide +kernel, rfl, by decide +kernel, by decide +kernel⟩
theorem k_law_unit (h : Tops P w K mg base C) : Kn P w K mg base "_law_unit" 1 ["_law_size"] (spF K C F_law_unit) := by
  have nd := S_law_unit.nd
  refine kn_F h.x_law_unit S_law_unit rfl rfl fun f cdv A outer s H E hr => ⟨_, (z_one (s_retF (f_lcV [("_law_at", 1)] rfl rfl nd (i_rng1 h.b_range (a_cons (q_var 0 rfl (Or.inr (Or.inl rfl))) a_nil)) (blkOk_by (by kernel_rfl)) (fun s H A cl fp => (g_name 1 nd rfl (Or.inr rfl))) (fun s H A cl fp => (q_ty call_tuple_of cd_tuple h.b_tuple bt_tuple (a_cons (PF.d (f_lcV [("_law_to", 2)] rfl rfl nd (i_rng1 h.b_range (a_cons (q_var 0 rfl (Or.inr (Or.inl rfl))) a_nil)) (blkOk_by (by kernel_rfl)) (fun s H A cl fp => (g_name 2 nd rfl (Or.inl rfl))) (fun s H A cl fp => (q_ty call_int1 cd_int h.b_int bt_int (a_cons (q_eq hr (q_var 1 rfl (Or.inr (Or.inl rfl))) (q_var 2 rfl (Or.inl rfl))) a_nil))))) a_nil))))))⟩
end TR

namespace TR
open PySem PySem.Spec PyProof.Rows L2
variable {P : Program} {w : World} {K : PySem.W.Frag} {mg : Str → Option Value} {base : Heap} {C : Nat → Addr}
def B_undone_residue : FS := (sRet (bO ixD (uO undO (vr 0)) (vr 1)))
def F_undone_residue : List D → Option D := runP 2 2 B_undone_residue
def N_undone_residue : List Str := ["prime", "residue"]
theorem S_undone_residue : FnScope N_undone_residue ["prime", "residue"] (defScope (topS 20)) := ⟨rfl, rfl, rfl, by decide +kernel, rfl, by decide +kernel, by decide +kernel⟩
theorem k_undone_residue (h : Tops P w K mg base C) : Kn P w K mg base "undone_residue" 1 ["prime", "residue"] (spP K C F_undone_residue) := by
  obtain ⟨a_UNDONE, m_UNDONE, d_UNDONE⟩ := h.g_UNDONE
  have nd := S_undone_residue.nd
  refine kn_P h.x_undone_residue S_undone_residue rfl rfl fun f cdv A outer s H E hr => ⟨_, (z_one (s_ret (q_ix (q_und m_UNDONE d_UNDONE (q_var 0 rfl (Or.inl rfl))) (q_var 1 rfl (Or.inl rfl)))))⟩
def B_require_integer : FS := (sIf (notB (tst (cO F_is_integer (aC (vr 0) aN)))) sBad sNx)
def F_require_integer : List D → Option D := runP 1 1 B_require_integer
def N_require_integer : List Str := ["value"]
theorem S_require_integer : FnScope N_require_integer ["value"] (defScope (topS 21)) := ⟨rfl, rfl, rfl, by decide +kernel, rfl, by decide +kernel, by decide +kernel⟩
theorem k_require_integer (h : Tops P w K mg base C) : Kn P w K mg base "require_integer" 3 ["value"] (spP K C F_require_integer) := by
  have nd := S_require_integer.nd
  refine kn_P h.x_require_integer S_require_integer rfl rfl fun f cdv A outer s H E hr => ⟨_, (z_one (s_if (t_not (t_val (q_call (k_is_integer h) (hr.mono (by decide)) (a_cons (q_var 0 rfl (Or.inl rfl)) a_nil))))
    z_bad
    z_nil))⟩
def B_require_within : FS := (sIf (notB (tst (cO F_is_within (aC (vr 0) (aC (vr 1) (aC (vr 2) aN)))))) sBad sNx)
def F_require_within : List D → Option D := runP 3 3 B_require_within
def N_require_within : List Str := ["value", "least", "greatest"]
theorem S_require_within : FnScope N_require_within ["value", "least", "greatest"] (defScope (topS 22)) := ⟨rfl, rfl, rfl, by decide +kernel, rfl, by decide +kernel, by decide +kernel⟩
theorem k_require_within (h : Tops P w K mg base C) : Kn P w K mg base "require_within" 3 ["value", "least", "greatest"] (spP K C F_require_within) := by
  have nd := S_require_within.nd
  refine kn_P h.x_require_within S_require_within rfl rfl fun f cdv A outer s H E hr => ⟨_, (z_one (s_if (t_not (t_val (q_call (k_is_within h) (hr.mono (by decide)) (a_cons (q_var 0 rfl (Or.inl rfl)) (a_cons (q_var 1 rfl (Or.inl rfl)) (a_cons (q_var 2 rfl (Or.inl rfl)) a_nil))))))
    z_bad
    z_nil))⟩
def B_require_prime : FS := (sIf (notB (tst (cO F_is_prime (aC (vr 0) aN)))) sBad sNx)
def F_require_prime : List D → Option D := runP 1 1 B_require_prime
def N_require_prime : List Str := ["value"]
theorem S_require_prime : FnScope N_require_prime ["value"] (defScope (topS 23)) := ⟨rfl, rfl, rfl, by decide +kernel, rfl, by decide +kernel, by decide +kernel⟩
theorem k_require_prime (h : Tops P w K mg base C) : Kn P w K mg base "require_prime" 3 ["value"] (spP K C F_require_prime) := by
  have nd := S_require_prime.nd
  refine kn_P h.x_require_prime S_require_prime rfl rfl fun f cdv A outer s H E hr => ⟨_, (z_one (s_if (t_not (t_val (q_call (k_is_prime h) (hr.mono (by decide)) (a_cons (q_var 0 rfl (Or.inl rfl)) a_nil))))
    z_bad
    z_nil))⟩
def B_rest_of : FS := (sSeq (sFor (itT (vr 1)) (gN 3) (sSeq (sAsg 4 (bO ixD (vr 2) (cO F_lead_of (aC (vr 3) aN)))) (sIf (tst (bO neD (vr 4) (cD (.int 0)))) (sAsg 2 (cO F_added_row (aC (vr 0) (aC (vr 2) (aC (vr 3) (aC (uO negD (vr 4)) aN)))))) sNx))) (sRet (vr 2)))
def F_rest_of : List D → Option D := runP 5 3 B_rest_of
def N_rest_of : List Str := ["prime", "space", "row", "line", "factor"]
theorem S_rest_of : FnScope N_rest_of ["prime", "space", "row"] (defScope (topS 31)) := ⟨rfl, rfl, rfl, by decide +kernel, rfl, by decide +kernel, by decide +kernel⟩
theorem k_rest_of (h : Tops P w K mg base C) : Kn P w K mg base "rest_of" 2 ["prime", "space", "row"] (spP K C F_rest_of) := by
  have nd := S_rest_of.nd
  refine kn_P h.x_rest_of S_rest_of rfl rfl fun f cdv A outer s H E hr => ⟨_, (z_cons (s_for PassesOwn.never rfl (i_tup (q_var 1 rfl (Or.inl rfl))) (g_name 3 nd rfl (Or.inl rfl))
    (z_cons (s_set 4 nd rfl (Or.inl rfl) (q_ix (q_var 2 rfl (Or.inl rfl)) (q_call (k_lead h) (hr.mono (by decide)) (a_cons (q_var 3 rfl (Or.inl rfl)) a_nil))))
    (z_one (s_if (t_ne hr (q_var 4 rfl (Or.inl rfl)) q_int)
    (z_one (s_set 2 nd rfl (Or.inl rfl) (q_call (k_added_row h) (hr.mono (by decide)) (a_cons (q_var 0 rfl (Or.inl rfl)) (a_cons (q_var 2 rfl (Or.inl rfl)) (a_cons (q_var 3 rfl (Or.inl rfl)) (a_cons (q_neg (q_var 4 rfl (Or.inl rfl))) a_nil)))))))
    z_nil))))
    (z_one (s_ret (q_var 2 rfl (Or.inl rfl)))))⟩
def B_with_row : FS := (sSeq (sAsg 3 (cO F_rest_of (aC (vr 0) (aC (vr 1) (aC (vr 2) aN))))) (sSeq (sAsg 4 (cO F_lead_of (aC (vr 3) aN))) (sSeq (sIf (tst (bO isD (vr 4) (cD .non))) (sRet (vr 1)) sNx) (sSeq (sAsg 3 (cO F_scaled_row (aC (vr 0) (aC (cO F_undone_residue (aC (vr 0) (aC (bO ixD (vr 3) (vr 4)) aN))) (aC (vr 3) aN))))) (sSeq (sAsg 5 (frz (lcE (itT (vr 1)) (gN 7) yesB (cO F_added_row (aC (vr 0) (aC (vr 7) (aC (vr 3) (aC (uO negD (bO ixD (vr 7) (vr 4))) aN))))) [7]))) (sSeq (sAsg 6 (cO lenD (aC (frz (lcE (itL (vr 5)) (gN 7) (tst (bO ltD (cO F_lead_of (aC (vr 7) aN)) (vr 4))) (vr 7) [7])) aN))) (sRet (tupE (lenOk (aS (slE (vr 5) oN (oS (vr 6))) (aC (vr 3) (aS (slE (vr 5) (oS (vr 6)) oN) aN))))))))))))
def F_with_row : List D → Option D := runP 8 3 B_with_row
def N_with_row : List Str := ["prime", "space", "row", "rest", "lead", "lines", "place", "line"]
theorem S_with_row : FnScope N_with_row ["prime", "space", "row"] (defScope (topS 32)) := ⟨rfl, rfl, rfl, by decide +kernel, rfl, by decide +kernel, by decide +kernel⟩
theorem k_with_row (h : Tops P w K mg base C) : Kn P w K mg base "with_row" 3 ["prime", "space", "row"] (spP K C F_with_row) := by
  have nd := S_with_row.nd
  refine kn_P h.x_with_row S_with_row rfl rfl fun f cdv A outer s H E hr => ⟨_, (z_cons (s_set 3 nd rfl (Or.inr rfl) (q_call (k_rest_of h) (hr.mono (by decide)) (a_cons (q_var 0 rfl (Or.inr (Or.inl rfl))) (a_cons (q_var 1 rfl (Or.inl rfl)) (a_cons (q_var 2 rfl (Or.inl rfl)) a_nil)))))
    (z_cons (s_set 4 nd rfl (Or.inr rfl) (q_call (k_lead h) (hr.mono (by decide)) (a_cons (q_var 3 rfl (Or.inr (Or.inl rfl))) a_nil)))
    (z_cons (s_if (t_is (q_var 4 rfl (Or.inr (Or.inl rfl))) q_non)
    (z_one (s_ret (q_var 1 rfl (Or.inl rfl))))
    z_nil)
    (z_cons (s_set 3 nd rfl (Or.inr rfl) (q_call (k_scaled_row h) (hr.mono (by decide)) (a_cons (q_var 0 rfl (Or.inr (Or.inl rfl))) (a_cons (q_call (k_undone_residue h) (hr.mono (by decide)) (a_cons (q_var 0 rfl (Or.inr (Or.inl rfl))) (a_cons (q_ix (q_var 3 rfl (Or.inr (Or.inl rfl))) (q_var 4 rfl (Or.inr (Or.inl rfl)))) a_nil))) (a_cons (q_var 3 rfl (Or.inr (Or.inl rfl))) a_nil)))))
    (z_cons (s_lcV 5 rfl rfl (lcV [("line", 7)] rfl rfl nd (i_tup (q_var 1 rfl (Or.inl rfl))) (blkOk_by (by kernel_rfl)) (fun s H A cl fp => (g_name 7 nd rfl (Or.inl rfl))) (fun s H A cl fp => (q_call (k_added_row h) (hr.mono (by decide)) (a_cons (q_var 0 rfl (Or.inr (Or.inl rfl))) (a_cons (q_var 7 rfl (Or.inl rfl)) (a_cons (q_var 3 rfl (Or.inr (Or.inl rfl))) (a_cons (q_neg (q_ix (q_var 7 rfl (Or.inl rfl)) (q_var 4 rfl (Or.inr (Or.inl rfl))))) a_nil))))))) (sw_true rfl rfl rfl rfl))
    (z_cons (s_set 6 nd rfl (Or.inl rfl) (q_bi call_len_seq cd_len h.b_len bt_len (a_cons (PF.d (f_lcU [("line", 7)] rfl rfl nd (i_list (q_var 5 rfl (Or.inl rfl))) (blkOk_by (by kernel_rfl)) (fun s H A cl fp => (g_name 7 nd rfl (Or.inl rfl))) (fun s H A cl fp => (t_lt (q_call (k_lead h) (hr.mono (by decide)) (a_cons (q_var 7 rfl (Or.inl rfl)) a_nil)) (q_var 4 rfl (Or.inr (Or.inl rfl))))) (fun s H A cl fp => (q_var 7 rfl (Or.inl rfl))))) a_nil)))
    (z_one (s_ret (q_tup (a_star (q_slice (q_var 5 rfl (Or.inl rfl)) o_none (o_some (q_var 6 rfl (Or.inl rfl)))) (a_cons (q_var 3 rfl (Or.inr (Or.inl rfl))) (a_star (q_slice (q_var 5 rfl (Or.inl rfl)) (o_some (q_var 6 rfl (Or.inl rfl))) o_none) a_nil))))))))))))⟩
def B_reduced : FS := (sSeq (sAsg 2 (tupE (lenOk aN))) (sSeq (sFor (itL (vr 1)) (gN 3) (sAsg 2 (cO F_with_row (aC (vr 0) (aC (vr 2) (aC (vr 3) aN)))))) (sRet (vr 2))))
def F_reduced : List D → Option D := runP 4 2 B_reduced
def N_reduced : List Str := ["prime", "rows", "space", "row"]
theorem S_reduced : FnScope N_reduced ["prime", "rows"] (defScope (topS 33)) := ⟨rfl, rfl, rfl, by decide +kernel, rfl, by decide +kernel, by decide +kernel⟩
theorem k_reduced (h : Tops P w K mg base C) : Kn P w K mg base "reduced" 4 ["prime", "rows"] (spP K C F_reduced) := by
  have nd := S_reduced.nd
  refine kn_P h.x_reduced S_reduced rfl rfl fun f cdv A outer s H E hr => ⟨_, (z_cons (s_set 2 nd rfl (Or.inl rfl) (q_tup a_nil))
    (z_cons (s_for PassesOwn.never rfl (i_list (q_var 1 rfl (Or.inl rfl))) (g_name 3 nd rfl (Or.inl rfl))
    (z_one (s_set 2 nd rfl (Or.inl rfl) (q_call (k_with_row h) (hr.mono (by decide)) (a_cons (q_var 0 rfl (Or.inl rfl)) (a_cons (q_var 2 rfl (Or.inl rfl)) (a_cons (q_var 3 rfl (Or.inl rfl)) a_nil)))))))
    (z_one (s_ret (q_var 2 rfl (Or.inl rfl))))))⟩
def B_solution_in : FS := (sSeq (sPar 3 4 (xV (cO lenD (aC (vr 2) aN))) (xV (cO lenD (aC (vr 1) aN)))) (sSeq (sAsg 6 (cO F_reduced (aC (vr 0) (aC (frz (lcE (itE (aC (vr 1) aN)) (gT2 9 5) yesB (tupE (lenOk (aS (vr 5) (aS (cO F_single_row (aC (vr 4) (aC (vr 9) aN))) aN)))) [9, 5])) aN)))) (sSeq (sAsg 7 (tupE (lenOk (aS (vr 2) (aS (cO F_zero_row (aC (vr 4) aN)) aN))))) (sSeq (sFor (itT (vr 6)) (gN 5) (sSeq (sAsg 8 (cO F_lead_of (aC (vr 5) aN))) (sIf (andB (tst (bO ltD (vr 8) (vr 3))) (tst (bO neD (bO ixD (vr 7) (vr 8)) (cD (.int 0))))) (sAsg 7 (cO F_added_row (aC (vr 0) (aC (vr 7) (aC (vr 5) (aC (uO negD (bO ixD (vr 7) (vr 8))) aN)))))) sNx))) (sRet (ifE (tst (cO anyD (aC (slE (vr 7) oN (oS (vr 3))) aN))) (cD .non) (cO F_scaled_row (aC (vr 0) (aC (uO negD (cD (.int 1))) (aC (slE (vr 7) (oS (vr 3)) oN) aN))))))))))
def F_solution_in : List D → Option D := runP 10 3 B_solution_in
def N_solution_in : List Str := ["prime", "table", "row", "width", "size", "line", "wide", "rest", "lead", "place"]
theorem S_solution_in : FnScope N_solution_in ["prime", "table", "row"] (defScope (topS 34)) := ⟨rfl, rfl, rfl, by decide +kernel, rfl, by decide +kernel, by decide +kernel⟩
theorem k_solution_in (h : Tops P w K mg base C) : Kn P w K mg base "solution_in" 5 ["prime", "table", "row"] (spP K C F_solution_in) := by
  have nd := S_solution_in.nd
  refine kn_P h.x_solution_in S_solution_in rfl rfl fun f cdv A outer s H E hr => ⟨_, (z_cons (s_parC 3 4 (by decide) rfl nd rfl rfl (Or.inl rfl) (Or.inr rfl) (PD.x (q_bi call_len_seq cd_len h.b_len bt_len (a_cons (q_var 2 rfl (Or.inl rfl)) a_nil))) (PD.x (q_bi call_len_seq cd_len h.b_len bt_len (a_cons (q_var 1 rfl (Or.inl rfl)) a_nil))))
    (z_cons (s_set 6 nd rfl (Or.inl rfl) (q_call (k_reduced h) (hr.mono (by decide)) (a_cons (q_var 0 rfl (Or.inl rfl)) (a_cons (PF.d (f_lcV [("place", 9), ("line", 5)] rfl rfl nd (i_enum h.b_enumerate (a_cons (q_var 1 rfl (Or.inl rfl)) a_nil)) (blkOk_by (by kernel_rfl)) (fun s H A cl fp => (g_tup2 rfl (g_name 9 nd rfl (Or.inl rfl)) (g_name 5 nd rfl (Or.inl rfl)))) (fun s H A cl fp => (q_tup (a_star (q_var 5 rfl (Or.inl rfl)) (a_star (q_call (k_single_row h) (hr.mono (by decide)) (a_cons (q_var 4 rfl (Or.inr (Or.inl rfl))) (a_cons (q_var 9 rfl (Or.inl rfl)) a_nil))) a_nil)))))) a_nil))))
    (z_cons (s_set 7 nd rfl (Or.inl rfl) (q_tup (a_star (q_var 2 rfl (Or.inl rfl)) (a_star (q_call (k_zero_row h) (hr.mono (by decide)) (a_cons (q_var 4 rfl (Or.inr (Or.inl rfl))) a_nil)) a_nil))))
    (z_cons (s_for PassesOwn.never rfl (i_tup (q_var 6 rfl (Or.inl rfl))) (g_name 5 nd rfl (Or.inl rfl))
    (z_cons (s_set 8 nd rfl (Or.inl rfl) (q_call (k_lead h) (hr.mono (by decide)) (a_cons (q_var 5 rfl (Or.inl rfl)) a_nil)))
    (z_one (s_if (PWD.t (w_and (t_lt (q_var 8 rfl (Or.inl rfl)) (q_var 3 rfl (Or.inl rfl))) (w_and1 (t_ne hr (q_ix (q_var 7 rfl (Or.inl rfl)) (q_var 8 rfl (Or.inl rfl))) q_int))))
    (z_one (s_set 7 nd rfl (Or.inl rfl) (q_call (k_added_row h) (hr.mono (by decide)) (a_cons (q_var 0 rfl (Or.inl rfl)) (a_cons (q_var 7 rfl (Or.inl rfl)) (a_cons (q_var 5 rfl (Or.inl rfl)) (a_cons (q_neg (q_ix (q_var 7 rfl (Or.inl rfl)) (q_var 8 rfl (Or.inl rfl)))) a_nil)))))))
    z_nil))))
    (z_one (s_ret (q_if (t_val (q_bi (cr_anyT rfl) cd_any h.b_any bt_any (a_cons (q_slice (q_var 7 rfl (Or.inl rfl)) o_none (o_some (q_var 3 rfl (Or.inl rfl)))) a_nil))) q_non (q_call (k_scaled_row h) (hr.mono (by decide)) (a_cons (q_var 0 rfl (Or.inl rfl)) (a_cons (q_neg q_int) (a_cons (q_slice (q_var 7 rfl (Or.inl rfl)) (o_some (q_var 3 rfl (Or.inl rfl))) o_none) a_nil)))))))))))⟩
def B_powers_of_letter : FS := (sSeq (sAsg 3 (bO subD (cO lenD (aC (vr 1) aN)) (cD (.int 1)))) (sSeq (sPar 4 5 (xO (lenOk aN)) (xV (cO F_single_row (aC (vr 3) (aC (cD (.int 0)) aN))))) (sSeq (sFor (itR1 (aC (vr 2) aN)) (gN 6) (sSeq (sApp 4 (vr 5)) (sSeq (sAsg 7 (cO F_scaled_row (aC (vr 0) (aC (uO negD (bO ixD (vr 5) (uO negD (cD (.int 1))))) (aC (slE (vr 1) oN (oS (uO negD (cD (.int 1))))) aN))))) (sAsg 5 (cO tupleD (aC (frz (lcE (itZ (aC (tupE (lenOk (aC (cD (.int 0)) (aS (slE (vr 5) oN (oS (uO negD (cD (.int 1))))) aN)))) (aC (vr 7) aN))) (gT2 8 9) yesB (bO modD (bO addD (vr 8) (vr 9)) (vr 0)) [8, 9])) aN)))))) (frzS 4 (sRet (vr 4))))))
def F_powers_of_letter : List D → Option D := runP 10 3 B_powers_of_letter
def N_powers_of_letter : List Str := ["prime", "poly", "many", "size", "found", "here", "turn", "back", "one", "two"]
theorem S_powers_of_letter : FnScope N_powers_of_letter ["prime", "poly", "many"] (defScope (topS 39)) := ⟨rfl, rfl, rfl, by decide +kernel, rfl, by decide +kernel, by decide +kernel⟩
theorem k_powers_of_letter (h : Tops P w K mg base C) : Kn P w K mg base "powers_of_letter" 2 ["prime", "poly", "many"] (spP K C F_powers_of_letter) := by
  have nd := S_powers_of_letter.nd
  refine kn_P h.x_powers_of_letter S_powers_of_letter rfl rfl fun f cdv A outer s H E hr => ⟨_, (z_cons (s_set 3 nd rfl (Or.inl rfl) (q_sub (q_bi call_len_seq cd_len h.b_len bt_len (a_cons (q_var 1 rfl (Or.inl rfl)) a_nil)) q_int))
    (z_cons (s_par 4 5 (by decide) rfl nd rfl rfl rfl rfl (PF.x (f_lst a_nil)) (PD.x (q_call (k_single_row h) (hr.mono (by decide)) (a_cons (q_var 3 rfl (Or.inl rfl)) (a_cons q_int a_nil)))))
    (z_cons (s_for PassesOwn.never rfl (i_rng1 h.b_range (a_cons (q_var 2 rfl (Or.inl rfl)) a_nil)) (g_name 6 nd rfl (Or.inl rfl))
    (z_cons (s_app 4 rfl (Or.inl rfl) (q_var 5 rfl (Or.inl rfl)))
    (z_cons (s_set 7 nd rfl (Or.inl rfl) (q_call (k_scaled_row h) (hr.mono (by decide)) (a_cons (q_var 0 rfl (Or.inr (Or.inl rfl))) (a_cons (q_neg (q_ix (q_var 5 rfl (Or.inl rfl)) (q_neg q_int))) (a_cons (q_slice (q_var 1 rfl (Or.inl rfl)) o_none (o_some (q_neg q_int))) a_nil)))))
    (z_one (s_set 5 nd rfl (Or.inl rfl) (q_ty call_tuple_of cd_tuple h.b_tuple bt_tuple (a_cons (PF.d (f_lcV [("one", 8), ("two", 9)] rfl rfl nd (i_zip h.b_zip (a_cons (q_tup (a_cons q_int (a_star (q_slice (q_var 5 rfl (Or.inl rfl)) o_none (o_some (q_neg q_int))) a_nil))) (a_cons (q_var 7 rfl (Or.inl rfl)) a_nil))) (blkOk_by (by kernel_rfl)) (fun s H A cl fp => (g_tup2 rfl (g_name 8 nd rfl (Or.inl rfl)) (g_name 9 nd rfl (Or.inl rfl)))) (fun s H A cl fp => (q_mod (q_add (q_var 8 rfl (Or.inl rfl)) (q_var 9 rfl (Or.inl rfl))) (q_var 0 rfl (Or.inr (Or.inl rfl))))))) a_nil)))))))
    (z_frz 4 (z_one (s_ret (q_var 4 rfl (Or.inl rfl))))))))⟩
def B_poly_products : FS := (sSeq (sAsg 2 (bO subD (cO lenD (aC (vr 1) aN)) (cD (.int 1)))) (sSeq (sAsg 3 (cO F_powers_of_letter (aC (vr 0) (aC (vr 1) (aC (bO subD (bO mulD (cD (.int 2)) (vr 2)) (cD (.int 1))) aN))))) (sRet (cO tupleD (aC (frz (lcE (itR1 (aC (vr 2) aN)) (gN 4) yesB (cO tupleD (aC (frz (lcE (itR1 (aC (vr 2) aN)) (gN 5) yesB (bO ixD (vr 3) (bO addD (vr 4) (vr 5))) [5])) aN)) [4])) aN)))))
def F_poly_products : List D → Option D := runP 6 2 B_poly_products
def N_poly_products : List Str := ["prime", "poly", "size", "powers", "at", "to"]
theorem S_poly_products : FnScope N_poly_products ["prime", "poly"] (defScope (topS 40)) := ⟨rfl, rfl, rfl, by decide +kernel, rfl, by decide +kernel, by decide +kernel⟩
theorem k_poly_products (h : Tops P w K mg base C) : Kn P w K mg base "poly_products" 3 ["prime", "poly"] (spP K C F_poly_products) := by
  have nd := S_poly_products.nd
  refine kn_P h.x_poly_products S_poly_products rfl rfl fun f cdv A outer s H E hr => ⟨_, (z_cons (s_set 2 nd rfl (Or.inr rfl) (q_sub (q_bi call_len_seq cd_len h.b_len bt_len (a_cons (q_var 1 rfl (Or.inl rfl)) a_nil)) q_int))
    (z_cons (s_set 3 nd rfl (Or.inr rfl) (q_call (k_powers_of_letter h) (hr.mono (by decide)) (a_cons (q_var 0 rfl (Or.inl rfl)) (a_cons (q_var 1 rfl (Or.inl rfl)) (a_cons (q_sub (q_mul q_int (q_var 2 rfl (Or.inr (Or.inl rfl)))) q_int) a_nil)))))
    (z_one (s_ret (q_ty call_tuple_of cd_tuple h.b_tuple bt_tuple (a_cons (PF.d (f_lcV [("at", 4)] rfl rfl nd (i_rng1 h.b_range (a_cons (q_var 2 rfl (Or.inr (Or.inl rfl))) a_nil)) (blkOk_by (by kernel_rfl)) (fun s H A cl fp => (g_name 4 nd rfl (Or.inr rfl))) (fun s H A cl fp => (q_ty call_tuple_of cd_tuple h.b_tuple bt_tuple (a_cons (PF.d (f_lcV [("to", 5)] rfl rfl nd (i_rng1 h.b_range (a_cons (q_var 2 rfl (Or.inr (Or.inl rfl))) a_nil)) (blkOk_by (by kernel_rfl)) (fun s H A cl fp => (g_name 5 nd rfl (Or.inl rfl))) (fun s H A cl fp => (q_ix (q_var 3 rfl (Or.inr (Or.inl rfl))) (q_add (q_var 4 rfl (Or.inr (Or.inl rfl))) (q_var 5 rfl (Or.inl rfl))))))) a_nil))))) a_nil))))))⟩
def B_is_monic_in : FS := (sSeq (sIf (orB (notB (tst (uO isT (vr 1)))) (notB (tst (chE leD leD (cD (.int 2)) (cO lenD (aC (vr 1) aN)) (bO addD (cD (.int 9)) (cD (.int 1))))))) (sRet (cD (.bl false))) sNx) (sRet (andE (cO F_is_residue_row (aC (vr 0) (aC (cO lenD (aC (vr 1) aN)) (aC (vr 1) aN)))) (bO eqD (bO ixD (vr 1) (uO negD (cD (.int 1)))) (cD (.int 1))))))
def F_is_monic_in : List D → Option D := runP 2 2 B_is_monic_in
def N_is_monic_in : List Str := ["prime", "value"]
theorem S_is_monic_in : FnScope N_is_monic_in ["prime", "value"] (defScope (topS 43)) := ⟨rfl, rfl, rfl, by decide +kernel, rfl, by decide +kernel, by decide +kernel⟩
theorem k_is_monic_in (h : Tops P w K mg base C) : Kn P w K mg base "is_monic_in" 4 ["prime", "value"] (spP K C F_is_monic_in) := by
  obtain ⟨v_MOST_BASE, u_MOST_BASE, m_MOST_BASE, r_MOST_BASE, d_MOST_BASE⟩ := h.g_MOST_BASE
  have nd := S_is_monic_in.nd
  refine kn_P h.x_is_monic_in S_is_monic_in rfl rfl fun f cdv A outer s H E hr => ⟨_, (z_cons (s_if (PWD.t (w_or (t_not (t_val (q_isTup h.b_isinstance h.b_tuple (q_var 1 rfl (Or.inl rfl))))) (w_or1 (t_not (t_chain op_le rd_le op_le rd_le q_int (q_bi call_len_seq cd_len h.b_len bt_len (a_cons (q_var 1 rfl (Or.inl rfl)) a_nil)) (q_add (q_glob m_MOST_BASE r_MOST_BASE d_MOST_BASE) q_int))))))
    (z_one (s_ret q_bl))
    z_nil)
    (z_one (s_ret (q_and (q_call (k_is_residue_row h) (hr.mono (by decide)) (a_cons (q_var 0 rfl (Or.inl rfl)) (a_cons (q_bi call_len_seq cd_len h.b_len bt_len (a_cons (q_var 1 rfl (Or.inl rfl)) a_nil)) (a_cons (q_var 1 rfl (Or.inl rfl)) a_nil)))) (q_one (q_eq hr (q_ix (q_var 1 rfl (Or.inl rfl)) (q_neg q_int)) q_int))))))⟩
def B_group_fault : FS := (sSeq (sAsg 2 (cO lenD (aC (vr 1) aN))) (sSeq (sFor (itR1 (aC (vr 2) aN)) (gN 3) (sFor (itR1 (aC (vr 2) aN)) (gN 4) (sFor (itR1 (aC (vr 2) aN)) (gN 5) (sSeq (sAsg 6 (cO F_led_row (aC (vr 0) (aC (frz (lcE (itT (vr 1)) (gN 7) yesB (bO ixD (vr 7) (vr 5)) [7])) (aC (bO ixD (bO ixD (vr 1) (vr 3)) (vr 4)) (aC (vr 2) aN)))))) (sIf (tst (bO neD (vr 6) (cO F_led_row (aC (vr 0) (aC (bO ixD (vr 1) (vr 3)) (aC (bO ixD (bO ixD (vr 1) (vr 4)) (vr 5)) (aC (vr 2) aN))))))) (sRet (tupE (lenOk (aC (vr 3) (aC (vr 4) (aC (vr 5) aN)))))) sNx))))) (sRet (cD .non))))
def F_group_fault : List D → Option D := runP 8 2 B_group_fault
def N_group_fault : List Str := ["prime", "table", "size", "at", "to", "last", "ahead", "line"]
theorem S_group_fault : FnScope N_group_fault ["prime", "table"] (defScope (topS 49)) := ⟨rfl, rfl, rfl, by decide +kernel, rfl, by decide +kernel, by decide +kernel⟩
theorem k_group_fault (h : Tops P w K mg base C) : Kn P w K mg base "group_fault" 2 ["prime", "table"] (spP K C F_group_fault) := by
  have nd := S_group_fault.nd
  refine kn_P h.x_group_fault S_group_fault rfl rfl fun f cdv A outer s H E hr => ⟨_, (z_cons (s_set 2 nd rfl (Or.inl rfl) (q_bi call_len_seq cd_len h.b_len bt_len (a_cons (q_var 1 rfl (Or.inl rfl)) a_nil)))
    (z_cons (s_for PassesOwn.never rfl (i_rng1 h.b_range (a_cons (q_var 2 rfl (Or.inl rfl)) a_nil)) (g_name 3 nd rfl (Or.inl rfl))
    (z_one (s_for PassesOwn.never rfl (i_rng1 h.b_range (a_cons (q_var 2 rfl (Or.inl rfl)) a_nil)) (g_name 4 nd rfl (Or.inl rfl))
    (z_one (s_for PassesOwn.never rfl (i_rng1 h.b_range (a_cons (q_var 2 rfl (Or.inl rfl)) a_nil)) (g_name 5 nd rfl (Or.inr rfl))
    (z_cons (s_set 6 nd rfl (Or.inl rfl) (q_call (k_led_row h) (hr.mono (by decide)) (a_cons (q_var 0 rfl (Or.inl rfl)) (a_cons (PF.d (f_lcV [("line", 7)] rfl rfl nd (i_tup (q_var 1 rfl (Or.inl rfl))) (blkOk_by (by kernel_rfl)) (fun s H A cl fp => (g_name 7 nd rfl (Or.inl rfl))) (fun s H A cl fp => (q_ix (q_var 7 rfl (Or.inl rfl)) (q_var 5 rfl (Or.inr (Or.inl rfl))))))) (a_cons (q_ix (q_ix (q_var 1 rfl (Or.inl rfl)) (q_var 3 rfl (Or.inl rfl))) (q_var 4 rfl (Or.inl rfl))) (a_cons (q_var 2 rfl (Or.inl rfl)) a_nil))))))
    (z_one (s_if (t_ne hr (q_var 6 rfl (Or.inl rfl)) (q_call (k_led_row h) (hr.mono (by decide)) (a_cons (q_var 0 rfl (Or.inl rfl)) (a_cons (q_ix (q_var 1 rfl (Or.inl rfl)) (q_var 3 rfl (Or.inl rfl))) (a_cons (q_ix (q_ix (q_var 1 rfl (Or.inl rfl)) (q_var 4 rfl (Or.inl rfl))) (q_var 5 rfl (Or.inr (Or.inl rfl)))) (a_cons (q_var 2 rfl (Or.inl rfl)) a_nil))))))
    (z_one (s_ret (q_tup (a_cons (q_var 3 rfl (Or.inl rfl)) (a_cons (q_var 4 rfl (Or.inl rfl)) (a_cons (q_var 5 rfl (Or.inr (Or.inl rfl))) a_nil))))))
    z_nil))))))))
    (z_one (s_ret q_non))))⟩
def B_one_in : FS := (sSeq (sAsg 2 (cO lenD (aC (vr 1) aN))) (sSeq (sPar 3 4 (xO (lenOk aN)) (xO (lenOk aN))) (sSeq (sFor (itR1 (aC (vr 2) aN)) (gN 5) (sSeq (sOwn 6 (lenOk aN)) (sSeq (sFor (itR1 (aC (vr 2) aN)) (gN 7) (sExt 6 (frz (lenOk (aS (bO ixD (bO ixD (vr 1) (vr 5)) (vr 7)) (aS (bO ixD (bO ixD (vr 1) (vr 7)) (vr 5)) aN)))))) (frzS 6 (sApp 3 (cO tupleD (aC (vr 6) aN))))))) (sSeq (sFor (itR1 (aC (vr 2) aN)) (gN 5) (sExt 4 (frz (lenOk (aS (cO F_single_row (aC (vr 2) (aC (vr 5) aN))) (aS (cO F_single_row (aC (vr 2) (aC (vr 5) aN))) aN)))))) (frzS 4 (frzS 3 (sRet (cO F_solution_in (aC (vr 0) (aC (vr 3) (aC (cO tupleD (aC (vr 4) aN)) aN)))))))))))
def F_one_in : List D → Option D := runP 8 2 B_one_in
def N_one_in : List Str := ["prime", "table", "size", "rows", "goal", "at", "row", "to"]
theorem S_one_in : FnScope N_one_in ["prime", "table"] (defScope (topS 50)) := ⟨rfl, rfl, rfl, by decide +kernel, rfl, by decide +kernel, by decide +kernel⟩
theorem k_one_in (h : Tops P w K mg base C) : Kn P w K mg base "one_in" 6 ["prime", "table"] (spP K C F_one_in) := by
  have nd := S_one_in.nd
  refine kn_P h.x_one_in S_one_in rfl rfl fun f cdv A outer s H E hr => ⟨_, (z_cons (s_set 2 nd rfl (Or.inl rfl) (q_bi call_len_seq cd_len h.b_len bt_len (a_cons (q_var 1 rfl (Or.inl rfl)) a_nil)))
    (z_cons (s_par 3 4 (by decide) rfl nd rfl rfl rfl rfl (PF.x (f_lst a_nil)) (PF.x (f_lst a_nil)))
    (z_cons (s_for PassesOwn.never rfl (i_rng1 h.b_range (a_cons (q_var 2 rfl (Or.inl rfl)) a_nil)) (g_name 5 nd rfl (Or.inl rfl))
    (z_cons (s_own 6 nd rfl (Or.inl rfl) (f_lst a_nil))
    (z_cons (s_for PassesOwn.never rfl (i_rng1 h.b_range (a_cons (q_var 2 rfl (Or.inl rfl)) a_nil)) (g_name 7 nd rfl (Or.inl rfl))
    (z_one (s_ext 6 rfl (Or.inl rfl) (PF.d (f_lst (a_star (q_ix (q_ix (q_var 1 rfl (Or.inl rfl)) (q_var 5 rfl (Or.inl rfl))) (q_var 7 rfl (Or.inl rfl))) (a_star (q_ix (q_ix (q_var 1 rfl (Or.inl rfl)) (q_var 7 rfl (Or.inl rfl))) (q_var 5 rfl (Or.inl rfl))) a_nil)))))))
    (z_frz 6 (z_one (s_app 3 rfl (Or.inl rfl) (q_ty call_tuple_of cd_tuple h.b_tuple bt_tuple (a_cons (q_var 6 rfl (Or.inl rfl)) a_nil))))))))
    (z_cons (s_for PassesOwn.never rfl (i_rng1 h.b_range (a_cons (q_var 2 rfl (Or.inl rfl)) a_nil)) (g_name 5 nd rfl (Or.inl rfl))
    (z_one (s_ext 4 rfl (Or.inl rfl) (PF.d (f_lst (a_star (q_call (k_single_row h) (hr.mono (by decide)) (a_cons (q_var 2 rfl (Or.inl rfl)) (a_cons (q_var 5 rfl (Or.inl rfl)) a_nil))) (a_star (q_call (k_single_row h) (hr.mono (by decide)) (a_cons (q_var 2 rfl (Or.inl rfl)) (a_cons (q_var 5 rfl (Or.inl rfl)) a_nil))) a_nil)))))))
    (z_frz 4 (z_frz 3 (z_one (s_ret (q_call (k_solution_in h) (hr.mono (by decide)) (a_cons (q_var 0 rfl (Or.inl rfl)) (a_cons (q_var 3 rfl (Or.inl rfl)) (a_cons (q_ty call_tuple_of cd_tuple h.b_tuple bt_tuple (a_cons (q_var 4 rfl (Or.inl rfl)) a_nil)) a_nil))))))))))))⟩
def B_fault_in : FS := (sSeq (sAsg 2 (cO F_group_fault (aC (vr 0) (aC (vr 1) aN)))) (sSeq (sIf (tst (bO isntD (vr 2) (cD .non))) (sRet (tupE (lenOk (aC (cD (.str "group")) (aS (vr 2) aN))))) sNx) (sRet (ifE (tst (bO isD (cO F_one_in (aC (vr 0) (aC (vr 1) aN))) (cD .non))) (tupE (lenOk (aC (cD (.str "one")) aN))) (cD .non)))))
def F_fault_in : List D → Option D := runP 3 2 B_fault_in
def N_fault_in : List Str := ["prime", "table", "place"]
theorem S_fault_in : FnScope N_fault_in ["prime", "table"] (defScope (topS 51)) := ⟨rfl, rfl, rfl, by decide +kernel, rfl, by decide +kernel, by decide +kernel⟩
theorem k_fault_in (h : Tops P w K mg base C) : Kn P w K mg base "fault_in" 7 ["prime", "table"] (spP K C F_fault_in) := by
  obtain ⟨v_GROUP, u_GROUP, m_GROUP, r_GROUP, d_GROUP⟩ := h.g_GROUP
  obtain ⟨v_NO_ONE, u_NO_ONE, m_NO_ONE, r_NO_ONE, d_NO_ONE⟩ := h.g_NO_ONE
  have nd := S_fault_in.nd
  refine kn_P h.x_fault_in S_fault_in rfl rfl fun f cdv A outer s H E hr => ⟨_, (z_cons (s_set 2 nd rfl (Or.inl rfl) (q_call (k_group_fault h) (hr.mono (by decide)) (a_cons (q_var 0 rfl (Or.inl rfl)) (a_cons (q_var 1 rfl (Or.inl rfl)) a_nil))))
    (z_cons (s_if (t_isnt (q_var 2 rfl (Or.inl rfl)) q_non)
    (z_one (s_ret (q_tup (a_cons (q_glob m_GROUP r_GROUP d_GROUP) (a_star (q_var 2 rfl (Or.inl rfl)) a_nil)))))
    z_nil)
    (z_one (s_ret (q_if (t_is (q_call (k_one_in h) (hr.mono (by decide)) (a_cons (q_var 0 rfl (Or.inl rfl)) (a_cons (q_var 1 rfl (Or.inl rfl)) a_nil))) q_non) (q_tup (a_cons (q_glob m_NO_ONE r_NO_ONE d_NO_ONE) a_nil)) q_non)))))⟩
def B_are_products : FS := (sSeq (sIf (orB (notB (tst (uO isT (vr 1)))) (notB (tst (chE leD leD (cD (.int 1)) (cO lenD (aC (vr 1) aN)) (cD (.int 9)))))) (sRet (cD (.bl false))) sNx) (sSeq (sAsg 2 (cO lenD (aC (vr 1) aN))) (sSeq (sFor (itT (vr 1)) (gN 3) (sSeq (sIf (orB (notB (tst (uO isT (vr 3)))) (tst (bO neD (cO lenD (aC (vr 3) aN)) (vr 2)))) (sRet (cD (.bl false))) sNx) (sIf (notB (tst (cO allD (aC (frz (lcE (itT (vr 3)) (gN 4) yesB (cO F_is_residue_row (aC (vr 0) (aC (vr 2) (aC (vr 4) aN)))) [4])) aN)))) (sRet (cD (.bl false))) sNx))) (sRet (cD (.bl true))))))
def F_are_products : List D → Option D := runP 5 2 B_are_products
def N_are_products : List Str := ["prime", "value", "size", "line", "row"]
theorem S_are_products : FnScope N_are_products ["prime", "value"] (defScope (topS 52)) := ⟨rfl, rfl, rfl, by decide +kernel, rfl, by decide +kernel, by decide +kernel⟩
theorem k_are_products (h : Tops P w K mg base C) : Kn P w K mg base "are_products" 4 ["prime", "value"] (spP K C F_are_products) := by
  obtain ⟨v_MAX_SIZE, u_MAX_SIZE, m_MAX_SIZE, r_MAX_SIZE, d_MAX_SIZE⟩ := h.g_MAX_SIZE
  have nd := S_are_products.nd
  refine kn_P h.x_are_products S_are_products rfl rfl fun f cdv A outer s H E hr => ⟨_, (z_cons (s_if (PWD.t (w_or (t_not (t_val (q_isTup h.b_isinstance h.b_tuple (q_var 1 rfl (Or.inl rfl))))) (w_or1 (t_not (t_chain op_le rd_le op_le rd_le q_int (q_bi call_len_seq cd_len h.b_len bt_len (a_cons (q_var 1 rfl (Or.inl rfl)) a_nil)) (q_glob m_MAX_SIZE r_MAX_SIZE d_MAX_SIZE))))))
    (z_one (s_ret q_bl))
    z_nil)
    (z_cons (s_set 2 nd rfl (Or.inr rfl) (q_bi call_len_seq cd_len h.b_len bt_len (a_cons (q_var 1 rfl (Or.inl rfl)) a_nil)))
    (z_cons (s_for PassesOwn.never rfl (i_tup (q_var 1 rfl (Or.inl rfl))) (g_name 3 nd rfl (Or.inl rfl))
    (z_cons (s_if (PWD.t (w_or (t_not (t_val (q_isTup h.b_isinstance h.b_tuple (q_var 3 rfl (Or.inl rfl))))) (w_or1 (t_ne hr (q_bi call_len_seq cd_len h.b_len bt_len (a_cons (q_var 3 rfl (Or.inl rfl)) a_nil)) (q_var 2 rfl (Or.inr (Or.inl rfl)))))))
    (z_one (s_ret q_bl))
    z_nil)
    (z_one (s_if (t_not (t_val (q_bi (cr_all rfl) cd_all h.b_all bt_all (a_cons (PF.d (f_lcV [("row", 4)] rfl rfl nd (i_tup (q_var 3 rfl (Or.inl rfl))) (blkOk_by (by kernel_rfl)) (fun s H A cl fp => (g_name 4 nd rfl (Or.inl rfl))) (fun s H A cl fp => (q_call (k_is_residue_row h) (hr.mono (by decide)) (a_cons (q_var 0 rfl (Or.inr (Or.inl rfl))) (a_cons (q_var 2 rfl (Or.inr (Or.inl rfl))) (a_cons (q_var 4 rfl (Or.inl rfl)) a_nil))))))) a_nil))))
    (z_one (s_ret q_bl))
    z_nil))))
    (z_one (s_ret q_bl)))))⟩
def B_require_products : FS := (sSeq (sDrop (cO F_require_prime (aC (vr 0) aN))) (sIf (notB (tst (cO F_are_products (aC (vr 0) (aC (vr 1) aN))))) sBad sNx))
def F_require_products : List D → Option D := runP 2 2 B_require_products
def N_require_products : List Str := ["prime", "table"]
theorem S_require_products : FnScope N_require_products ["prime", "table"] (defScope (topS 53)) := ⟨rfl, rfl, rfl, by decide +kernel, rfl, by decide +kernel, by decide +kernel⟩
theorem k_require_products (h : Tops P w K mg base C) : Kn P w K mg base "require_products" 5 ["prime", "table"] (spP K C F_require_products) := by
  have nd := S_require_products.nd
  refine kn_P h.x_require_products S_require_products rfl rfl fun f cdv A outer s H E hr => ⟨_, (z_cons (s_expr (q_call (k_require_prime h) (hr.mono (by decide)) (a_cons (q_var 0 rfl (Or.inl rfl)) a_nil)))
    (z_one (s_if (t_not (t_val (q_call (k_are_products h) (hr.mono (by decide)) (a_cons (q_var 0 rfl (Or.inl rfl)) (a_cons (q_var 1 rfl (Or.inl rfl)) a_nil)))))
    z_bad
    z_nil)))⟩
end TR

namespace TR
open PySem PySem.Spec PyProof.Rows L2
variable {P : Program} {w : World} {K : PySem.W.Frag} {mg : Str → Option Value} {base : Heap} {C : Nat → Addr}
def B_law_squares : FS := (sSeq (sOwn 3 (lenOk aN)) (sSeq (sFor (itR1 (aC (vr 1) aN)) (gN 4) (sExt 3 (frz (lcE (itR1 (aC (vr 1) aN)) (gN 5) yesB (tupE (lenOk (aC (vr 4) (aC (vr 5) aN)))) [5])))) (frzS 3 (sSeq (sAsg 6 (frz (lcE (itL (vr 3)) (gN 11) (orB (tst (bO leD (bO ixD (vr 11) (cD (.int 0))) (bO ixD (vr 11) (cD (.int 1))))) (notB (tst (vr 2)))) (vr 11) [11]))) (sSeq (sOwn 7 (lenOk aN)) (sSeq (sFor (itL (vr 6)) (gT2 4 5) (sSeq (sOwn 8 (lenOk aN)) (sSeq (sFor (itL (vr 6)) (gT2 9 10) (sApp 8 (cO tupleD (aC (frz (lcE (itL (vr 6)) (gN 11) yesB (cO intD (aC (andE (bO eqD (vr 5) (vr 9)) (bO eqD (vr 11) (tupE (lenOk (aC (vr 4) (aC (vr 10) aN)))))) aN)) [11])) aN)))) (frzS 8 (sApp 7 (vr 8)))))) (frzS 7 (sRet (cO F_law_ring (aC (vr 0) (aC (vr 7) aN)))))))))))
def F_law_squares : List D → Option D := runP 12 3 B_law_squares
def N_law_squares : List Str := ["_law_p", "_law_side", "_law_upper", "_law_places", "_law_i", "_law_j", "_law_some", "_law_table", "_law_line", "_law_k", "_law_m", "_law_pair"]
theorem S_law_squares : FnScope N_law_squares ["_law_p", "_law_side", "_law_upper"] (defScope (topS 76)) := ⟨rfl, rfl, rfl, by decide +kernel, rfl, by decide +kernel, by decide +kernel⟩
theorem k_law_squares (h : Tops P w K mg base C) : Kn P w K mg base "_law_squares" 2 ["_law_p", "_law_side", "_law_upper"] (spP K C F_law_squares) := by
  have nd := S_law_squares.nd
  refine kn_P h.x_law_squares S_law_squares rfl rfl fun f cdv A outer s H E hr => ⟨_, (z_cons (s_own 3 nd rfl (Or.inl rfl) (f_lst a_nil))
    (z_cons (s_for PassesOwn.never rfl (i_rng1 h.b_range (a_cons (q_var 1 rfl (Or.inl rfl)) a_nil)) (g_name 4 nd rfl (Or.inr rfl))
    (z_one (s_ext 3 rfl (Or.inl rfl) (PF.d (f_lcV [("_law_j", 5)] rfl rfl nd (i_rng1 h.b_range (a_cons (q_var 1 rfl (Or.inl rfl)) a_nil)) (blkOk_by (by kernel_rfl)) (fun s H A cl fp => (g_name 5 nd rfl (Or.inl rfl))) (fun s H A cl fp => (q_tup (a_cons (q_var 4 rfl (Or.inr (Or.inl rfl))) (a_cons (q_var 5 rfl (Or.inl rfl)) a_nil)))))))))
    (z_frz 3 (z_cons (s_lcV 6 rfl rfl (lcU [("_law_pair", 11)] rfl rfl nd (i_list (q_var 3 rfl (Or.inl rfl))) (blkOk_by (by kernel_rfl)) (fun s H A cl fp => (g_name 11 nd rfl (Or.inl rfl))) (fun s H A cl fp => (PWD.t (w_or (t_le (q_ix (q_var 11 rfl (Or.inl rfl)) q_int) (q_ix (q_var 11 rfl (Or.inl rfl)) q_int)) (w_or1 (t_not (t_val (q_var 2 rfl (Or.inr (Or.inl rfl))))))))) (fun s H A cl fp => (q_var 11 rfl (Or.inl rfl)))) (sw_true rfl rfl rfl rfl))
    (z_cons (s_own 7 nd rfl (Or.inl rfl) (f_lst a_nil))
    (z_cons (s_for PassesOwn.never rfl (i_list (q_var 6 rfl (Or.inl rfl))) (g_tup2 rfl (g_name 4 nd rfl (Or.inr rfl)) (g_name 5 nd rfl (Or.inr rfl)))
    (z_cons (s_own 8 nd rfl (Or.inl rfl) (f_lst a_nil))
    (z_cons (s_for PassesOwn.never rfl (i_list (q_var 6 rfl (Or.inl rfl))) (g_tup2 rfl (g_name 9 nd rfl (Or.inr rfl)) (g_name 10 nd rfl (Or.inr rfl)))
    (z_one (s_app 8 rfl (Or.inl rfl) (q_ty call_tuple_of cd_tuple h.b_tuple bt_tuple (a_cons (PF.d (f_lcV [("_law_pair", 11)] rfl rfl nd (i_list (q_var 6 rfl (Or.inl rfl))) (blkOk_by (by kernel_rfl)) (fun s H A cl fp => (g_name 11 nd rfl (Or.inl rfl))) (fun s H A cl fp => (q_ty call_int1 cd_int h.b_int bt_int (a_cons (q_and (q_eq hr (q_var 5 rfl (Or.inr (Or.inl rfl))) (q_var 9 rfl (Or.inr (Or.inl rfl)))) (q_one (q_eq hr (q_var 11 rfl (Or.inl rfl)) (q_tup (a_cons (q_var 4 rfl (Or.inr (Or.inl rfl))) (a_cons (q_var 10 rfl (Or.inr (Or.inl rfl))) a_nil)))))) a_nil))))) a_nil)))))
    (z_frz 8 (z_one (s_app 7 rfl (Or.inl rfl) (q_var 8 rfl (Or.inl rfl))))))))
    (z_frz 7 (z_one (s_ret (q_call (k_law_ring h) (hr.mono (by decide)) (a_cons (q_var 0 rfl (Or.inl rfl)) (a_cons (q_var 7 rfl (Or.inl rfl)) a_nil))))))))))))⟩
def B_law_moved : FS := (sSeq (sPar 2 3 (xO (lenOk (aC (rgT (cO lenD (aC (bO ixD (vr 1) (cD (.int 0))) aN))) aN))) (xO (lenOk (aC (rgT (cO lenD (aC (bO ixD (vr 1) (cD (.int 0))) aN))) aN)))) (sSeq (whS (tst (neO 3 (frz (lenOk aN)))) (sSeq (sPop 4 3) (sFor (itT (vr 1)) (gN 5) (sSeq (sAsg 6 (cO tupleD (aC (frz (lcE (itR1 (aC (cO lenD (aC (vr 4) aN)) aN)) (gN 9) yesB (bO ixD (vr 4) (bO ixD (vr 5) (vr 9))) [9])) aN))) (sIf (tst (ninO 2 (vr 6))) (sSeq (sApp 2 (vr 6)) (sApp 3 (vr 6))) sNx)))) 40) (frzS 2 (sSeq (sAsg 2 (cO sortD (aC (vr 2) aN))) (sSeq (sOwn 7 (lenOk aN)) (sSeq (sFor (itL (vr 2)) (gN 4) (sSeq (sAsg 8 (frz (lcE (itL (vr 2)) (gN 10) yesB (cO tupleD (aC (frz (lcE (itR1 (aC (cO lenD (aC (vr 4) aN)) aN)) (gN 9) yesB (bO ixD (vr 4) (bO ixD (vr 10) (vr 9))) [9])) aN)) [10]))) (sApp 7 (frz (lcE (itL (vr 8)) (gN 11) yesB (cO tupleD (aC (frz (lcE (itL (vr 2)) (gN 12) yesB (cO intD (aC (bO eqD (vr 11) (vr 12)) aN)) [12])) aN)) [11]))))) (frzS 7 (sRet (cO F_law_ring (aC (vr 0) (aC (vr 7) aN)))))))))))
def F_law_moved : List D → Option D := runP 13 2 B_law_moved
def N_law_moved : List Str := ["_law_p", "_law_moves", "_law_some", "_law_fresh", "_law_one", "_law_move", "_law_later", "_law_table", "_law_goals", "_law_at", "_law_other", "_law_goal", "_law_further"]
theorem S_law_moved : FnScope N_law_moved ["_law_p", "_law_moves"] (defScope (topS 77)) := ⟨rfl, rfl, rfl, by decide +kernel, rfl, by decide +kernel, by decide +kernel⟩
theorem k_law_moved (h : Tops P w K mg base C) : Kn P w K mg base "_law_moved" 2 ["_law_p", "_law_moves"] (spP K C F_law_moved) := by
  have nd := S_law_moved.nd
  refine kn_P h.x_law_moved S_law_moved rfl rfl fun f cdv A outer s H E hr => ⟨_, (z_cons (s_parC 2 3 (by decide) rfl nd rfl rfl (Or.inr rfl) (Or.inl rfl) (PF.x (f_lst (a_cons (q_rgT rfl h.b_tuple h.b_range (q_bi call_len_seq cd_len h.b_len bt_len (a_cons (q_ix (q_var 1 rfl (Or.inl rfl)) q_int) a_nil))) a_nil))) (PF.x (f_lst (a_cons (q_rgT rfl h.b_tuple h.b_range (q_bi call_len_seq cd_len h.b_len bt_len (a_cons (q_ix (q_var 1 rfl (Or.inl rfl)) q_int) a_nil))) a_nil))))
    (z_cons (s_while 40 PassesOwn.never (t_neO 3 rfl (Or.inl rfl) hr (PF.d (f_lst a_nil)))
    (z_cons (s_pop 4 3 nd rfl (Or.inr rfl) rfl (Or.inl rfl))
    (z_one (s_for PassesOwn.never rfl (i_tup (q_var 1 rfl (Or.inl rfl))) (g_name 5 nd rfl (Or.inr rfl))
    (z_cons (s_set 6 nd rfl (Or.inl rfl) (q_ty call_tuple_of cd_tuple h.b_tuple bt_tuple (a_cons (PF.d (f_lcV [("_law_at", 9)] rfl rfl nd (i_rng1 h.b_range (a_cons (q_bi call_len_seq cd_len h.b_len bt_len (a_cons (q_var 4 rfl (Or.inr (Or.inl rfl))) a_nil)) a_nil)) (blkOk_by (by kernel_rfl)) (fun s H A cl fp => (g_name 9 nd rfl (Or.inl rfl))) (fun s H A cl fp => (q_ix (q_var 4 rfl (Or.inr (Or.inl rfl))) (q_ix (q_var 5 rfl (Or.inr (Or.inl rfl))) (q_var 9 rfl (Or.inl rfl))))))) a_nil)))
    (z_one (s_if (t_ninO 2 rfl (Or.inr (Or.inl rfl)) hr (q_var 6 rfl (Or.inl rfl)))
    (z_cons (s_app 2 rfl (Or.inr (Or.inl rfl)) (q_var 6 rfl (Or.inl rfl)))
    (z_one (s_app 3 rfl (Or.inl rfl) (q_var 6 rfl (Or.inl rfl)))))
    z_nil)))))))
    (z_frz 2 (z_cons (s_set 2 nd rfl (Or.inr rfl) (q_sorted h.b_sorted (a_cons (q_var 2 rfl (Or.inr (Or.inl rfl))) a_nil)))
    (z_cons (s_own 7 nd rfl (Or.inl rfl) (f_lst a_nil))
    (z_cons (s_for PassesOwn.never rfl (i_list (q_var 2 rfl (Or.inr (Or.inl rfl)))) (g_name 4 nd rfl (Or.inr rfl))
    (z_cons (s_lcV 8 rfl rfl (lcV [("_law_other", 10)] rfl rfl nd (i_list (q_var 2 rfl (Or.inr (Or.inl rfl)))) (blkOk_by (by kernel_rfl)) (fun s H A cl fp => (g_name 10 nd rfl (Or.inr rfl))) (fun s H A cl fp => (q_ty call_tuple_of cd_tuple h.b_tuple bt_tuple (a_cons (PF.d (f_lcV [("_law_at", 9)] rfl rfl nd (i_rng1 h.b_range (a_cons (q_bi call_len_seq cd_len h.b_len bt_len (a_cons (q_var 4 rfl (Or.inr (Or.inl rfl))) a_nil)) a_nil)) (blkOk_by (by kernel_rfl)) (fun s H A cl fp => (g_name 9 nd rfl (Or.inl rfl))) (fun s H A cl fp => (q_ix (q_var 4 rfl (Or.inr (Or.inl rfl))) (q_ix (q_var 10 rfl (Or.inr (Or.inl rfl))) (q_var 9 rfl (Or.inl rfl))))))) a_nil)))) (sw_true rfl rfl rfl rfl))
    (z_one (s_app 7 rfl (Or.inl rfl) (PF.d (f_lcV [("_law_goal", 11)] rfl rfl nd (i_list (q_var 8 rfl (Or.inl rfl))) (blkOk_by (by kernel_rfl)) (fun s H A cl fp => (g_name 11 nd rfl (Or.inr rfl))) (fun s H A cl fp => (q_ty call_tuple_of cd_tuple h.b_tuple bt_tuple (a_cons (PF.d (f_lcV [("_law_further", 12)] rfl rfl nd (i_list (q_var 2 rfl (Or.inr (Or.inl rfl)))) (blkOk_by (by kernel_rfl)) (fun s H A cl fp => (g_name 12 nd rfl (Or.inl rfl))) (fun s H A cl fp => (q_ty call_int1 cd_int h.b_int bt_int (a_cons (q_eq hr (q_var 11 rfl (Or.inr (Or.inl rfl))) (q_var 12 rfl (Or.inl rfl))) a_nil))))) a_nil)))))))))
    (z_frz 7 (z_one (s_ret (q_call (k_law_ring h) (hr.mono (by decide)) (a_cons (q_var 0 rfl (Or.inl rfl)) (a_cons (q_var 7 rfl (Or.inl rfl)) a_nil))))))))))))⟩
def B_law_poly_ring : FS := (sSeq (sAsg 2 (bO subD (cO lenD (aC (vr 1) aN)) (cD (.int 1)))) (sSeq (sOwn 3 (lcE (itL (frz (cF F_law_unit (aC (vr 2) aN)))) (gN 7) yesB (cO listD (aC (vr 7) aN)) [7])) (sSeq (sFor (itR1 (aC (bO subD (vr 2) (cD (.int 1))) aN)) (gN 4) (sSeq (sAsg 5 (ixO 3 (uO negD (cD (.int 1))))) (sSeq (sAsg 6 (bO addD (frz (lenOk (aC (cD (.int 0)) aN))) (slE (vr 5) oN (oS (uO negD (cD (.int 1))))))) (sApp 3 (frz (lcE (itZ (aC (vr 6) (aC (vr 1) aN))) (gT2 8 9) yesB (bO modD (bO subD (vr 8) (bO mulD (bO ixD (vr 5) (uO negD (cD (.int 1)))) (vr 9))) (vr 0)) [8, 9])))))) (sRet (cO F_law_ring (aC (vr 0) (aC (frz (lcE (itR1 (aC (vr 2) aN)) (gN 10) yesB (frz (lcE (itR1 (aC (vr 2) aN)) (gN 11) yesB (ixO 3 (bO addD (vr 10) (vr 11))) [11])) [10])) aN)))))))
def F_law_poly_ring : List D → Option D := runP 12 2 B_law_poly_ring
def N_law_poly_ring : List Str := ["_law_p", "_law_poly", "_law_size", "_law_powers", "_law_turn", "_law_last", "_law_later", "_law_row", "_law_a", "_law_b", "_law_i", "_law_j"]
theorem S_law_poly_ring : FnScope N_law_poly_ring ["_law_p", "_law_poly"] (defScope (topS 78)) := ⟨rfl, rfl, rfl, by decide +kernel, rfl, by decide +kernel, by decide +kernel⟩
theorem k_law_poly_ring (h : Tops P w K mg base C) : Kn P w K mg base "_law_poly_ring" 2 ["_law_p", "_law_poly"] (spP K C F_law_poly_ring) := by
  have nd := S_law_poly_ring.nd
  refine kn_P h.x_law_poly_ring S_law_poly_ring rfl rfl fun f cdv A outer s H E hr => ⟨_, (z_cons (s_set 2 nd rfl (Or.inr rfl) (q_sub (q_bi call_len_seq cd_len h.b_len bt_len (a_cons (q_var 1 rfl (Or.inl rfl)) a_nil)) q_int))
    (z_cons (s_own 3 nd rfl (Or.inr rfl) (f_lcV [("_law_row", 7)] rfl rfl nd (i_list (PF.d (f_call (k_law_unit h) (hr.mono (by decide)) (a_cons (q_var 2 rfl (Or.inr (Or.inl rfl))) a_nil)))) (blkOk_by (by kernel_rfl)) (fun s H A cl fp => (g_name 7 nd rfl (Or.inl rfl))) (fun s H A cl fp => (q_ty call_list_of cd_list h.b_list bt_list (a_cons (q_var 7 rfl (Or.inl rfl)) a_nil)))))
    (z_cons (s_for PassesOwn.never rfl (i_rng1 h.b_range (a_cons (q_sub (q_var 2 rfl (Or.inr (Or.inl rfl))) q_int) a_nil)) (g_name 4 nd rfl (Or.inl rfl))
    (z_cons (s_set 5 nd rfl (Or.inr rfl) (q_ixO 3 rfl (Or.inr (Or.inl rfl)) (q_neg q_int)))
    (z_cons (s_set 6 nd rfl (Or.inl rfl) (q_add (PF.d (f_lst (a_cons q_int a_nil))) (q_slice (q_var 5 rfl (Or.inr (Or.inl rfl))) o_none (o_some (q_neg q_int)))))
    (z_one (s_app 3 rfl (Or.inr (Or.inl rfl)) (PF.d (f_lcV [("_law_a", 8), ("_law_b", 9)] rfl rfl nd (i_zip h.b_zip (a_cons (q_var 6 rfl (Or.inl rfl)) (a_cons (q_var 1 rfl (Or.inl rfl)) a_nil))) (blkOk_by (by kernel_rfl)) (fun s H A cl fp => (g_tup2 rfl (g_name 8 nd rfl (Or.inl rfl)) (g_name 9 nd rfl (Or.inl rfl)))) (fun s H A cl fp => (q_mod (q_sub (q_var 8 rfl (Or.inl rfl)) (q_mul (q_ix (q_var 5 rfl (Or.inr (Or.inl rfl))) (q_neg q_int)) (q_var 9 rfl (Or.inl rfl)))) (q_var 0 rfl (Or.inr (Or.inl rfl))))))))))))
    (z_one (s_ret (q_call (k_law_ring h) (hr.mono (by decide)) (a_cons (q_var 0 rfl (Or.inr (Or.inl rfl))) (a_cons (PF.d (f_lcV [("_law_i", 10)] rfl rfl nd (i_rng1 h.b_range (a_cons (q_var 2 rfl (Or.inr (Or.inl rfl))) a_nil)) (blkOk_by (by kernel_rfl)) (fun s H A cl fp => (g_name 10 nd rfl (Or.inr rfl))) (fun s H A cl fp => (PF.d (f_lcV [("_law_j", 11)] rfl rfl nd (i_rng1 h.b_range (a_cons (q_var 2 rfl (Or.inr (Or.inl rfl))) a_nil)) (blkOk_by (by kernel_rfl)) (fun s H A cl fp => (g_name 11 nd rfl (Or.inl rfl))) (fun s H A cl fp => (q_ixO 3 rfl (Or.inr (Or.inl rfl)) (q_add (q_var 10 rfl (Or.inr (Or.inl rfl))) (q_var 11 rfl (Or.inl rfl)))))))))) a_nil))))))))⟩
def B_law_beside : FS := (sSeq (sPar 2 3 (xV (dgE "n" (vr 0))) (xV (dgE "n" (vr 1)))) (sSeq (sOwn 4 (lenOk aN)) (sSeq (sFor (itR1 (aC (vr 2) aN)) (gN 5) (sApp 4 (bO addD (frz (lcE (itL (bO ixD (dgE "t" (vr 0)) (vr 5))) (gN 6) yesB (bO addD (vr 6) (bO mulD (tupE (lenOk (aC (cD (.int 0)) aN))) (vr 3))) [6])) (bO mulD (frz (lenOk (aC (bO mulD (tupE (lenOk (aC (cD (.int 0)) aN))) (bO addD (vr 2) (vr 3))) aN))) (vr 3))))) (sSeq (sFor (itR1 (aC (vr 3) aN)) (gN 5) (sApp 4 (bO addD (bO mulD (frz (lenOk (aC (bO mulD (tupE (lenOk (aC (cD (.int 0)) aN))) (bO addD (vr 2) (vr 3))) aN))) (vr 2)) (frz (lcE (itL (bO ixD (dgE "t" (vr 1)) (vr 5))) (gN 6) yesB (bO addD (bO mulD (tupE (lenOk (aC (cD (.int 0)) aN))) (vr 2)) (vr 6)) [6]))))) (frzS 4 (sRet (cO F_law_ring (aC (dgE "p" (vr 0)) (aC (vr 4) aN)))))))))
def F_law_beside : List D → Option D := runP 7 2 B_law_beside
def N_law_beside : List Str := ["_law_one", "_law_other", "_law_n", "_law_m", "_law_table", "_law_i", "_law_row"]
theorem S_law_beside : FnScope N_law_beside ["_law_one", "_law_other"] (defScope (topS 79)) := ⟨rfl, rfl, rfl, by decide +kernel, rfl, by decide +kernel, by decide +kernel⟩
theorem k_law_beside (h : Tops P w K mg base C) : Kn P w K mg base "_law_beside" 2 ["_law_one", "_law_other"] (spP K C F_law_beside) := by
  have nd := S_law_beside.nd
  refine kn_P h.x_law_beside S_law_beside rfl rfl fun f cdv A outer s H E hr => ⟨_, (z_cons (s_parC 2 3 (by decide) rfl nd rfl rfl (Or.inr rfl) (Or.inr rfl) (PD.x (q_dg hr (q_var 0 rfl (Or.inl rfl)) (fun _ _ => rfl))) (PD.x (q_dg hr (q_var 1 rfl (Or.inl rfl)) (fun _ _ => rfl))))
    (z_cons (s_own 4 nd rfl (Or.inl rfl) (f_lst a_nil))
    (z_cons (s_for PassesOwn.never rfl (i_rng1 h.b_range (a_cons (q_var 2 rfl (Or.inr (Or.inl rfl))) a_nil)) (g_name 5 nd rfl (Or.inl rfl))
    (z_one (s_app 4 rfl (Or.inl rfl) (q_add (PF.d (f_lcV [("_law_row", 6)] rfl rfl nd (i_list (q_ix (q_dg hr (q_var 0 rfl (Or.inl rfl)) (fun _ _ => rfl)) (q_var 5 rfl (Or.inl rfl)))) (blkOk_by (by kernel_rfl)) (fun s H A cl fp => (g_name 6 nd rfl (Or.inl rfl))) (fun s H A cl fp => (q_add (q_var 6 rfl (Or.inl rfl)) (q_mul (q_tup (a_cons q_int a_nil)) (q_var 3 rfl (Or.inr (Or.inl rfl)))))))) (q_mul (PF.d (f_lst (a_cons (q_mul (q_tup (a_cons q_int a_nil)) (q_add (q_var 2 rfl (Or.inr (Or.inl rfl))) (q_var 3 rfl (Or.inr (Or.inl rfl))))) a_nil))) (q_var 3 rfl (Or.inr (Or.inl rfl))))))))
    (z_cons (s_for PassesOwn.never rfl (i_rng1 h.b_range (a_cons (q_var 3 rfl (Or.inr (Or.inl rfl))) a_nil)) (g_name 5 nd rfl (Or.inl rfl))
    (z_one (s_app 4 rfl (Or.inl rfl) (q_add (q_mul (PF.d (f_lst (a_cons (q_mul (q_tup (a_cons q_int a_nil)) (q_add (q_var 2 rfl (Or.inr (Or.inl rfl))) (q_var 3 rfl (Or.inr (Or.inl rfl))))) a_nil))) (q_var 2 rfl (Or.inr (Or.inl rfl)))) (PF.d (f_lcV [("_law_row", 6)] rfl rfl nd (i_list (q_ix (q_dg hr (q_var 1 rfl (Or.inl rfl)) (fun _ _ => rfl)) (q_var 5 rfl (Or.inl rfl)))) (blkOk_by (by kernel_rfl)) (fun s H A cl fp => (g_name 6 nd rfl (Or.inl rfl))) (fun s H A cl fp => (q_add (q_mul (q_tup (a_cons q_int a_nil)) (q_var 2 rfl (Or.inr (Or.inl rfl)))) (q_var 6 rfl (Or.inl rfl))))))))))
    (z_frz 4 (z_one (s_ret (q_call (k_law_ring h) (hr.mono (by decide)) (a_cons (q_dg hr (q_var 0 rfl (Or.inl rfl)) (fun _ _ => rfl)) (a_cons (q_var 4 rfl (Or.inl rfl)) a_nil))))))))))⟩
def B_law_shears : FS := (sSeq (sPar 3 4 (xO (cF F_law_unit (aC (vr 2) aN))) (xV (frz (cF F_law_unit (aC (vr 2) aN))))) (sSeq (sFor (itR1 (aC (ifE (tst (bO gtD (vr 2) (cD (.int 1)))) (tcE 0 F_law_drop (aC (bO mulD (cD (.int 2)) (vr 2)) aN)) (cD (.int 0))) aN)) (gN 5) (sSeq (sPar3 6 7 8 (aC (tcE 0 F_law_drop (aC (vr 2) aN)) (aC (tcE 0 F_law_drop (aC (vr 2) aN)) (aC (tcE 0 F_law_drop (aC (vr 1) aN)) aN)))) (sIf (tst (bO neD (vr 6) (vr 7))) (sSeq (sSet 3 (cO F_law_plus (aC (vr 1) (aC (ixO 3 (vr 6)) (aC (ixO 3 (vr 7)) (aC (vr 8) aN))))) (vr 6)) (sAsg 4 (frz (lcE (itL (vr 4)) (gN 9) yesB (cO tupleD (aC (frz (lcE (itR1 (aC (vr 2) aN)) (gN 10) yesB (bO modD (bO subD (bO ixD (vr 9) (vr 10)) (bO mulD (bO mulD (vr 8) (bO ixD (vr 9) (vr 6))) (cO intD (aC (bO eqD (vr 10) (vr 7)) aN)))) (vr 1)) [10])) aN)) [9])))) sNx))) (frzS 3 (sRet (tupE (lenOk (aC (vr 3) (aC (vr 4) aN))))))))
def F_law_shears : List D → List D → Option (D × List D) := runT 11 3 B_law_shears
def N_law_shears : List Str := ["_law_tank_here", "_law_p", "_law_size", "_law_one", "_law_back", "_law_turn", "_law_i", "_law_j", "_law_factor", "_law_row", "_law_k"]
theorem S_law_shears : FnScope N_law_shears ["_law_tank_here", "_law_p", "_law_size"] (defScope (topS 80)) := ⟨rfl, rfl, rfl, by decide +kernel, rfl, by decide +kernel, by decide +kernel⟩
theorem k_law_shears (h : Tops P w K mg base C) : Kn P w K mg base "_law_shears" 2 ["_law_tank_here", "_law_p", "_law_size"] (spT K C F_law_shears) := by
  have nd := S_law_shears.nd
  refine kn_T h.x_law_shears S_law_shears rfl rfl fun f cdv A outer s H E hr => ⟨_, (z_cons (s_par 3 4 (by decide) rfl nd rfl rfl rfl rfl (PF.x (f_call (k_law_unit h) (hr.mono (by decide)) (a_cons (q_var 2 rfl (Or.inr (Or.inl rfl))) a_nil))) (PD.x (PF.d (f_call (k_law_unit h) (hr.mono (by decide)) (a_cons (q_var 2 rfl (Or.inr (Or.inl rfl))) a_nil)))))
    (z_cons (s_for PassesOwn.never rfl (i_rng1 h.b_range (a_cons (q_if (t_gt (q_var 2 rfl (Or.inr (Or.inl rfl))) q_int) (q_callT (k_law_drop h) (hr.mono (by decide)) rfl (Or.inl rfl) (a_cons (q_mul q_int (q_var 2 rfl (Or.inr (Or.inl rfl)))) a_nil)) q_int) a_nil)) (g_name 5 nd rfl (Or.inl rfl))
    (z_cons (s_par3C 6 7 8 rfl nd rfl rfl rfl (Or.inr rfl) (Or.inr rfl) (Or.inr rfl) (a_cons (q_callT (k_law_drop h) (hr.mono (by decide)) rfl (Or.inl rfl) (a_cons (q_var 2 rfl (Or.inr (Or.inl rfl))) a_nil)) (a_cons (q_callT (k_law_drop h) (hr.mono (by decide)) rfl (Or.inl rfl) (a_cons (q_var 2 rfl (Or.inr (Or.inl rfl))) a_nil)) (a_cons (q_callT (k_law_drop h) (hr.mono (by decide)) rfl (Or.inl rfl) (a_cons (q_var 1 rfl (Or.inr (Or.inl rfl))) a_nil)) a_nil))))
    (z_one (s_if (t_ne hr (q_var 6 rfl (Or.inr (Or.inl rfl))) (q_var 7 rfl (Or.inr (Or.inl rfl))))
    (z_cons (s_setO 3 rfl (Or.inl rfl) (q_call (k_law_plus h) (hr.mono (by decide)) (a_cons (q_var 1 rfl (Or.inr (Or.inl rfl))) (a_cons (q_ixO 3 rfl (Or.inl rfl) (q_var 6 rfl (Or.inr (Or.inl rfl)))) (a_cons (q_ixO 3 rfl (Or.inl rfl) (q_var 7 rfl (Or.inr (Or.inl rfl)))) (a_cons (q_var 8 rfl (Or.inr (Or.inl rfl))) a_nil))))) (q_var 6 rfl (Or.inr (Or.inl rfl))))
    (z_one (s_lcV 4 rfl rfl (lcV [("_law_row", 9)] rfl rfl nd (i_list (q_var 4 rfl (Or.inl rfl))) (blkOk_by (by kernel_rfl)) (fun s H A cl fp => (g_name 9 nd rfl (Or.inr rfl))) (fun s H A cl fp => (q_ty call_tuple_of cd_tuple h.b_tuple bt_tuple (a_cons (PF.d (f_lcV [("_law_k", 10)] rfl rfl nd (i_rng1 h.b_range (a_cons (q_var 2 rfl (Or.inr (Or.inl rfl))) a_nil)) (blkOk_by (by kernel_rfl)) (fun s H A cl fp => (g_name 10 nd rfl (Or.inl rfl))) (fun s H A cl fp => (q_mod (q_sub (q_ix (q_var 9 rfl (Or.inr (Or.inl rfl))) (q_var 10 rfl (Or.inl rfl))) (q_mul (q_mul (q_var 8 rfl (Or.inr (Or.inl rfl))) (q_ix (q_var 9 rfl (Or.inr (Or.inl rfl))) (q_var 6 rfl (Or.inr (Or.inl rfl))))) (q_ty call_int1 cd_int h.b_int bt_int (a_cons (q_eq hr (q_var 10 rfl (Or.inl rfl)) (q_var 7 rfl (Or.inr (Or.inl rfl)))) a_nil)))) (q_var 1 rfl (Or.inr (Or.inl rfl))))))) a_nil)))) (sw_true rfl rfl rfl rfl))))
    z_nil))))
    (z_frz 3 (z_one (s_ret (q_tup (a_cons (q_var 3 rfl (Or.inl rfl)) (a_cons (q_var 4 rfl (Or.inl rfl)) a_nil))))))))⟩
def B_law_led : FS := (sSeq (sAsg 3 (bO mulD (tupE (lenOk (aC (cD (.int 0)) aN))) (cO lenD (aC (bO ixD (vr 1) (cD (.int 0))) aN)))) (sSeq (sFor (itZ (aC (vr 2) (aC (vr 1) aN))) (gT2 4 5) (sAsg 3 (cO F_law_plus (aC (vr 0) (aC (vr 3) (aC (vr 5) (aC (vr 4) aN))))))) (sRet (vr 3))))
def F_law_led : List D → Option D := runP 6 3 B_law_led
def N_law_led : List Str := ["_law_p", "_law_table", "_law_row", "_law_found", "_law_factor", "_law_line"]
theorem S_law_led : FnScope N_law_led ["_law_p", "_law_table", "_law_row"] (defScope (topS 81)) := ⟨rfl, rfl, rfl, by decide +kernel, rfl, by decide +kernel, by decide +kernel⟩
theorem k_law_led (h : Tops P w K mg base C) : Kn P w K mg base "_law_led" 2 ["_law_p", "_law_table", "_law_row"] (spP K C F_law_led) := by
  have nd := S_law_led.nd
  refine kn_P h.x_law_led S_law_led rfl rfl fun f cdv A outer s H E hr => ⟨_, (z_cons (s_set 3 nd rfl (Or.inl rfl) (q_mul (q_tup (a_cons q_int a_nil)) (q_bi call_len_seq cd_len h.b_len bt_len (a_cons (q_ix (q_var 1 rfl (Or.inl rfl)) q_int) a_nil))))
    (z_cons (s_for PassesOwn.never rfl (i_zip h.b_zip (a_cons (q_var 2 rfl (Or.inl rfl)) (a_cons (q_var 1 rfl (Or.inl rfl)) a_nil))) (g_tup2 rfl (g_name 4 nd rfl (Or.inl rfl)) (g_name 5 nd rfl (Or.inl rfl)))
    (z_one (s_set 3 nd rfl (Or.inl rfl) (q_call (k_law_plus h) (hr.mono (by decide)) (a_cons (q_var 0 rfl (Or.inl rfl)) (a_cons (q_var 3 rfl (Or.inl rfl)) (a_cons (q_var 5 rfl (Or.inl rfl)) (a_cons (q_var 4 rfl (Or.inl rfl)) a_nil))))))))
    (z_one (s_ret (q_var 3 rfl (Or.inl rfl))))))⟩
def B_law_rebased : FS := (sSeq (sOwn 3 (lenOk aN)) (sSeq (sFor (itL (vr 1)) (gN 4) (sSeq (sAsg 5 (frz (lcE (itL (vr 1)) (gN 6) yesB (cO F_law_times (aC (vr 0) (aC (vr 4) (aC (vr 6) aN)))) [6]))) (sApp 3 (frz (lcE (itL (vr 5)) (gN 7) yesB (cO F_law_led (aC (dgE "p" (vr 0)) (aC (vr 2) (aC (vr 7) aN)))) [7]))))) (frzS 3 (sRet (cO F_law_ring (aC (dgE "p" (vr 0)) (aC (vr 3) aN)))))))
def F_law_rebased : List D → Option D := runP 8 3 B_law_rebased
def N_law_rebased : List Str := ["_law_ring_here", "_law_one", "_law_back", "_law_table", "_law_left", "_law_products", "_law_right_here", "_law_row"]
theorem S_law_rebased : FnScope N_law_rebased ["_law_ring_here", "_law_one", "_law_back"] (defScope (topS 82)) := ⟨rfl, rfl, rfl, by decide +kernel, rfl, by decide +kernel, by decide +kernel⟩
theorem k_law_rebased (h : Tops P w K mg base C) : Kn P w K mg base "_law_rebased" 3 ["_law_ring_here", "_law_one", "_law_back"] (spP K C F_law_rebased) := by
  have nd := S_law_rebased.nd
  refine kn_P h.x_law_rebased S_law_rebased rfl rfl fun f cdv A outer s H E hr => ⟨_, (z_cons (s_own 3 nd rfl (Or.inl rfl) (f_lst a_nil))
    (z_cons (s_for PassesOwn.never rfl (i_list (q_var 1 rfl (Or.inl rfl))) (g_name 4 nd rfl (Or.inr rfl))
    (z_cons (s_lcV 5 rfl rfl (lcV [("_law_right_here", 6)] rfl rfl nd (i_list (q_var 1 rfl (Or.inl rfl))) (blkOk_by (by kernel_rfl)) (fun s H A cl fp => (g_name 6 nd rfl (Or.inl rfl))) (fun s H A cl fp => (q_call (k_law_times h) (hr.mono (by decide)) (a_cons (q_var 0 rfl (Or.inr (Or.inl rfl))) (a_cons (q_var 4 rfl (Or.inr (Or.inl rfl))) (a_cons (q_var 6 rfl (Or.inl rfl)) a_nil)))))) (sw_true rfl rfl rfl rfl))
    (z_one (s_app 3 rfl (Or.inl rfl) (PF.d (f_lcV [("_law_row", 7)] rfl rfl nd (i_list (q_var 5 rfl (Or.inl rfl))) (blkOk_by (by kernel_rfl)) (fun s H A cl fp => (g_name 7 nd rfl (Or.inl rfl))) (fun s H A cl fp => (q_call (k_law_led h) (hr.mono (by decide)) (a_cons (q_dg hr (q_var 0 rfl (Or.inr (Or.inl rfl))) (fun _ _ => rfl)) (a_cons (q_var 2 rfl (Or.inr (Or.inl rfl))) (a_cons (q_var 7 rfl (Or.inl rfl)) a_nil)))))))))))
    (z_frz 3 (z_one (s_ret (q_call (k_law_ring h) (hr.mono (by decide)) (a_cons (q_dg hr (q_var 0 rfl (Or.inr (Or.inl rfl))) (fun _ _ => rfl)) (a_cons (q_var 3 rfl (Or.inl rfl)) a_nil))))))))⟩
def B_law_plain_ring : FS := (sSeq (sPar 2 3 (xV (tcE 0 F_law_choice (aC (frz (lenOk (aC (cD (.int 2)) (aC (cD (.int 2)) (aC (cD (.int 2)) (aC (cD (.int 3)) (aC (cD (.int 3)) (aC (cD (.int 5)) (aC (cD (.int 7)) aN))))))))) aN))) (xV (tcE 0 F_law_drop (aC (cD (.int 8)) aN)))) (sSeq (sAsg 4 (frz (lenOk (aC (tupE (lenOk (aC (tupE (lenOk (aC (cD (.int 1)) (aC (cD (.int 0)) aN)))) aN))) (aC (tupE (lenOk (aC (tupE (lenOk (aC (cD (.int 1)) (aC (cD (.int 2)) (aC (cD (.int 0)) aN))))) aN))) (aC (tupE (lenOk (aC (tupE (lenOk (aC (cD (.int 1)) (aC (cD (.int 2)) (aC (cD (.int 3)) (aC (cD (.int 0)) aN)))))) aN))) (aC (tupE (lenOk (aC (tupE (lenOk (aC (cD (.int 1)) (aC (cD (.int 0)) (aC (cD (.int 3)) (aC (cD (.int 2)) aN)))))) (aC (tupE (lenOk (aC (cD (.int 2)) (aC (cD (.int 3)) (aC (cD (.int 0)) (aC (cD (.int 1)) aN)))))) aN)))) (aC (tupE (lenOk (aC (tupE (lenOk (aC (cD (.int 1)) (aC (cD (.int 0)) (aC (cD (.int 2)) aN))))) (aC (tupE (lenOk (aC (cD (.int 1)) (aC (cD (.int 2)) (aC (cD (.int 0)) aN))))) aN)))) (aC (tupE (lenOk (aC (tupE (lenOk (aC (cD (.int 1)) (aC (cD (.int 2)) (aC (cD (.int 3)) (aC (cD (.int 4)) (aC (cD (.int 0)) aN))))))) aN))) aN))))))))) (sSeq (sAsg 4 (frz (lcE (itL (vr 4)) (gN 7) (andB (tst (bO leD (cO lenD (aC (bO ixD (vr 7) (cD (.int 0))) aN)) (vr 1))) (orB (tst (bO eqD (cO lenD (aC (vr 7) aN)) (cD (.int 1)))) (orB (tst (bO neD (bO ixD (vr 7) (cD (.int 0))) (tupE (lenOk (aC (cD (.int 1)) (aC (cD (.int 0)) (aC (cD (.int 2)) aN))))))) (tst (bO gtD (vr 1) (cD (.int 5))))))) (vr 7) [7]))) (sSeq (sIf (andB (tst (bO eqD (vr 3) (cD (.int 0)))) (tst (bO gtD (vr 1) (cD (.int 3))))) (sRet (cO F_law_squares (aC (vr 2) (aC (cD (.int 2)) (aC (cD (.bl false)) aN))))) sNx) (sSeq (sIf (andB (tst (bO eqD (vr 3) (cD (.int 1)))) (tst (bO gtD (vr 1) (cD (.int 2))))) (sRet (cO F_law_squares (aC (vr 2) (aC (cD (.int 2)) (aC (cD (.bl true)) aN))))) sNx) (sSeq (sIf (andB (tst (bO eqD (vr 3) (cD (.int 2)))) (tst (bO gtD (vr 1) (cD (.int 5))))) (sRet (cO F_law_squares (aC (vr 2) (aC (cD (.int 3)) (aC (cD (.bl true)) aN))))) sNx) (sSeq (sIf (andB (tst (bO inD (vr 3) (tupE (lenOk (aC (cD (.int 3)) (aC (cD (.int 4)) aN)))))) (tst (bO gtD (vr 1) (cD (.int 1))))) (sRet (cO F_law_moved (aC (vr 2) (aC (tcE 0 F_law_choice (aC (vr 4) aN)) aN)))) sNx) (sSeq (sIf (andB (tst (bO eqD (vr 3) (cD (.int 5)))) (tst (bO gtD (vr 1) (cD (.int 4))))) (sSeq (sAsg 5 (cO F_law_squares (aC (vr 2) (aC (cD (.int 2)) (aC (bO eqD (tcE 0 F_law_drop (aC (cD (.int 2)) aN)) (cD (.int 0))) aN))))) (sRet (cO F_law_beside (aC (vr 5) (aC (cO F_law_poly_ring (aC (vr 2) (aC (frz (lenOk (aC (tcE 0 F_law_drop (aC (vr 2) aN)) (aC (cD (.int 1)) aN)))) aN))) aN))))) sNx) (sSeq (sAsg 6 (bO addD (frz (lcE (itR1 (aC (bO addD (cD (.int 1)) (tcE 0 F_law_drop (aC (cO minD2 (aC (cD (.int 4)) (aC (vr 1) aN))) aN))) aN)) (gN 8) yesB (tcE 0 F_law_drop (aC (vr 2) aN)) [8])) (frz (lenOk (aC (cD (.int 1)) aN))))) (sSeq (sIf (andB (tst (bO eqD (vr 3) (cD (.int 6)))) (tst (bO leD (cO lenD (aC (vr 6) aN)) (vr 1)))) (sRet (cO F_law_beside (aC (cO F_law_poly_ring (aC (vr 2) (aC (vr 6) aN))) (aC (cO F_law_poly_ring (aC (vr 2) (aC (frz (lenOk (aC (tcE 0 F_law_drop (aC (vr 2) aN)) (aC (cD (.int 1)) aN)))) aN))) aN)))) sNx) (sRet (cO F_law_poly_ring (aC (vr 2) (aC (vr 6) aN))))))))))))))
def F_law_plain_ring : List D → List D → Option (D × List D) := runT 9 2 B_law_plain_ring
def N_law_plain_ring : List Str := ["_law_tank_here", "_law_most", "_law_p", "_law_way", "_law_moves", "_law_left", "_law_poly", "_law_one", "_law_turn"]
theorem S_law_plain_ring : FnScope N_law_plain_ring ["_law_tank_here", "_law_most"] (defScope (topS 84)) := ⟨rfl, rfl, rfl, by decide +kernel, rfl, by decide +kernel, by decide +kernel⟩
theorem k_law_plain_ring (h : Tops P w K mg base C) : Kn P w K mg base "_law_plain_ring" 3 ["_law_tank_here", "_law_most"] (spT K C F_law_plain_ring) := by
  have nd := S_law_plain_ring.nd
  refine kn_T h.x_law_plain_ring S_law_plain_ring rfl rfl fun f cdv A outer s H E hr => ⟨_, (z_cons (s_parC 2 3 (by decide) rfl nd rfl rfl (Or.inr rfl) (Or.inl rfl) (PD.x (q_callT (k_law_choice h) (hr.mono (by decide)) rfl (Or.inr (Or.inl rfl)) (a_cons (PF.d (f_lst (a_cons q_int (a_cons q_int (a_cons q_int (a_cons q_int (a_cons q_int (a_cons q_int (a_cons q_int a_nil))))))))) a_nil))) (PD.x (q_callT (k_law_drop h) (hr.mono (by decide)) rfl (Or.inr (Or.inl rfl)) (a_cons q_int a_nil))))
    (z_cons (s_set 4 nd rfl (Or.inl rfl) (PF.d (f_lst (a_cons (q_tup (a_cons (q_tup (a_cons q_int (a_cons q_int a_nil))) a_nil)) (a_cons (q_tup (a_cons (q_tup (a_cons q_int (a_cons q_int (a_cons q_int a_nil)))) a_nil)) (a_cons (q_tup (a_cons (q_tup (a_cons q_int (a_cons q_int (a_cons q_int (a_cons q_int a_nil))))) a_nil)) (a_cons (q_tup (a_cons (q_tup (a_cons q_int (a_cons q_int (a_cons q_int (a_cons q_int a_nil))))) (a_cons (q_tup (a_cons q_int (a_cons q_int (a_cons q_int (a_cons q_int a_nil))))) a_nil))) (a_cons (q_tup (a_cons (q_tup (a_cons q_int (a_cons q_int (a_cons q_int a_nil)))) (a_cons (q_tup (a_cons q_int (a_cons q_int (a_cons q_int a_nil)))) a_nil))) (a_cons (q_tup (a_cons (q_tup (a_cons q_int (a_cons q_int (a_cons q_int (a_cons q_int (a_cons q_int a_nil)))))) a_nil)) a_nil)))))))))
    (z_cons (s_lcV 4 rfl rfl (lcU [("_law_one", 7)] rfl rfl nd (i_list (q_var 4 rfl (Or.inl rfl))) (blkOk_by (by kernel_rfl)) (fun s H A cl fp => (g_name 7 nd rfl (Or.inl rfl))) (fun s H A cl fp => (PWD.t (w_and (t_le (q_bi call_len_seq cd_len h.b_len bt_len (a_cons (q_ix (q_var 7 rfl (Or.inl rfl)) q_int) a_nil)) (q_var 1 rfl (Or.inr (Or.inl rfl)))) (w_and1 (PWD.t (w_or (t_eq hr (q_bi call_len_seq cd_len h.b_len bt_len (a_cons (q_var 7 rfl (Or.inl rfl)) a_nil)) q_int) (w_or (t_ne hr (q_ix (q_var 7 rfl (Or.inl rfl)) q_int) (q_tup (a_cons q_int (a_cons q_int (a_cons q_int a_nil))))) (w_or1 (t_gt (q_var 1 rfl (Or.inr (Or.inl rfl))) q_int))))))))) (fun s H A cl fp => (q_var 7 rfl (Or.inl rfl)))) (sw_true rfl rfl rfl rfl))
    (z_cons (s_if (PWD.t (w_and (t_eq hr (q_var 3 rfl (Or.inl rfl)) q_int) (w_and1 (t_gt (q_var 1 rfl (Or.inr (Or.inl rfl))) q_int))))
    (z_one (s_ret (q_call (k_law_squares h) (hr.mono (by decide)) (a_cons (q_var 2 rfl (Or.inr (Or.inl rfl))) (a_cons q_int (a_cons q_bl a_nil))))))
    z_nil)
    (z_cons (s_if (PWD.t (w_and (t_eq hr (q_var 3 rfl (Or.inl rfl)) q_int) (w_and1 (t_gt (q_var 1 rfl (Or.inr (Or.inl rfl))) q_int))))
    (z_one (s_ret (q_call (k_law_squares h) (hr.mono (by decide)) (a_cons (q_var 2 rfl (Or.inr (Or.inl rfl))) (a_cons q_int (a_cons q_bl a_nil))))))
    z_nil)
    (z_cons (s_if (PWD.t (w_and (t_eq hr (q_var 3 rfl (Or.inl rfl)) q_int) (w_and1 (t_gt (q_var 1 rfl (Or.inr (Or.inl rfl))) q_int))))
    (z_one (s_ret (q_call (k_law_squares h) (hr.mono (by decide)) (a_cons (q_var 2 rfl (Or.inr (Or.inl rfl))) (a_cons q_int (a_cons q_bl a_nil))))))
    z_nil)
    (z_cons (s_if (PWD.t (w_and (t_in (q_var 3 rfl (Or.inl rfl)) (q_tup (a_cons q_int (a_cons q_int a_nil)))) (w_and1 (t_gt (q_var 1 rfl (Or.inr (Or.inl rfl))) q_int))))
    (z_one (s_ret (q_call (k_law_moved h) (hr.mono (by decide)) (a_cons (q_var 2 rfl (Or.inr (Or.inl rfl))) (a_cons (q_callT (k_law_choice h) (hr.mono (by decide)) rfl (Or.inr (Or.inl rfl)) (a_cons (q_var 4 rfl (Or.inl rfl)) a_nil)) a_nil)))))
    z_nil)
    (z_cons (s_if (PWD.t (w_and (t_eq hr (q_var 3 rfl (Or.inl rfl)) q_int) (w_and1 (t_gt (q_var 1 rfl (Or.inr (Or.inl rfl))) q_int))))
    (z_cons (s_set 5 nd rfl (Or.inl rfl) (q_call (k_law_squares h) (hr.mono (by decide)) (a_cons (q_var 2 rfl (Or.inr (Or.inl rfl))) (a_cons q_int (a_cons (q_eq hr (q_callT (k_law_drop h) (hr.mono (by decide)) rfl (Or.inr (Or.inl rfl)) (a_cons q_int a_nil)) q_int) a_nil)))))
    (z_one (s_ret (q_call (k_law_beside h) (hr.mono (by decide)) (a_cons (q_var 5 rfl (Or.inl rfl)) (a_cons (q_call (k_law_poly_ring h) (hr.mono (by decide)) (a_cons (q_var 2 rfl (Or.inr (Or.inl rfl))) (a_cons (PF.d (f_lst (a_cons (q_callT (k_law_drop h) (hr.mono (by decide)) rfl (Or.inr (Or.inl rfl)) (a_cons (q_var 2 rfl (Or.inr (Or.inl rfl))) a_nil)) (a_cons q_int a_nil)))) a_nil))) a_nil))))))
    z_nil)
    (z_cons (s_set 6 nd rfl (Or.inl rfl) (q_add (PF.d (f_lcV [("_law_turn", 8)] rfl rfl nd (i_rng1 h.b_range (a_cons (q_add q_int (q_callT (k_law_drop h) (hr.mono (by decide)) rfl (Or.inr (Or.inl rfl)) (a_cons (q_bi (call_min2 rfl) cd_min2 h.b_min bt_min (a_cons q_int (a_cons (q_var 1 rfl (Or.inr (Or.inl rfl))) a_nil))) a_nil))) a_nil)) (blkOk_by (by kernel_rfl)) (fun s H A cl fp => (g_name 8 nd rfl (Or.inl rfl))) (fun s H A cl fp => (q_callT (k_law_drop h) (hr.mono (by decide)) rfl (Or.inr (Or.inl rfl)) (a_cons (q_var 2 rfl (Or.inr (Or.inl rfl))) a_nil))))) (PF.d (f_lst (a_cons q_int a_nil)))))
    (z_cons (s_if (PWD.t (w_and (t_eq hr (q_var 3 rfl (Or.inl rfl)) q_int) (w_and1 (t_le (q_bi call_len_seq cd_len h.b_len bt_len (a_cons (q_var 6 rfl (Or.inl rfl)) a_nil)) (q_var 1 rfl (Or.inr (Or.inl rfl)))))))
    (z_one (s_ret (q_call (k_law_beside h) (hr.mono (by decide)) (a_cons (q_call (k_law_poly_ring h) (hr.mono (by decide)) (a_cons (q_var 2 rfl (Or.inr (Or.inl rfl))) (a_cons (q_var 6 rfl (Or.inl rfl)) a_nil))) (a_cons (q_call (k_law_poly_ring h) (hr.mono (by decide)) (a_cons (q_var 2 rfl (Or.inr (Or.inl rfl))) (a_cons (PF.d (f_lst (a_cons (q_callT (k_law_drop h) (hr.mono (by decide)) rfl (Or.inr (Or.inl rfl)) (a_cons (q_var 2 rfl (Or.inr (Or.inl rfl))) a_nil)) (a_cons q_int a_nil)))) a_nil))) a_nil)))))
    z_nil)
    (z_one (s_ret (q_call (k_law_poly_ring h) (hr.mono (by decide)) (a_cons (q_var 2 rfl (Or.inr (Or.inl rfl))) (a_cons (q_var 6 rfl (Or.inl rfl)) a_nil)))))))))))))))⟩
def B_law_drawn_ring : FS := (sSeq (sAsg 2 (tcE 0 F_law_plain_ring (aC (vr 1) aN))) (sSeq (sIf (tst (bO eqD (tcE 0 F_law_drop (aC (cD (.int 2)) aN)) (cD (.int 0)))) (sRet (vr 2)) sNx) (sSeq (sUn2 3 4 (tcE 0 F_law_shears (aC (dgE "p" (vr 2)) (aC (dgE "n" (vr 2)) aN)))) (sRet (cO F_law_rebased (aC (vr 2) (aC (vr 3) (aC (vr 4) aN))))))))
def F_law_drawn_ring : List D → List D → Option (D × List D) := runT 5 2 B_law_drawn_ring
def N_law_drawn_ring : List Str := ["_law_tank_here", "_law_most", "_law_ring_here", "_law_one", "_law_back"]
theorem S_law_drawn_ring : FnScope N_law_drawn_ring ["_law_tank_here", "_law_most"] (defScope (topS 85)) := ⟨rfl, rfl, rfl, by decide +kernel, rfl, by decide +kernel, by decide +kernel⟩
theorem k_law_drawn_ring (h : Tops P w K mg base C) : Kn P w K mg base "_law_drawn_ring" 4 ["_law_tank_here", "_law_most"] (spT K C F_law_drawn_ring) := by
  have nd := S_law_drawn_ring.nd
  refine kn_T h.x_law_drawn_ring S_law_drawn_ring rfl rfl fun f cdv A outer s H E hr => ⟨_, (z_cons (s_set 2 nd rfl (Or.inl rfl) (q_callT (k_law_plain_ring h) (hr.mono (by decide)) rfl (Or.inl rfl) (a_cons (q_var 1 rfl (Or.inl rfl)) a_nil)))
    (z_cons (s_if (t_eq hr (q_callT (k_law_drop h) (hr.mono (by decide)) rfl (Or.inl rfl) (a_cons q_int a_nil)) q_int)
    (z_one (s_ret (q_var 2 rfl (Or.inl rfl))))
    z_nil)
    (z_cons (s_un2 3 4 rfl nd rfl rfl (Or.inl rfl) (Or.inl rfl) (q_callT (k_law_shears h) (hr.mono (by decide)) rfl (Or.inl rfl) (a_cons (q_dg hr (q_var 2 rfl (Or.inl rfl)) (fun _ _ => rfl)) (a_cons (q_dg hr (q_var 2 rfl (Or.inl rfl)) (fun _ _ => rfl)) a_nil))))
    (z_one (s_ret (q_call (k_law_rebased h) (hr.mono (by decide)) (a_cons (q_var 2 rfl (Or.inl rfl)) (a_cons (q_var 3 rfl (Or.inl rfl)) (a_cons (q_var 4 rfl (Or.inl rfl)) a_nil)))))))))⟩
def B_law_member : FS := (sRet (cO tupleD (aC (frz (lcE (itR1 (aC (dgE "n" (vr 1)) aN)) (gN 2) yesB (tcE 0 F_law_drop (aC (dgE "p" (vr 1)) aN)) [2])) aN)))
def F_law_member : List D → List D → Option (D × List D) := runT 3 2 B_law_member
def N_law_member : List Str := ["_law_tank_here", "_law_ring_here", "_law_place"]
theorem S_law_member : FnScope N_law_member ["_law_tank_here", "_law_ring_here"] (defScope (topS 87)) := ⟨rfl, rfl, rfl, by decide +kernel, rfl, by decide +kernel, by decide +kernel⟩
theorem k_law_member (h : Tops P w K mg base C) : Kn P w K mg base "_law_member" 2 ["_law_tank_here", "_law_ring_here"] (spT K C F_law_member) := by
  have nd := S_law_member.nd
  refine kn_T h.x_law_member S_law_member rfl rfl fun f cdv A outer s H E hr => ⟨_, (z_one (s_ret (q_ty call_tuple_of cd_tuple h.b_tuple bt_tuple (a_cons (PF.d (f_lcV [("_law_place", 2)] rfl rfl nd (i_rng1 h.b_range (a_cons (q_dg hr (q_var 1 rfl (Or.inr (Or.inl rfl))) (fun _ _ => rfl)) a_nil)) (blkOk_by (by kernel_rfl)) (fun s H A cl fp => (g_name 2 nd rfl (Or.inl rfl))) (fun s H A cl fp => (q_callT (k_law_drop h) (hr.mono (by decide)) rfl (Or.inr (Or.inl rfl)) (a_cons (q_dg hr (q_var 1 rfl (Or.inr (Or.inl rfl))) (fun _ _ => rfl)) a_nil))))) a_nil))))⟩
def B_law_one_of_ring : FS := (sSeq (sOwn 1 (lenOk aN)) (sSeq (sFor (itR1 (aC (dgE "n" (vr 0)) aN)) (gN 2) (sSeq (sAsg 3 (tupE (lenOk aN))) (sSeq (sFor (itR1 (aC (dgE "n" (vr 0)) aN)) (gN 4) (sAsg 3 (bO addD (bO addD (vr 3) (bO ixD (bO ixD (dgE "t" (vr 0)) (vr 2)) (vr 4))) (bO ixD (bO ixD (dgE "t" (vr 0)) (vr 4)) (vr 2))))) (sApp 1 (vr 3))))) (sSeq (sAsg 5 (tupE (lenOk aN))) (sSeq (sFor (itL (frz (cF F_law_unit (aC (dgE "n" (vr 0)) aN)))) (gN 3) (sAsg 5 (bO addD (bO addD (vr 5) (vr 3)) (vr 3)))) (frzS 1 (sRet (cO F_law_solved (aC (dgE "p" (vr 0)) (aC (vr 1) (aC (vr 5) aN))))))))))
def F_law_one_of_ring : List D → Option D := runP 6 1 B_law_one_of_ring
def N_law_one_of_ring : List Str := ["_law_ring_here", "_law_rows", "_law_k", "_law_row", "_law_i", "_law_goal"]
theorem S_law_one_of_ring : FnScope N_law_one_of_ring ["_law_ring_here"] (defScope (topS 88)) := ⟨rfl, rfl, rfl, by decide +kernel, rfl, by decide +kernel, by decide +kernel⟩
theorem k_law_one_of_ring (h : Tops P w K mg base C) : Kn P w K mg base "_law_one_of_ring" 4 ["_law_ring_here"] (spP K C F_law_one_of_ring) := by
  have nd := S_law_one_of_ring.nd
  refine kn_P h.x_law_one_of_ring S_law_one_of_ring rfl rfl fun f cdv A outer s H E hr => ⟨_, (z_cons (s_own 1 nd rfl (Or.inl rfl) (f_lst a_nil))
    (z_cons (s_for PassesOwn.never rfl (i_rng1 h.b_range (a_cons (q_dg hr (q_var 0 rfl (Or.inl rfl)) (fun _ _ => rfl)) a_nil)) (g_name 2 nd rfl (Or.inl rfl))
    (z_cons (s_set 3 nd rfl (Or.inl rfl) (q_tup a_nil))
    (z_cons (s_for PassesOwn.never rfl (i_rng1 h.b_range (a_cons (q_dg hr (q_var 0 rfl (Or.inl rfl)) (fun _ _ => rfl)) a_nil)) (g_name 4 nd rfl (Or.inl rfl))
    (z_one (s_set 3 nd rfl (Or.inl rfl) (q_add (q_add (q_var 3 rfl (Or.inl rfl)) (q_ix (q_ix (q_dg hr (q_var 0 rfl (Or.inl rfl)) (fun _ _ => rfl)) (q_var 2 rfl (Or.inl rfl))) (q_var 4 rfl (Or.inl rfl)))) (q_ix (q_ix (q_dg hr (q_var 0 rfl (Or.inl rfl)) (fun _ _ => rfl)) (q_var 4 rfl (Or.inl rfl))) (q_var 2 rfl (Or.inl rfl)))))))
    (z_one (s_app 1 rfl (Or.inl rfl) (q_var 3 rfl (Or.inl rfl)))))))
    (z_cons (s_set 5 nd rfl (Or.inl rfl) (q_tup a_nil))
    (z_cons (s_for PassesOwn.never rfl (i_list (PF.d (f_call (k_law_unit h) (hr.mono (by decide)) (a_cons (q_dg hr (q_var 0 rfl (Or.inl rfl)) (fun _ _ => rfl)) a_nil)))) (g_name 3 nd rfl (Or.inl rfl))
    (z_one (s_set 5 nd rfl (Or.inl rfl) (q_add (q_add (q_var 5 rfl (Or.inl rfl)) (q_var 3 rfl (Or.inl rfl))) (q_var 3 rfl (Or.inl rfl))))))
    (z_frz 1 (z_one (s_ret (q_call (k_law_solved h) (hr.mono (by decide)) (a_cons (q_dg hr (q_var 0 rfl (Or.inl rfl)) (fun _ _ => rfl)) (a_cons (q_var 1 rfl (Or.inl rfl)) (a_cons (q_var 5 rfl (Or.inl rfl)) a_nil)))))))))))⟩
def B_law_great_power : FS := (sSeq (sPar3 3 4 5 (aC (cO F_law_one_of_ring (aC (vr 0) aN)) (aC (vr 1) (aC (cO intD (aC (vr 2) aN)) aN)))) (sSeq (whS (tst (bO gtD (vr 5) (cD (.int 0)))) (sSeq (sIf (tst (bO eqD (bO modD (vr 5) (cD (.int 2))) (cD (.int 1)))) (sAsg 3 (cO F_law_times (aC (vr 0) (aC (vr 3) (aC (vr 4) aN))))) sNx) (sPar 4 5 (xV (cO F_law_times (aC (vr 0) (aC (vr 4) (aC (vr 4) aN))))) (xV (bO fdivD (vr 5) (cD (.int 2)))))) 64) (sRet (vr 3))))
def F_law_great_power : List D → Option D := runP 6 3 B_law_great_power
def N_law_great_power : List Str := ["_law_ring_here", "_law_member_here", "_law_number", "_law_found", "_law_here", "_law_left"]
theorem S_law_great_power : FnScope N_law_great_power ["_law_ring_here", "_law_member_here", "_law_number"] (defScope (topS 89)) := ⟨rfl, rfl, rfl, by decide +kernel, rfl, by decide +kernel, by decide +kernel⟩
theorem k_law_great_power (h : Tops P w K mg base C) : Kn P w K mg base "_law_great_power" 5 ["_law_ring_here", "_law_member_here", "_law_number"] (spP K C F_law_great_power) := by
  have nd := S_law_great_power.nd
  refine kn_P h.x_law_great_power S_law_great_power rfl rfl fun f cdv A outer s H E hr => ⟨_, (z_cons (s_par3 3 4 5 (by decide) (by decide) (by decide) rfl nd rfl rfl rfl rfl rfl rfl (a_cons (q_call (k_law_one_of_ring h) (hr.mono (by decide)) (a_cons (q_var 0 rfl (Or.inl rfl)) a_nil)) (a_cons (q_var 1 rfl (Or.inl rfl)) (a_cons (q_ty call_int1 cd_int h.b_int bt_int (a_cons (q_var 2 rfl (Or.inl rfl)) a_nil)) a_nil))))
    (z_cons (s_while 64 PassesOwn.never (t_gt (q_var 5 rfl (Or.inl rfl)) q_int)
    (z_cons (s_if (t_eq hr (q_mod (q_var 5 rfl (Or.inl rfl)) q_int) q_int)
    (z_one (s_set 3 nd rfl (Or.inl rfl) (q_call (k_law_times h) (hr.mono (by decide)) (a_cons (q_var 0 rfl (Or.inl rfl)) (a_cons (q_var 3 rfl (Or.inl rfl)) (a_cons (q_var 4 rfl (Or.inl rfl)) a_nil))))))
    z_nil)
    (z_one (s_par 4 5 (by decide) rfl nd rfl rfl rfl rfl (PD.x (q_call (k_law_times h) (hr.mono (by decide)) (a_cons (q_var 0 rfl (Or.inl rfl)) (a_cons (q_var 4 rfl (Or.inl rfl)) (a_cons (q_var 4 rfl (Or.inl rfl)) a_nil))))) (PD.x (q_fdiv (q_var 5 rfl (Or.inl rfl)) q_int))))))
    (z_one (s_ret (q_var 3 rfl (Or.inl rfl))))))⟩
def B_law_undoing : FS := (sRet (cO F_law_solved (aC (dgE "p" (vr 0)) (aC (frz (lcE (itL (frz (cF F_law_unit (aC (dgE "n" (vr 0)) aN)))) (gN 2) yesB (cO F_law_times (aC (vr 0) (aC (vr 1) (aC (vr 2) aN)))) [2])) (aC (cO F_law_one_of_ring (aC (vr 0) aN)) aN)))))
def F_law_undoing : List D → Option D := runP 3 2 B_law_undoing
def N_law_undoing : List Str := ["_law_ring_here", "_law_member_here", "_law_row"]
theorem S_law_undoing : FnScope N_law_undoing ["_law_ring_here", "_law_member_here"] (defScope (topS 90)) := ⟨rfl, rfl, rfl, by decide +kernel, rfl, by decide +kernel, by decide +kernel⟩
theorem k_law_undoing (h : Tops P w K mg base C) : Kn P w K mg base "_law_undoing" 5 ["_law_ring_here", "_law_member_here"] (spP K C F_law_undoing) := by
  have nd := S_law_undoing.nd
  refine kn_P h.x_law_undoing S_law_undoing rfl rfl fun f cdv A outer s H E hr => ⟨_, (z_one (s_ret (q_call (k_law_solved h) (hr.mono (by decide)) (a_cons (q_dg hr (q_var 0 rfl (Or.inr (Or.inl rfl))) (fun _ _ => rfl)) (a_cons (PF.d (f_lcV [("_law_row", 2)] rfl rfl nd (i_list (PF.d (f_call (k_law_unit h) (hr.mono (by decide)) (a_cons (q_dg hr (q_var 0 rfl (Or.inr (Or.inl rfl))) (fun _ _ => rfl)) a_nil)))) (blkOk_by (by kernel_rfl)) (fun s H A cl fp => (g_name 2 nd rfl (Or.inl rfl))) (fun s H A cl fp => (q_call (k_law_times h) (hr.mono (by decide)) (a_cons (q_var 0 rfl (Or.inr (Or.inl rfl))) (a_cons (q_var 1 rfl (Or.inr (Or.inl rfl))) (a_cons (q_var 2 rfl (Or.inl rfl)) a_nil))))))) (a_cons (q_call (k_law_one_of_ring h) (hr.mono (by decide)) (a_cons (q_var 0 rfl (Or.inr (Or.inl rfl))) a_nil)) a_nil))))))⟩
end TR

namespace TR
open PySem PySem.Spec PyProof.Rows L2
variable {P : Program} {w : World} {K : PySem.W.Frag} {mg : Str → Option Value} {base : Heap} {C : Nat → Addr}
def B_KeptProducts_init : IS := (iSet 0 (vr 1))
def F_KeptProducts_init : List D → Option (List D) := runI 2 2 B_KeptProducts_init
def N_KeptProducts_init : List Str := ["self", "rows"]
theorem S_KeptProducts_init : FnScope N_KeptProducts_init ["self", "rows"] (defScope (inClass (topS 54) 1)) := ⟨rfl, rfl, rfl, by decide +kernel, rfl, by decide +kernel, by decide +kernel⟩
theorem k_KeptProducts_init (h : Tops P w K mg base C) : KnI P w K mg base C 1 1 (spI K C 1 F_KeptProducts_init) := by
  have nd := S_KeptProducts_init.nd
  refine kn_I h.x_KeptProducts_init S_KeptProducts_init rfl rfl fun f cdv A outer s H E hr => ?_
  have key : ∃ t, PSsI (bCx P w K mg base N_KeptProducts_init "KeptProducts.__init__" (inClass (topS 54) 1) f cdv A outer s H E) C 1 (defBody (inClass (topS 54) 1)) t B_KeptProducts_init := ⟨_, (y_one (y_set h.fl_own_rows rfl (Or.inl rfl) (q_var 1 rfl (Or.inl rfl))))⟩
  obtain ⟨t, z⟩ := key
  exact ⟨t, z.ps, z.si⟩
def B_products_told : FS := (sSeq (sIf (tst (uO isKept (vr 1))) (sRet (uO (fldD 1 0) (vr 1))) sNx) (sSeq (sDrop (cO F_require_products (aC (vr 0) (aC (vr 1) aN)))) (sSeq (sIf (tst (bO isntD (cO F_fault_in (aC (vr 0) (aC (vr 1) aN))) (cD .non))) sBad sNx) (sRet (vr 1)))))
def F_products_told : List D → Option D := runP 2 2 B_products_told
def N_products_told : List Str := ["prime", "table"]
theorem S_products_told : FnScope N_products_told ["prime", "table"] (defScope (topS 55)) := ⟨rfl, rfl, rfl, by decide +kernel, rfl, by decide +kernel, by decide +kernel⟩
theorem k_products_told (h : Tops P w K mg base C) : Kn P w K mg base "products_told" 8 ["prime", "table"] (spP K C F_products_told) := by
  have nd := S_products_told.nd
  refine kn_P h.x_products_told S_products_told rfl rfl fun f cdv A outer s H E hr => ⟨_, (z_cons (s_if (t_val (q_kept h.isk h.b_isinstance h.m_KeptProducts (q_var 1 rfl (Or.inl rfl))))
    (z_one (s_ret (q_fld h.fl_own_rows (q_var 1 rfl (Or.inl rfl)))))
    z_nil)
    (z_cons (s_expr (q_call (k_require_products h) (hr.mono (by decide)) (a_cons (q_var 0 rfl (Or.inl rfl)) (a_cons (q_var 1 rfl (Or.inl rfl)) a_nil))))
    (z_cons (s_if (t_isnt (q_call (k_fault_in h) (hr.mono (by decide)) (a_cons (q_var 0 rfl (Or.inl rfl)) (a_cons (q_var 1 rfl (Or.inl rfl)) a_nil))) q_non)
    z_bad
    z_nil)
    (z_one (s_ret (q_var 1 rfl (Or.inl rfl)))))))⟩
def B_Ring_init : IS := (iSeq (iAsg 3 (cO F_products_told (aC (vr 1) (aC (vr 2) aN)))) (iSeq (iSet 1 (vr 1)) (iSeq (iSet 3 (vr 3)) (iSeq (iSet 2 (cO lenD (aC (vr 3) aN))) (iSet 0 (cO F_one_in (aC (vr 1) (aC (vr 3) aN))))))))
def F_Ring_init : List D → Option (List D) := runI 4 3 B_Ring_init
def N_Ring_init : List Str := ["self", "prime", "table", "rows"]
theorem S_Ring_init : FnScope N_Ring_init ["self", "prime", "table"] (defScope (inClass (topS 56) 1)) := ⟨rfl, rfl, rfl, by decide +kernel, rfl, by decide +kernel, by decide +kernel⟩
theorem k_Ring_init (h : Tops P w K mg base C) : KnI P w K mg base C 0 9 (spI K C 0 F_Ring_init) := by
  have nd := S_Ring_init.nd
  refine kn_I h.x_Ring_init S_Ring_init rfl rfl fun f cdv A outer s H E hr => ?_
  have key : ∃ t, PSsI (bCx P w K mg base N_Ring_init "Ring.__init__" (inClass (topS 56) 1) f cdv A outer s H E) C 0 (defBody (inClass (topS 56) 1)) t B_Ring_init := ⟨_, (y_cons (y_asg 3 nd rfl (Or.inl rfl) (q_call (k_products_told h) (hr.mono (by decide)) (a_cons (q_var 1 rfl (Or.inl rfl)) (a_cons (q_var 2 rfl (Or.inl rfl)) a_nil))))
    (y_cons (y_set h.fl_own_prime rfl (Or.inl rfl) (q_var 1 rfl (Or.inl rfl)))
    (y_cons (y_set h.fl_own_table rfl (Or.inl rfl) (q_var 3 rfl (Or.inl rfl)))
    (y_cons (y_set h.fl_own_size rfl (Or.inl rfl) (q_bi call_len_seq cd_len h.b_len bt_len (a_cons (q_var 3 rfl (Or.inl rfl)) a_nil)))
    (y_one (y_set h.fl_own_one rfl (Or.inl rfl) (q_call (k_one_in h) (hr.mono (by decide)) (a_cons (q_var 1 rfl (Or.inl rfl)) (a_cons (q_var 3 rfl (Or.inl rfl)) a_nil)))))))))⟩
  obtain ⟨t, z⟩ := key
  exact ⟨t, z.ps, z.si⟩
def B_Ring_one : FS := (sRet (uO (fldD 0 0) (vr 0)))
def F_Ring_one : List D → Option D := runP 1 1 B_Ring_one
def N_Ring_one : List Str := ["self"]
theorem S_Ring_one : FnScope N_Ring_one ["self"] (defScope (inClass (topS 56) 10)) := ⟨rfl, rfl, rfl, by decide +kernel, rfl, by decide +kernel, by decide +kernel⟩
theorem k_Ring_one (h : Tops P w K mg base C) : KnP P w K mg base C 0 "one" 1 (spP K C F_Ring_one) := by
  have nd := S_Ring_one.nd
  refine kn_Pr h.x_Ring_one S_Ring_one rfl rfl fun f cdv A outer s H E hr => ⟨_, (z_one (s_ret (q_fld h.fl_own_one (q_var 0 rfl (Or.inl rfl)))))⟩
def B_is_member_in : FS := (sRet (cO F_is_residue_row (aC (uO (fldD 0 1) (vr 0)) (aC (uO (fldD 0 2) (vr 0)) (aC (vr 1) aN)))))
def F_is_member_in : List D → Option D := runP 2 2 B_is_member_in
def N_is_member_in : List Str := ["ring", "value"]
theorem S_is_member_in : FnScope N_is_member_in ["ring", "value"] (defScope (topS 57)) := ⟨rfl, rfl, rfl, by decide +kernel, rfl, by decide +kernel, by decide +kernel⟩
theorem k_is_member_in (h : Tops P w K mg base C) : Kn P w K mg base "is_member_in" 4 ["ring", "value"] (spP K C F_is_member_in) := by
  have nd := S_is_member_in.nd
  refine kn_P h.x_is_member_in S_is_member_in rfl rfl fun f cdv A outer s H E hr => ⟨_, (z_one (s_ret (q_call (k_is_residue_row h) (hr.mono (by decide)) (a_cons (q_fld h.fl_own_prime (q_var 0 rfl (Or.inl rfl))) (a_cons (q_fld h.fl_own_size (q_var 0 rfl (Or.inl rfl))) (a_cons (q_var 1 rfl (Or.inl rfl)) a_nil))))))⟩
def B_right_table : FS := (sRet (cO tupleD (aC (frz (lcE (itT (uO (fldD 0 3) (vr 0))) (gN 2) yesB (cO F_led_row (aC (uO (fldD 0 1) (vr 0)) (aC (vr 2) (aC (vr 1) (aC (uO (fldD 0 2) (vr 0)) aN))))) [2])) aN)))
def F_right_table : List D → Option D := runP 3 2 B_right_table
def N_right_table : List Str := ["ring", "member", "line"]
theorem S_right_table : FnScope N_right_table ["ring", "member"] (defScope (topS 58)) := ⟨rfl, rfl, rfl, by decide +kernel, rfl, by decide +kernel, by decide +kernel⟩
theorem k_right_table (h : Tops P w K mg base C) : Kn P w K mg base "right_table" 2 ["ring", "member"] (spP K C F_right_table) := by
  have nd := S_right_table.nd
  refine kn_P h.x_right_table S_right_table rfl rfl fun f cdv A outer s H E hr => ⟨_, (z_one (s_ret (q_ty call_tuple_of cd_tuple h.b_tuple bt_tuple (a_cons (PF.d (f_lcV [("line", 2)] rfl rfl nd (i_tup (q_fld h.fl_own_table (q_var 0 rfl (Or.inr (Or.inl rfl))))) (blkOk_by (by kernel_rfl)) (fun s H A cl fp => (g_name 2 nd rfl (Or.inl rfl))) (fun s H A cl fp => (q_call (k_led_row h) (hr.mono (by decide)) (a_cons (q_fld h.fl_own_prime (q_var 0 rfl (Or.inr (Or.inl rfl)))) (a_cons (q_var 2 rfl (Or.inl rfl)) (a_cons (q_var 1 rfl (Or.inr (Or.inl rfl))) (a_cons (q_fld h.fl_own_size (q_var 0 rfl (Or.inr (Or.inl rfl)))) a_nil)))))))) a_nil))))⟩
def B_product_in : FS := (sSeq (sPar 3 4 (xV (uO (fldD 0 1) (vr 0))) (xV (uO (fldD 0 2) (vr 0)))) (sSeq (sAsg 5 (cO F_zero_row (aC (vr 4) aN))) (sSeq (sFor (itZ (aC (vr 1) (aC (uO (fldD 0 3) (vr 0)) aN))) (gT2 6 7) (sIf (tst (bO neD (vr 6) (cD (.int 0)))) (sAsg 5 (cO F_added_row (aC (vr 3) (aC (vr 5) (aC (cO F_led_row (aC (vr 3) (aC (vr 7) (aC (vr 2) (aC (vr 4) aN))))) (aC (vr 6) aN)))))) sNx)) (sRet (vr 5)))))
def F_product_in : List D → Option D := runP 8 3 B_product_in
def N_product_in : List Str := ["ring", "one", "other", "prime", "size", "found", "factor", "lines"]
theorem S_product_in : FnScope N_product_in ["ring", "one", "other"] (defScope (topS 59)) := ⟨rfl, rfl, rfl, by decide +kernel, rfl, by decide +kernel, by decide +kernel⟩
theorem k_product_in (h : Tops P w K mg base C) : Kn P w K mg base "product_in" 2 ["ring", "one", "other"] (spP K C F_product_in) := by
  have nd := S_product_in.nd
  refine kn_P h.x_product_in S_product_in rfl rfl fun f cdv A outer s H E hr => ⟨_, (z_cons (s_par 3 4 (by decide) rfl nd rfl rfl rfl rfl (PD.x (q_fld h.fl_own_prime (q_var 0 rfl (Or.inl rfl)))) (PD.x (q_fld h.fl_own_size (q_var 0 rfl (Or.inl rfl)))))
    (z_cons (s_set 5 nd rfl (Or.inl rfl) (q_call (k_zero_row h) (hr.mono (by decide)) (a_cons (q_var 4 rfl (Or.inl rfl)) a_nil)))
    (z_cons (s_for PassesOwn.never rfl (i_zip h.b_zip (a_cons (q_var 1 rfl (Or.inl rfl)) (a_cons (q_fld h.fl_own_table (q_var 0 rfl (Or.inl rfl))) a_nil))) (g_tup2 rfl (g_name 6 nd rfl (Or.inl rfl)) (g_name 7 nd rfl (Or.inl rfl)))
    (z_one (s_if (t_ne hr (q_var 6 rfl (Or.inl rfl)) q_int)
    (z_one (s_set 5 nd rfl (Or.inl rfl) (q_call (k_added_row h) (hr.mono (by decide)) (a_cons (q_var 3 rfl (Or.inl rfl)) (a_cons (q_var 5 rfl (Or.inl rfl)) (a_cons (q_call (k_led_row h) (hr.mono (by decide)) (a_cons (q_var 3 rfl (Or.inl rfl)) (a_cons (q_var 7 rfl (Or.inl rfl)) (a_cons (q_var 2 rfl (Or.inl rfl)) (a_cons (q_var 4 rfl (Or.inl rfl)) a_nil))))) (a_cons (q_var 6 rfl (Or.inl rfl)) a_nil)))))))
    z_nil)))
    (z_one (s_ret (q_var 5 rfl (Or.inl rfl)))))))⟩
def B_power_in : FS := (sSeq (sPar 3 4 (xV (uO (fldD 0 0) (vr 0))) (xV (vr 1))) (sSeq (whS (tst (bO gtD (vr 2) (cD (.int 0)))) (sSeq (sIf (tst (bO eqD (bO modD (vr 2) (cD (.int 2))) (cD (.int 1)))) (sAsg 3 (cO F_product_in (aC (vr 0) (aC (vr 3) (aC (vr 4) aN))))) sNx) (sPar 4 2 (xV (cO F_product_in (aC (vr 0) (aC (vr 4) (aC (vr 4) aN))))) (xV (bO fdivD (vr 2) (cD (.int 2)))))) 64) (sRet (vr 3))))
def F_power_in : List D → Option D := runP 5 3 B_power_in
def N_power_in : List Str := ["ring", "member", "number", "found", "here"]
theorem S_power_in : FnScope N_power_in ["ring", "member", "number"] (defScope (topS 60)) := ⟨rfl, rfl, rfl, by decide +kernel, rfl, by decide +kernel, by decide +kernel⟩
theorem k_power_in (h : Tops P w K mg base C) : Kn P w K mg base "power_in" 3 ["ring", "member", "number"] (spP K C F_power_in) := by
  have nd := S_power_in.nd
  refine kn_P h.x_power_in S_power_in rfl rfl fun f cdv A outer s H E hr => ⟨_, (z_cons (s_par 3 4 (by decide) rfl nd rfl rfl rfl rfl (PD.x (q_fld h.fl_own_one (q_var 0 rfl (Or.inl rfl)))) (PD.x (q_var 1 rfl (Or.inl rfl))))
    (z_cons (s_while 64 PassesOwn.never (t_gt (q_var 2 rfl (Or.inl rfl)) q_int)
    (z_cons (s_if (t_eq hr (q_mod (q_var 2 rfl (Or.inl rfl)) q_int) q_int)
    (z_one (s_set 3 nd rfl (Or.inl rfl) (q_call (k_product_in h) (hr.mono (by decide)) (a_cons (q_var 0 rfl (Or.inl rfl)) (a_cons (q_var 3 rfl (Or.inl rfl)) (a_cons (q_var 4 rfl (Or.inl rfl)) a_nil))))))
    z_nil)
    (z_one (s_par 4 2 (by decide) rfl nd rfl rfl rfl rfl (PD.x (q_call (k_product_in h) (hr.mono (by decide)) (a_cons (q_var 0 rfl (Or.inl rfl)) (a_cons (q_var 4 rfl (Or.inl rfl)) (a_cons (q_var 4 rfl (Or.inl rfl)) a_nil))))) (PD.x (q_fdiv (q_var 2 rfl (Or.inl rfl)) q_int))))))
    (z_one (s_ret (q_var 3 rfl (Or.inl rfl))))))⟩
def B_undone_member : FS := (sRet (cO F_solution_in (aC (uO (fldD 0 1) (vr 0)) (aC (cO F_right_table (aC (vr 0) (aC (vr 1) aN))) (aC (uO (fldD 0 0) (vr 0)) aN)))))
def F_undone_member : List D → Option D := runP 2 2 B_undone_member
def N_undone_member : List Str := ["ring", "member"]
theorem S_undone_member : FnScope N_undone_member ["ring", "member"] (defScope (topS 61)) := ⟨rfl, rfl, rfl, by decide +kernel, rfl, by decide +kernel, by decide +kernel⟩
theorem k_undone_member (h : Tops P w K mg base C) : Kn P w K mg base "undone_member" 6 ["ring", "member"] (spP K C F_undone_member) := by
  have nd := S_undone_member.nd
  refine kn_P h.x_undone_member S_undone_member rfl rfl fun f cdv A outer s H E hr => ⟨_, (z_one (s_ret (q_call (k_solution_in h) (hr.mono (by decide)) (a_cons (q_fld h.fl_own_prime (q_var 0 rfl (Or.inl rfl))) (a_cons (q_call (k_right_table h) (hr.mono (by decide)) (a_cons (q_var 0 rfl (Or.inl rfl)) (a_cons (q_var 1 rfl (Or.inl rfl)) a_nil))) (a_cons (q_fld h.fl_own_one (q_var 0 rfl (Or.inl rfl))) a_nil))))))⟩
def B_require_member : FS := (sIf (notB (tst (cO F_is_member_in (aC (vr 0) (aC (vr 1) aN))))) sBad sNx)
def F_require_member : List D → Option D := runP 2 2 B_require_member
def N_require_member : List Str := ["ring", "value"]
theorem S_require_member : FnScope N_require_member ["ring", "value"] (defScope (topS 63)) := ⟨rfl, rfl, rfl, by decide +kernel, rfl, by decide +kernel, by decide +kernel⟩
theorem k_require_member (h : Tops P w K mg base C) : Kn P w K mg base "require_member" 5 ["ring", "value"] (spP K C F_require_member) := by
  have nd := S_require_member.nd
  refine kn_P h.x_require_member S_require_member rfl rfl fun f cdv A outer s H E hr => ⟨_, (z_one (s_if (t_not (t_val (q_call (k_is_member_in h) (hr.mono (by decide)) (a_cons (q_var 0 rfl (Or.inl rfl)) (a_cons (q_var 1 rfl (Or.inl rfl)) a_nil)))))
    z_bad
    z_nil))⟩
def B_Ring_added : FS := (sSeq (sDrop (cO F_require_member (aC (vr 0) (aC (vr 1) aN)))) (sSeq (sDrop (cO F_require_member (aC (vr 0) (aC (vr 2) aN)))) (sRet (cO F_added_row (aC (uO (fldD 0 1) (vr 0)) (aC (vr 1) (aC (vr 2) (aC (cD (.int 1)) aN))))))))
def F_Ring_added : List D → Option D := runP 3 3 B_Ring_added
def N_Ring_added : List Str := ["self", "one", "other"]
theorem S_Ring_added : FnScope N_Ring_added ["self", "one", "other"] (defScope (inClass (topS 56) 12)) := ⟨rfl, rfl, rfl, by decide +kernel, rfl, by decide +kernel, by decide +kernel⟩
theorem k_Ring_added (h : Tops P w K mg base C) : KnM P w K mg base C 0 "added" 6 (spP K C F_Ring_added) := by
  have nd := S_Ring_added.nd
  refine kn_M h.x_Ring_added S_Ring_added rfl rfl fun f cdv A outer s H E hr => ⟨_, (z_cons (s_expr (q_call (k_require_member h) (hr.mono (by decide)) (a_cons (q_var 0 rfl (Or.inl rfl)) (a_cons (q_var 1 rfl (Or.inl rfl)) a_nil))))
    (z_cons (s_expr (q_call (k_require_member h) (hr.mono (by decide)) (a_cons (q_var 0 rfl (Or.inl rfl)) (a_cons (q_var 2 rfl (Or.inl rfl)) a_nil))))
    (z_one (s_ret (q_call (k_added_row h) (hr.mono (by decide)) (a_cons (q_fld h.fl_own_prime (q_var 0 rfl (Or.inl rfl))) (a_cons (q_var 1 rfl (Or.inl rfl)) (a_cons (q_var 2 rfl (Or.inl rfl)) (a_cons q_int a_nil)))))))))⟩
def B_Ring_product : FS := (sSeq (sDrop (cO F_require_member (aC (vr 0) (aC (vr 1) aN)))) (sSeq (sDrop (cO F_require_member (aC (vr 0) (aC (vr 2) aN)))) (sRet (cO F_product_in (aC (vr 0) (aC (vr 1) (aC (vr 2) aN)))))))
def F_Ring_product : List D → Option D := runP 3 3 B_Ring_product
def N_Ring_product : List Str := ["self", "one", "other"]
theorem S_Ring_product : FnScope N_Ring_product ["self", "one", "other"] (defScope (inClass (topS 56) 13)) := ⟨rfl, rfl, rfl, by decide +kernel, rfl, by decide +kernel, by decide +kernel⟩
theorem k_Ring_product (h : Tops P w K mg base C) : KnM P w K mg base C 0 "product" 6 (spP K C F_Ring_product) := by
  have nd := S_Ring_product.nd
  refine kn_M h.x_Ring_product S_Ring_product rfl rfl fun f cdv A outer s H E hr => ⟨_, (z_cons (s_expr (q_call (k_require_member h) (hr.mono (by decide)) (a_cons (q_var 0 rfl (Or.inl rfl)) (a_cons (q_var 1 rfl (Or.inl rfl)) a_nil))))
    (z_cons (s_expr (q_call (k_require_member h) (hr.mono (by decide)) (a_cons (q_var 0 rfl (Or.inl rfl)) (a_cons (q_var 2 rfl (Or.inl rfl)) a_nil))))
    (z_one (s_ret (q_call (k_product_in h) (hr.mono (by decide)) (a_cons (q_var 0 rfl (Or.inl rfl)) (a_cons (q_var 1 rfl (Or.inl rfl)) (a_cons (q_var 2 rfl (Or.inl rfl)) a_nil))))))))⟩
def B_Ring_times : FS := (sSeq (sDrop (cO F_require_integer (aC (vr 1) aN))) (sSeq (sDrop (cO F_require_member (aC (vr 0) (aC (vr 2) aN)))) (sRet (cO F_scaled_row (aC (uO (fldD 0 1) (vr 0)) (aC (vr 1) (aC (vr 2) aN)))))))
def F_Ring_times : List D → Option D := runP 3 3 B_Ring_times
def N_Ring_times : List Str := ["self", "number", "member"]
theorem S_Ring_times : FnScope N_Ring_times ["self", "number", "member"] (defScope (inClass (topS 56) 14)) := ⟨rfl, rfl, rfl, by decide +kernel, rfl, by decide +kernel, by decide +kernel⟩
theorem k_Ring_times (h : Tops P w K mg base C) : KnM P w K mg base C 0 "times" 6 (spP K C F_Ring_times) := by
  have nd := S_Ring_times.nd
  refine kn_M h.x_Ring_times S_Ring_times rfl rfl fun f cdv A outer s H E hr => ⟨_, (z_cons (s_expr (q_call (k_require_integer h) (hr.mono (by decide)) (a_cons (q_var 1 rfl (Or.inl rfl)) a_nil)))
    (z_cons (s_expr (q_call (k_require_member h) (hr.mono (by decide)) (a_cons (q_var 0 rfl (Or.inl rfl)) (a_cons (q_var 2 rfl (Or.inl rfl)) a_nil))))
    (z_one (s_ret (q_call (k_scaled_row h) (hr.mono (by decide)) (a_cons (q_fld h.fl_own_prime (q_var 0 rfl (Or.inl rfl))) (a_cons (q_var 1 rfl (Or.inl rfl)) (a_cons (q_var 2 rfl (Or.inl rfl)) a_nil))))))))⟩
def B_Ring_power : FS := (sSeq (sDrop (cO F_require_member (aC (vr 0) (aC (vr 1) aN)))) (sSeq (sIf (orB (notB (tst (cO F_is_integer (aC (vr 2) aN)))) (tst (bO ltD (vr 2) (cD (.int 0))))) sBad sNx) (sRet (cO F_power_in (aC (vr 0) (aC (vr 1) (aC (vr 2) aN)))))))
def F_Ring_power : List D → Option D := runP 3 3 B_Ring_power
def N_Ring_power : List Str := ["self", "member", "number"]
theorem S_Ring_power : FnScope N_Ring_power ["self", "member", "number"] (defScope (inClass (topS 56) 15)) := ⟨rfl, rfl, rfl, by decide +kernel, rfl, by decide +kernel, by decide +kernel⟩
theorem k_Ring_power (h : Tops P w K mg base C) : KnM P w K mg base C 0 "power" 6 (spP K C F_Ring_power) := by
  have nd := S_Ring_power.nd
  refine kn_M h.x_Ring_power S_Ring_power rfl rfl fun f cdv A outer s H E hr => ⟨_, (z_cons (s_expr (q_call (k_require_member h) (hr.mono (by decide)) (a_cons (q_var 0 rfl (Or.inl rfl)) (a_cons (q_var 1 rfl (Or.inl rfl)) a_nil))))
    (z_cons (s_if (PWD.t (w_or (t_not (t_val (q_call (k_is_integer h) (hr.mono (by decide)) (a_cons (q_var 2 rfl (Or.inl rfl)) a_nil)))) (w_or1 (t_lt (q_var 2 rfl (Or.inl rfl)) q_int))))
    z_bad
    z_nil)
    (z_one (s_ret (q_call (k_power_in h) (hr.mono (by decide)) (a_cons (q_var 0 rfl (Or.inl rfl)) (a_cons (q_var 1 rfl (Or.inl rfl)) (a_cons (q_var 2 rfl (Or.inl rfl)) a_nil))))))))⟩
def B_Ring_is_unit : FS := (sRet (andE (cO F_is_member_in (aC (vr 0) (aC (vr 1) aN))) (bO isntD (cO F_undone_member (aC (vr 0) (aC (vr 1) aN))) (cD .non))))
def F_Ring_is_unit : List D → Option D := runP 2 2 B_Ring_is_unit
def N_Ring_is_unit : List Str := ["self", "value"]
theorem S_Ring_is_unit : FnScope N_Ring_is_unit ["self", "value"] (defScope (inClass (topS 56) 16)) := ⟨rfl, rfl, rfl, by decide +kernel, rfl, by decide +kernel, by decide +kernel⟩
theorem k_Ring_is_unit (h : Tops P w K mg base C) : KnM P w K mg base C 0 "is_unit" 7 (spP K C F_Ring_is_unit) := by
  have nd := S_Ring_is_unit.nd
  refine kn_M h.x_Ring_is_unit S_Ring_is_unit rfl rfl fun f cdv A outer s H E hr => ⟨_, (z_one (s_ret (q_and (q_call (k_is_member_in h) (hr.mono (by decide)) (a_cons (q_var 0 rfl (Or.inl rfl)) (a_cons (q_var 1 rfl (Or.inl rfl)) a_nil))) (q_one (q_isnt (q_call (k_undone_member h) (hr.mono (by decide)) (a_cons (q_var 0 rfl (Or.inl rfl)) (a_cons (q_var 1 rfl (Or.inl rfl)) a_nil))) q_non)))))⟩
def B_law_made : FS := (sRet (cO (fun ds => (F_Ring_init ds).map (.obj 0)) (aC (dgE "p" (vr 0)) (aC (cO tupleD (aC (frz (lcE (itL (dgE "t" (vr 0))) (gN 1) yesB (cO tupleD (aC (vr 1) aN)) [1])) aN)) aN))))
def F_law_made : List D → Option D := runP 2 1 B_law_made
def N_law_made : List Str := ["_law_ring_here", "_law_line"]
theorem S_law_made : FnScope N_law_made ["_law_ring_here"] (defScope (topS 86)) := ⟨rfl, rfl, rfl, by decide +kernel, rfl, by decide +kernel, by decide +kernel⟩
theorem k_law_made (h : Tops P w K mg base C) : Kn P w K mg base "_law_made" 11 ["_law_ring_here"] (spP K C F_law_made) := by
  have nd := S_law_made.nd
  refine kn_P h.x_law_made S_law_made rfl rfl fun f cdv A outer s H E hr => ⟨_, (z_one (s_ret (q_make (k_Ring_init h) (hr.mono (by decide)) h.m_Ring (a_cons (q_dg hr (q_var 0 rfl (Or.inl rfl)) (fun _ _ => rfl)) (a_cons (q_ty call_tuple_of cd_tuple h.b_tuple bt_tuple (a_cons (PF.d (f_lcV [("_law_line", 1)] rfl rfl nd (i_list (q_dg hr (q_var 0 rfl (Or.inl rfl)) (fun _ _ => rfl))) (blkOk_by (by kernel_rfl)) (fun s H A cl fp => (g_name 1 nd rfl (Or.inl rfl))) (fun s H A cl fp => (q_ty call_tuple_of cd_tuple h.b_tuple bt_tuple (a_cons (q_var 1 rfl (Or.inl rfl)) a_nil))))) a_nil)) a_nil)))))⟩
end TR

namespace TR
open PySem PySem.Spec PyProof.Rows L2
variable {P : Program} {w : World} {K : PySem.W.Frag} {mg : Str → Option Value} {base : Heap} {C : Nat → Addr}
def B_Ring_inverse : FS := (sSeq (sDrop (cO F_require_member (aC (vr 0) (aC (vr 1) aN)))) (sSeq (sAsg 2 (cO F_undone_member (aC (vr 0) (aC (vr 1) aN)))) (sSeq (sIf (tst (bO isD (vr 2) (cD .non))) sBad sNx) (sRet (vr 2)))))
def F_Ring_inverse : List D → Option D := runP 3 2 B_Ring_inverse
def N_Ring_inverse : List Str := ["self", "member", "found"]
theorem S_Ring_inverse : FnScope N_Ring_inverse ["self", "member"] (defScope (inClass (topS 56) 17)) := ⟨rfl, rfl, rfl, by decide +kernel, rfl, by decide +kernel, by decide +kernel⟩
theorem k_Ring_inverse (h : Tops P w K mg base C) : KnM P w K mg base C 0 "inverse" 7 (spP K C F_Ring_inverse) := by
  have nd := S_Ring_inverse.nd
  refine kn_M h.x_Ring_inverse S_Ring_inverse rfl rfl fun f cdv A outer s H E hr => ⟨_, (z_cons (s_expr (q_call (k_require_member h) (hr.mono (by decide)) (a_cons (q_var 0 rfl (Or.inl rfl)) (a_cons (q_var 1 rfl (Or.inl rfl)) a_nil))))
    (z_cons (s_set 2 nd rfl (Or.inl rfl) (q_call (k_undone_member h) (hr.mono (by decide)) (a_cons (q_var 0 rfl (Or.inl rfl)) (a_cons (q_var 1 rfl (Or.inl rfl)) a_nil))))
    (z_cons (s_if (t_is (q_var 2 rfl (Or.inl rfl)) q_non)
    z_bad
    z_nil)
    (z_one (s_ret (q_var 2 rfl (Or.inl rfl)))))))⟩
def B_full_places : FS := (sRet (frz (lc2E (itR1 (aC (vr 0) aN)) (gN 1) (itR1 (aC (vr 0) aN)) (gN 2) (ktE (aC (vr 1) (aC (vr 2) aN))) [1, 2] [2])))
def F_full_places : List D → Option D := runP 3 1 B_full_places
def N_full_places : List Str := ["side", "row", "column"]
theorem S_full_places : FnScope N_full_places ["side"] (defScope (topS 38)) := ⟨rfl, rfl, rfl, by decide +kernel, rfl, by decide +kernel, by decide +kernel⟩
theorem k_full_places (h : Tops P w K mg base C) : Kn P w K mg base "full_places" 1 ["side"] (spP K C F_full_places) := by
  have nd := S_full_places.nd
  refine kn_P h.x_full_places S_full_places rfl rfl fun f cdv A outer s H E hr => ⟨_, (z_one (s_ret (PF.d (f_lc2 [("row", 1), ("column", 2)] rfl rfl rfl nd (i_rng1 h.b_range (a_cons (q_var 0 rfl (Or.inr (Or.inl rfl))) a_nil)) (blkOk_by (by kernel_rfl)) (fun s H A cl fp => (g_name 1 nd rfl (Or.inl rfl))) (fun s H A cl fp => (i_rng1 h.b_range (a_cons (q_var 0 rfl (Or.inr (Or.inl rfl))) a_nil))) (fun s H A cl fp => (g_name 2 nd rfl (Or.inl rfl))) (fun s H A cl fp => (q_kt (a_cons (q_var 1 rfl (Or.inl rfl)) (a_cons (q_var 2 rfl (Or.inl rfl)) a_nil))))))))⟩
def B_places_table : FS := (sSeq (sPar 1 2 (xV (cO lenD (aC (vr 0) aN))) (xV (dctE (itE (aC (vr 0) aN)) (gT2 7 8) (vr 8) (vr 7) [7, 8]))) (sSeq (sOwn 3 (lenOk aN)) (sSeq (sFor (itL (vr 0)) (gT2 4 5) (sSeq (sAsg 6 (frz (lcE (itL (vr 0)) (gT2 9 10) yesB (ifE (tst (bO eqD (vr 9) (vr 5))) (cO F_single_row (aC (vr 1) (aC (dgT (vr 2) (aC (vr 4) (aC (vr 10) aN))) aN))) (cO F_zero_row (aC (vr 1) aN))) [9, 10]))) (sApp 3 (cO tupleD (aC (vr 6) aN))))) (frzS 3 (sRet (cO tupleD (aC (vr 3) aN)))))))
def F_places_table : List D → Option D := runP 11 1 B_places_table
def N_places_table : List Str := ["pairs", "size", "spots", "found", "row", "middle", "line", "at", "pair", "first", "last"]
theorem S_places_table : FnScope N_places_table ["pairs"] (defScope (topS 37)) := ⟨rfl, rfl, rfl, by decide +kernel, rfl, by decide +kernel, by decide +kernel⟩
theorem k_places_table (h : Tops P w K mg base C) : Kn P w K mg base "places_table" 2 ["pairs"] (spP K C F_places_table) := by
  have nd := S_places_table.nd
  refine kn_P h.x_places_table S_places_table rfl rfl fun f cdv A outer s H E hr => ⟨_, (z_cons (s_parC 1 2 (by decide) rfl nd rfl rfl (Or.inr rfl) (Or.inr rfl) (PD.x (q_bi call_len_seq cd_len h.b_len bt_len (a_cons (q_var 0 rfl (Or.inl rfl)) a_nil))) (PD.x (q_dct [("at", 7), ("pair", 8)] rfl hr rfl nd (i_enum h.b_enumerate (a_cons (q_var 0 rfl (Or.inl rfl)) a_nil)) (blkOk_by (by kernel_rfl)) (fun s H A cl fp => (g_tup2 rfl (g_name 7 nd rfl (Or.inl rfl)) (g_name 8 nd rfl (Or.inl rfl)))) (fun s H A cl fp => (q_var 8 rfl (Or.inl rfl))) (fun s H A cl fp => (q_var 7 rfl (Or.inl rfl))))))
    (z_cons (s_own 3 nd rfl (Or.inl rfl) (f_lst a_nil))
    (z_cons (s_for PassesOwn.never rfl (i_list (q_var 0 rfl (Or.inl rfl))) (g_tup2 rfl (g_name 4 nd rfl (Or.inr rfl)) (g_name 5 nd rfl (Or.inr rfl)))
    (z_cons (s_lcV 6 rfl rfl (lcV [("first", 9), ("last", 10)] rfl rfl nd (i_list (q_var 0 rfl (Or.inl rfl))) (blkOk_by (by kernel_rfl)) (fun s H A cl fp => (g_tup2 rfl (g_name 9 nd rfl (Or.inl rfl)) (g_name 10 nd rfl (Or.inl rfl)))) (fun s H A cl fp => (q_if (t_eq hr (q_var 9 rfl (Or.inl rfl)) (q_var 5 rfl (Or.inr (Or.inl rfl)))) (q_call (k_single_row h) (hr.mono (by decide)) (a_cons (q_var 1 rfl (Or.inr (Or.inl rfl))) (a_cons (q_dgT hr (q_var 2 rfl (Or.inr (Or.inl rfl))) (a_cons (q_var 4 rfl (Or.inr (Or.inl rfl))) (a_cons (q_var 10 rfl (Or.inl rfl)) a_nil))) a_nil))) (q_call (k_zero_row h) (hr.mono (by decide)) (a_cons (q_var 1 rfl (Or.inr (Or.inl rfl))) a_nil))))) (sw_true rfl rfl rfl rfl))
    (z_one (s_app 3 rfl (Or.inl rfl) (q_ty call_tuple_of cd_tuple h.b_tuple bt_tuple (a_cons (q_var 6 rfl (Or.inl rfl)) a_nil))))))
    (z_frz 3 (z_one (s_ret (q_ty call_tuple_of cd_tuple h.b_tuple bt_tuple (a_cons (q_var 3 rfl (Or.inl rfl)) a_nil))))))))⟩
def B_Ring_full : List SV → Option D := (cDrop (cO F_require_prime (aC (vr 1) aN)) (cDrop (cO F_require_within (aC (vr 2) (aC (cD (.int 1)) (aC (cD (.int 3)) aN)))) (cRet 0 F_Ring_init (aC (vr 1) (aC (cO (fun ds => (F_KeptProducts_init ds).map (.obj 1)) (aC (cO F_places_table (aC (cO F_full_places (aC (vr 2) aN)) aN)) aN)) aN)))))
def F_Ring_full : List D → Option D := runC 3 3 B_Ring_full
def N_Ring_full : List Str := ["cls", "prime", "side"]
theorem S_Ring_full : FnScope N_Ring_full ["cls", "prime", "side"] (defScope (inClass (topS 56) 2)) := ⟨rfl, rfl, rfl, by decide +kernel, rfl, by decide +kernel, by decide +kernel⟩
theorem k_Ring_full (h : Tops P w K mg base C) : KnC P w K mg base C 0 "full" 11 (spC K C 0 F_Ring_full) := by
  obtain ⟨v_MAX_SIDE, u_MAX_SIDE, m_MAX_SIDE, r_MAX_SIDE, d_MAX_SIDE⟩ := h.g_MAX_SIDE
  have nd := S_Ring_full.nd
  refine kn_C h.x_Ring_full S_Ring_full rfl rfl fun f cdv A outer s H E hr => ⟨_, (x_drop (q_call (k_require_prime h) (hr.mono (by decide)) (a_cons (q_var 1 rfl (Or.inl rfl)) a_nil))
    (x_drop (q_call (k_require_within h) (hr.mono (by decide)) (a_cons (q_var 2 rfl (Or.inl rfl)) (a_cons q_int (a_cons (q_glob m_MAX_SIDE r_MAX_SIDE d_MAX_SIDE) a_nil))))
    (x_ret (k_Ring_init h) (hr.mono (by decide)) rfl (Or.inl rfl) (a_cons (q_var 1 rfl (Or.inl rfl)) (a_cons (q_make (k_KeptProducts_init h) (hr.mono (by decide)) h.m_KeptProducts (a_cons (q_call (k_places_table h) (hr.mono (by decide)) (a_cons (q_call (k_full_places h) (hr.mono (by decide)) (a_cons (q_var 2 rfl (Or.inl rfl)) a_nil)) a_nil)) a_nil)) a_nil)))))⟩
def B_Ring_of_poly : List SV → Option D := (cDrop (cO F_require_prime (aC (vr 1) aN)) (cIf (notB (tst (cO F_is_monic_in (aC (vr 1) (aC (vr 2) aN))))) (cRet 0 F_Ring_init (aC (vr 1) (aC (cO (fun ds => (F_KeptProducts_init ds).map (.obj 1)) (aC (cO F_poly_products (aC (vr 1) (aC (vr 2) aN))) aN)) aN)))))
def F_Ring_of_poly : List D → Option D := runC 3 3 B_Ring_of_poly
def N_Ring_of_poly : List Str := ["cls", "prime", "poly"]
theorem S_Ring_of_poly : FnScope N_Ring_of_poly ["cls", "prime", "poly"] (defScope (inClass (topS 56) 5)) := ⟨rfl, rfl, rfl, by decide +kernel, rfl, by decide +kernel, by decide +kernel⟩
theorem k_Ring_of_poly (h : Tops P w K mg base C) : KnC P w K mg base C 0 "of_poly" 11 (spC K C 0 F_Ring_of_poly) := by
  have nd := S_Ring_of_poly.nd
  refine kn_C h.x_Ring_of_poly S_Ring_of_poly rfl rfl fun f cdv A outer s H E hr => ⟨_, (x_drop (q_call (k_require_prime h) (hr.mono (by decide)) (a_cons (q_var 1 rfl (Or.inl rfl)) a_nil))
    (x_if (t_not (t_val (q_call (k_is_monic_in h) (hr.mono (by decide)) (a_cons (q_var 1 rfl (Or.inl rfl)) (a_cons (q_var 2 rfl (Or.inl rfl)) a_nil)))))
    (x_ret (k_Ring_init h) (hr.mono (by decide)) rfl (Or.inl rfl) (a_cons (q_var 1 rfl (Or.inl rfl)) (a_cons (q_make (k_KeptProducts_init h) (hr.mono (by decide)) h.m_KeptProducts (a_cons (q_call (k_poly_products h) (hr.mono (by decide)) (a_cons (q_var 1 rfl (Or.inl rfl)) (a_cons (q_var 2 rfl (Or.inl rfl)) a_nil))) a_nil)) a_nil)))))⟩
def F_law_told_inverse : List D → Option D
  | [.obj 0 fs, m] => (F_require_member [.obj 0 fs, m]).bind fun _ => (F_undone_member [.obj 0 fs, m]).map fun d => match d with
    | .non => .lst [.str "refused", .tup [.str "no unit"]]
    | d => d
  | _ => none
structure Mids (P : Program) (w : World) (K : PySem.W.Frag) (mg : Str → Option Value) (base : Heap) (C : Nat → Addr) : Prop where
  k_told : Kn P w K mg base "_law_told_inverse" 9 ["_law_made_here", "_law_member_here"] (spP K C F_law_told_inverse)
end TR

namespace TR
open PySem PySem.Spec PyProof.Rows L2
variable {P : Program} {w : World} {K : PySem.W.Frag} {mg : Str → Option Value} {base : Heap} {C : Nat → Addr}
def B_law_units_right : FS := (sSeq (sAsg 3 (cO F_law_undoing (aC (vr 0) (aC (vr 2) aN)))) (sSeq (sIf (tst (bO neD (mO 0 F_Ring_is_unit (vr 1) (aC (vr 2) aN)) (bO isntD (vr 3) (cD .non)))) (sRet (cD (.bl false))) sNx) (sSeq (sIf (tst (bO neD (cO F_law_told_inverse (aC (vr 1) (aC (vr 2) aN))) (ifE (tst (bO isD (vr 3) (cD .non))) (frz (lenOk (aC (cD (.str "refused")) (aC (tupE (lenOk (aC (cD (.str "no unit")) aN))) aN)))) (vr 3)))) (sRet (cD (.bl false))) sNx) (sSeq (sAsg 4 (frz (lcE (itL (frz (cF F_law_unit (aC (dgE "n" (vr 0)) aN)))) (gN 5) yesB (cO F_law_times (aC (vr 0) (aC (vr 5) (aC (vr 2) aN)))) [5]))) (sSeq (sIf (andB (tst (bO eqD (cO lenD (aC (cO F_law_reduced (aC (dgE "p" (vr 0)) (aC (vr 4) aN))) aN)) (dgE "n" (vr 0)))) (tst (bO isD (vr 3) (cD .non)))) (sRet (cD (.bl false))) sNx) (sRet (orE (bO isD (vr 3) (cD .non)) (chE eqD eqD (cO F_law_times (aC (vr 0) (aC (vr 3) (aC (vr 2) aN)))) (cO F_law_one_of_ring (aC (vr 0) aN)) (cO F_law_times (aC (vr 0) (aC (vr 2) (aC (vr 3) aN))))))))))))
def F_law_units_right : List D → Option D := runP 6 3 B_law_units_right
def N_law_units_right : List Str := ["_law_ring_here", "_law_made_here", "_law_member_here", "_law_due", "_law_right_here", "_law_row"]
theorem S_law_units_right : FnScope N_law_units_right ["_law_ring_here", "_law_made_here", "_law_member_here"] (defScope (topS 92)) := ⟨rfl, rfl, rfl, by decide +kernel, rfl, by decide +kernel, by decide +kernel⟩
theorem k_law_units_right (h : Tops P w K mg base C) (hm : Mids P w K mg base C) : Kn P w K mg base "_law_units_right" 10 ["_law_ring_here", "_law_made_here", "_law_member_here"] (spP K C F_law_units_right) := by
  have nd := S_law_units_right.nd
  refine kn_P h.x_law_units_right S_law_units_right rfl rfl fun f cdv A outer s H E hr => ⟨_, (z_cons (s_set 3 nd rfl (Or.inl rfl) (q_call (k_law_undoing h) (hr.mono (by decide)) (a_cons (q_var 0 rfl (Or.inr (Or.inl rfl))) (a_cons (q_var 2 rfl (Or.inr (Or.inl rfl))) a_nil))))
    (z_cons (s_if (t_ne hr (q_meth (k_Ring_is_unit h) (hr.mono (by decide)) (q_var 1 rfl (Or.inl rfl)) (a_cons (q_var 2 rfl (Or.inr (Or.inl rfl))) a_nil)) (q_isnt (q_var 3 rfl (Or.inl rfl)) q_non))
    (z_one (s_ret q_bl))
    z_nil)
    (z_cons (s_if (t_ne hr (q_call hm.k_told (hr.mono (by decide)) (a_cons (q_var 1 rfl (Or.inl rfl)) (a_cons (q_var 2 rfl (Or.inr (Or.inl rfl))) a_nil))) (q_if (t_is (q_var 3 rfl (Or.inl rfl)) q_non) (PF.d (f_lst (a_cons q_str (a_cons (q_tup (a_cons q_str a_nil)) a_nil)))) (q_var 3 rfl (Or.inl rfl))))
    (z_one (s_ret q_bl))
    z_nil)
    (z_cons (s_lcV 4 rfl rfl (lcV [("_law_row", 5)] rfl rfl nd (i_list (PF.d (f_call (k_law_unit h) (hr.mono (by decide)) (a_cons (q_dg hr (q_var 0 rfl (Or.inr (Or.inl rfl))) (fun _ _ => rfl)) a_nil)))) (blkOk_by (by kernel_rfl)) (fun s H A cl fp => (g_name 5 nd rfl (Or.inl rfl))) (fun s H A cl fp => (q_call (k_law_times h) (hr.mono (by decide)) (a_cons (q_var 0 rfl (Or.inr (Or.inl rfl))) (a_cons (q_var 5 rfl (Or.inl rfl)) (a_cons (q_var 2 rfl (Or.inr (Or.inl rfl))) a_nil)))))) (sw_true rfl rfl rfl rfl))
    (z_cons (s_if (PWD.t (w_and (t_eq hr (q_bi call_len_seq cd_len h.b_len bt_len (a_cons (q_call (k_law_reduced h) (hr.mono (by decide)) (a_cons (q_dg hr (q_var 0 rfl (Or.inr (Or.inl rfl))) (fun _ _ => rfl)) (a_cons (q_var 4 rfl (Or.inl rfl)) a_nil))) a_nil)) (q_dg hr (q_var 0 rfl (Or.inr (Or.inl rfl))) (fun _ _ => rfl))) (w_and1 (t_is (q_var 3 rfl (Or.inl rfl)) q_non))))
    (z_one (s_ret q_bl))
    z_nil)
    (z_one (s_ret (q_or (q_is (q_var 3 rfl (Or.inl rfl)) q_non) (q_one (q_chain (op_eqD hr.units) rd_eq (op_eqD hr.units) rd_eq (q_call (k_law_times h) (hr.mono (by decide)) (a_cons (q_var 0 rfl (Or.inr (Or.inl rfl))) (a_cons (q_var 3 rfl (Or.inl rfl)) (a_cons (q_var 2 rfl (Or.inr (Or.inl rfl))) a_nil)))) (q_call (k_law_one_of_ring h) (hr.mono (by decide)) (a_cons (q_var 0 rfl (Or.inr (Or.inl rfl))) a_nil)) (q_call (k_law_times h) (hr.mono (by decide)) (a_cons (q_var 0 rfl (Or.inr (Or.inl rfl))) (a_cons (q_var 2 rfl (Or.inr (Or.inl rfl))) (a_cons (q_var 3 rfl (Or.inl rfl)) a_nil))))))))))))))⟩
def B_law_right : FS := (sSeq (sAsg 1 (tcE 0 F_law_drawn_ring (aC (cD (.int 4)) aN))) (sSeq (sPar 2 3 (xV (cO F_law_made (aC (vr 1) aN))) (xV (dgE "p" (vr 1)))) (sSeq (sUl3 4 5 6 (frz (lcE (itR1 (aC (cD (.int 3)) aN)) (gN 11) yesB (tcE 0 F_law_member (aC (vr 1) aN)) [11]))) (sSeq (sIf (orB (tst (bO neD (mO 0 F_Ring_product (vr 2) (aC (vr 4) (aC (vr 5) aN))) (cO F_law_times (aC (vr 1) (aC (vr 4) (aC (vr 5) aN)))))) (tst (bO neD (mO 0 F_Ring_added (vr 2) (aC (vr 4) (aC (vr 5) aN))) (cO F_law_plus (aC (vr 3) (aC (vr 4) (aC (vr 5) (aC (cD (.int 1)) aN)))))))) (sRet (cD (.bl false))) sNx) (sSeq (sIf (tst (bO neD (mO 0 F_Ring_product (vr 2) (aC (vr 4) (aC (mO 0 F_Ring_added (vr 2) (aC (vr 5) (aC (vr 6) aN))) aN))) (mO 0 F_Ring_added (vr 2) (aC (mO 0 F_Ring_product (vr 2) (aC (vr 4) (aC (vr 5) aN))) (aC (mO 0 F_Ring_product (vr 2) (aC (vr 4) (aC (vr 6) aN))) aN))))) (sRet (cD (.bl false))) sNx) (sSeq (sIf (tst (bO neD (mO 0 F_Ring_product (vr 2) (aC (mO 0 F_Ring_product (vr 2) (aC (vr 4) (aC (vr 5) aN))) (aC (vr 6) aN))) (mO 0 F_Ring_product (vr 2) (aC (vr 4) (aC (mO 0 F_Ring_product (vr 2) (aC (vr 5) (aC (vr 6) aN))) aN))))) (sRet (cD (.bl false))) sNx) (sSeq (sAsg 7 (bO addD (tcE 0 F_law_choice (aC (frz (lenOk (aC (cD (.int 0)) (aC (uO negD (cD (.int 1))) (aC (cD (.int 5)) (aC (uO negD (bO powD (cD (.int 10)) (cD (.int 59)))) (aC (bO addD (bO powD (cD (.int 10)) (cD (.int 59))) (cD (.int 7))) aN))))))) aN)) (tcE 0 F_law_drop (aC (cD (.int 9)) aN)))) (sSeq (sIf (tst (bO neD (mO 0 F_Ring_times (vr 2) (aC (vr 7) (aC (vr 4) aN))) (cO F_law_plus (aC (vr 3) (aC (bO mulD (tupE (lenOk (aC (cD (.int 0)) aN))) (dgE "n" (vr 1))) (aC (vr 4) (aC (bO modD (vr 7) (vr 3)) aN))))))) (sRet (cD (.bl false))) sNx) (sSeq (sAsg 8 (bO addD (tcE 0 F_law_choice (aC (frz (lenOk (aC (cD (.int 0)) (aC (cD (.int 1)) (aC (cD (.int 2)) (aC (cD (.int 3)) (aC (bO powD (cD (.int 10)) (cD (.int 6))) aN))))))) aN)) (tcE 0 F_law_drop (aC (cD (.int 5)) aN)))) (sSeq (sIf (orB (tst (bO neD (mO 0 F_Ring_power (vr 2) (aC (vr 4) (aC (vr 8) aN))) (cO F_law_great_power (aC (vr 1) (aC (vr 4) (aC (vr 8) aN)))))) (tst (bO neD (mO 0 F_Ring_power (vr 2) (aC (vr 4) (aC (cD (.int 0)) aN))) (mO 0 F_Ring_one (vr 2) aN)))) (sRet (cD (.bl false))) sNx) (sSeq (sIf (tst (bO neD (mO 0 F_Ring_product (vr 2) (aC (mO 0 F_Ring_power (vr 2) (aC (vr 4) (aC (vr 8) aN))) (aC (vr 4) aN))) (mO 0 F_Ring_power (vr 2) (aC (vr 4) (aC (bO addD (vr 8) (cD (.int 1))) aN))))) (sRet (cD (.bl false))) sNx) (sSeq (sFor (itT (tupE (lenOk (aC (vr 4) (aC (vr 5) (aC (mO 0 F_Ring_one (vr 2) aN) (aC (bO mulD (tupE (lenOk (aC (cD (.int 0)) aN))) (dgE "n" (vr 1))) aN))))))) (gN 9) (sIf (notB (tst (cO F_law_units_right (aC (vr 1) (aC (vr 2) (aC (vr 9) aN)))))) (sRet (cD (.bl false))) sNx)) (sSeq (sAsg 10 (frz (lenOk (aC (cD .non) (aC (cO listD (aC (vr 4) aN)) (aC (bO addD (vr 4) (tupE (lenOk (aC (cD (.int 0)) aN)))) (aC (slE (vr 4) oN (oS (uO negD (cD (.int 1))))) (aC (bO mulD (tupE (lenOk (aC (vr 3) aN))) (dgE "n" (vr 1))) (aC (bO addD (tupE (lenOk (aC (cD (.bl true)) aN))) (bO mulD (tupE (lenOk (aC (cD (.bl false)) aN))) (bO subD (dgE "n" (vr 1)) (cD (.int 1))))) (aC (cD (.str "1")) (aC (cD (.int 1)) (aC (tupE (lenOk aN)) aN)))))))))))) (sRet (bO eqD (frz (lcE (itL (vr 10)) (gN 12) (tst (mO 0 F_Ring_is_unit (vr 2) (aC (vr 12) aN))) (vr 12) [12])) (frz (lenOk aN)))))))))))))))))
def F_law_right : List D → List D → Option (D × List D) := runT 13 1 B_law_right
def N_law_right : List Str := ["_law_tank_here", "_law_ring_here", "_law_made_here", "_law_p", "_law_one", "_law_other", "_law_third", "_law_number", "_law_great", "_law_member_here", "_law_odd", "_law_turn", "_law_value"]
theorem S_law_right : FnScope N_law_right ["_law_tank_here"] (defScope (topS 93)) := ⟨rfl, rfl, rfl, by decide +kernel, rfl, by decide +kernel, by decide +kernel⟩
theorem k_law_right (h : Tops P w K mg base C) (hm : Mids P w K mg base C) : Kn P w K mg base "_law_right" 12 ["_law_tank_here"] (spT K C F_law_right) := by
  have nd := S_law_right.nd
  refine kn_T h.x_law_right S_law_right rfl rfl fun f cdv A outer s H E hr => ⟨_, (z_cons (s_set 1 nd rfl (Or.inr rfl) (q_callT (k_law_drawn_ring h) (hr.mono (by decide)) rfl (Or.inr (Or.inl rfl)) (a_cons q_int a_nil)))
    (z_cons (s_parC 2 3 (by decide) rfl nd rfl rfl (Or.inr rfl) (Or.inl rfl) (PD.x (q_call (k_law_made h) (hr.mono (by decide)) (a_cons (q_var 1 rfl (Or.inr (Or.inl rfl))) a_nil))) (PD.x (q_dg hr (q_var 1 rfl (Or.inr (Or.inl rfl))) (fun _ _ => rfl))))
    (z_cons (s_ul3 4 5 6 rfl nd rfl rfl rfl (Or.inl rfl) (Or.inl rfl) (Or.inl rfl) (PF.d (f_lcV [("_law_turn", 11)] rfl rfl nd (i_rng1 h.b_range (a_cons q_int a_nil)) (blkOk_by (by kernel_rfl)) (fun s H A cl fp => (g_name 11 nd rfl (Or.inl rfl))) (fun s H A cl fp => (q_callT (k_law_member h) (hr.mono (by decide)) rfl (Or.inr (Or.inl rfl)) (a_cons (q_var 1 rfl (Or.inr (Or.inl rfl))) a_nil))))))
    (z_cons (s_if (PWD.t (w_or (t_ne hr (q_meth (k_Ring_product h) (hr.mono (by decide)) (q_var 2 rfl (Or.inr (Or.inl rfl))) (a_cons (q_var 4 rfl (Or.inl rfl)) (a_cons (q_var 5 rfl (Or.inl rfl)) a_nil))) (q_call (k_law_times h) (hr.mono (by decide)) (a_cons (q_var 1 rfl (Or.inr (Or.inl rfl))) (a_cons (q_var 4 rfl (Or.inl rfl)) (a_cons (q_var 5 rfl (Or.inl rfl)) a_nil))))) (w_or1 (t_ne hr (q_meth (k_Ring_added h) (hr.mono (by decide)) (q_var 2 rfl (Or.inr (Or.inl rfl))) (a_cons (q_var 4 rfl (Or.inl rfl)) (a_cons (q_var 5 rfl (Or.inl rfl)) a_nil))) (q_call (k_law_plus h) (hr.mono (by decide)) (a_cons (q_var 3 rfl (Or.inl rfl)) (a_cons (q_var 4 rfl (Or.inl rfl)) (a_cons (q_var 5 rfl (Or.inl rfl)) (a_cons q_int a_nil)))))))))
    (z_one (s_ret q_bl))
    z_nil)
    (z_cons (s_if (t_ne hr (q_meth (k_Ring_product h) (hr.mono (by decide)) (q_var 2 rfl (Or.inr (Or.inl rfl))) (a_cons (q_var 4 rfl (Or.inl rfl)) (a_cons (q_meth (k_Ring_added h) (hr.mono (by decide)) (q_var 2 rfl (Or.inr (Or.inl rfl))) (a_cons (q_var 5 rfl (Or.inl rfl)) (a_cons (q_var 6 rfl (Or.inl rfl)) a_nil))) a_nil))) (q_meth (k_Ring_added h) (hr.mono (by decide)) (q_var 2 rfl (Or.inr (Or.inl rfl))) (a_cons (q_meth (k_Ring_product h) (hr.mono (by decide)) (q_var 2 rfl (Or.inr (Or.inl rfl))) (a_cons (q_var 4 rfl (Or.inl rfl)) (a_cons (q_var 5 rfl (Or.inl rfl)) a_nil))) (a_cons (q_meth (k_Ring_product h) (hr.mono (by decide)) (q_var 2 rfl (Or.inr (Or.inl rfl))) (a_cons (q_var 4 rfl (Or.inl rfl)) (a_cons (q_var 6 rfl (Or.inl rfl)) a_nil))) a_nil))))
    (z_one (s_ret q_bl))
    z_nil)
    (z_cons (s_if (t_ne hr (q_meth (k_Ring_product h) (hr.mono (by decide)) (q_var 2 rfl (Or.inr (Or.inl rfl))) (a_cons (q_meth (k_Ring_product h) (hr.mono (by decide)) (q_var 2 rfl (Or.inr (Or.inl rfl))) (a_cons (q_var 4 rfl (Or.inl rfl)) (a_cons (q_var 5 rfl (Or.inl rfl)) a_nil))) (a_cons (q_var 6 rfl (Or.inl rfl)) a_nil))) (q_meth (k_Ring_product h) (hr.mono (by decide)) (q_var 2 rfl (Or.inr (Or.inl rfl))) (a_cons (q_var 4 rfl (Or.inl rfl)) (a_cons (q_meth (k_Ring_product h) (hr.mono (by decide)) (q_var 2 rfl (Or.inr (Or.inl rfl))) (a_cons (q_var 5 rfl (Or.inl rfl)) (a_cons (q_var 6 rfl (Or.inl rfl)) a_nil))) a_nil))))
    (z_one (s_ret q_bl))
    z_nil)
    (z_cons (s_set 7 nd rfl (Or.inl rfl) (q_add (q_callT (k_law_choice h) (hr.mono (by decide)) rfl (Or.inr (Or.inl rfl)) (a_cons (PF.d (f_lst (a_cons q_int (a_cons (q_neg q_int) (a_cons q_int (a_cons (q_neg (q_pow q_int q_int)) (a_cons (q_add (q_pow q_int q_int) q_int) a_nil))))))) a_nil)) (q_callT (k_law_drop h) (hr.mono (by decide)) rfl (Or.inr (Or.inl rfl)) (a_cons q_int a_nil))))
    (z_cons (s_if (t_ne hr (q_meth (k_Ring_times h) (hr.mono (by decide)) (q_var 2 rfl (Or.inr (Or.inl rfl))) (a_cons (q_var 7 rfl (Or.inl rfl)) (a_cons (q_var 4 rfl (Or.inl rfl)) a_nil))) (q_call (k_law_plus h) (hr.mono (by decide)) (a_cons (q_var 3 rfl (Or.inl rfl)) (a_cons (q_mul (q_tup (a_cons q_int a_nil)) (q_dg hr (q_var 1 rfl (Or.inr (Or.inl rfl))) (fun _ _ => rfl))) (a_cons (q_var 4 rfl (Or.inl rfl)) (a_cons (q_mod (q_var 7 rfl (Or.inl rfl)) (q_var 3 rfl (Or.inl rfl))) a_nil))))))
    (z_one (s_ret q_bl))
    z_nil)
    (z_cons (s_set 8 nd rfl (Or.inl rfl) (q_add (q_callT (k_law_choice h) (hr.mono (by decide)) rfl (Or.inr (Or.inl rfl)) (a_cons (PF.d (f_lst (a_cons q_int (a_cons q_int (a_cons q_int (a_cons q_int (a_cons (q_pow q_int q_int) a_nil))))))) a_nil)) (q_callT (k_law_drop h) (hr.mono (by decide)) rfl (Or.inr (Or.inl rfl)) (a_cons q_int a_nil))))
    (z_cons (s_if (PWD.t (w_or (t_ne hr (q_meth (k_Ring_power h) (hr.mono (by decide)) (q_var 2 rfl (Or.inr (Or.inl rfl))) (a_cons (q_var 4 rfl (Or.inl rfl)) (a_cons (q_var 8 rfl (Or.inl rfl)) a_nil))) (q_call (k_law_great_power h) (hr.mono (by decide)) (a_cons (q_var 1 rfl (Or.inr (Or.inl rfl))) (a_cons (q_var 4 rfl (Or.inl rfl)) (a_cons (q_var 8 rfl (Or.inl rfl)) a_nil))))) (w_or1 (t_ne hr (q_meth (k_Ring_power h) (hr.mono (by decide)) (q_var 2 rfl (Or.inr (Or.inl rfl))) (a_cons (q_var 4 rfl (Or.inl rfl)) (a_cons q_int a_nil))) (q_prop (k_Ring_one h) (hr.mono (by decide)) (q_var 2 rfl (Or.inr (Or.inl rfl))))))))
    (z_one (s_ret q_bl))
    z_nil)
    (z_cons (s_if (t_ne hr (q_meth (k_Ring_product h) (hr.mono (by decide)) (q_var 2 rfl (Or.inr (Or.inl rfl))) (a_cons (q_meth (k_Ring_power h) (hr.mono (by decide)) (q_var 2 rfl (Or.inr (Or.inl rfl))) (a_cons (q_var 4 rfl (Or.inl rfl)) (a_cons (q_var 8 rfl (Or.inl rfl)) a_nil))) (a_cons (q_var 4 rfl (Or.inl rfl)) a_nil))) (q_meth (k_Ring_power h) (hr.mono (by decide)) (q_var 2 rfl (Or.inr (Or.inl rfl))) (a_cons (q_var 4 rfl (Or.inl rfl)) (a_cons (q_add (q_var 8 rfl (Or.inl rfl)) q_int) a_nil))))
    (z_one (s_ret q_bl))
    z_nil)
    (z_cons (s_for PassesOwn.never rfl (i_tup (q_tup (a_cons (q_var 4 rfl (Or.inl rfl)) (a_cons (q_var 5 rfl (Or.inl rfl)) (a_cons (q_prop (k_Ring_one h) (hr.mono (by decide)) (q_var 2 rfl (Or.inr (Or.inl rfl)))) (a_cons (q_mul (q_tup (a_cons q_int a_nil)) (q_dg hr (q_var 1 rfl (Or.inr (Or.inl rfl))) (fun _ _ => rfl))) a_nil)))))) (g_name 9 nd rfl (Or.inl rfl))
    (z_one (s_if (t_not (t_val (q_call (k_law_units_right h hm) (hr.mono (by decide)) (a_cons (q_var 1 rfl (Or.inr (Or.inl rfl))) (a_cons (q_var 2 rfl (Or.inr (Or.inl rfl))) (a_cons (q_var 9 rfl (Or.inl rfl)) a_nil))))))
    (z_one (s_ret q_bl))
    z_nil)))
    (z_cons (s_set 10 nd rfl (Or.inl rfl) (PF.d (f_lst (a_cons q_non (a_cons (q_ty call_list_of cd_list h.b_list bt_list (a_cons (q_var 4 rfl (Or.inl rfl)) a_nil)) (a_cons (q_add (q_var 4 rfl (Or.inl rfl)) (q_tup (a_cons q_int a_nil))) (a_cons (q_slice (q_var 4 rfl (Or.inl rfl)) o_none (o_some (q_neg q_int))) (a_cons (q_mul (q_tup (a_cons (q_var 3 rfl (Or.inl rfl)) a_nil)) (q_dg hr (q_var 1 rfl (Or.inr (Or.inl rfl))) (fun _ _ => rfl))) (a_cons (q_add (q_tup (a_cons q_bl a_nil)) (q_mul (q_tup (a_cons q_bl a_nil)) (q_sub (q_dg hr (q_var 1 rfl (Or.inr (Or.inl rfl))) (fun _ _ => rfl)) q_int))) (a_cons q_str (a_cons q_int (a_cons (q_tup a_nil) a_nil))))))))))))
    (z_one (s_ret (q_eq hr (PF.d (f_lcU [("_law_value", 12)] rfl rfl nd (i_list (q_var 10 rfl (Or.inl rfl))) (blkOk_by (by kernel_rfl)) (fun s H A cl fp => (g_name 12 nd rfl (Or.inl rfl))) (fun s H A cl fp => (t_val (q_meth (k_Ring_is_unit h) (hr.mono (by decide)) (q_var 2 rfl (Or.inr (Or.inl rfl))) (a_cons (q_var 12 rfl (Or.inl rfl)) a_nil)))) (fun s H A cl fp => (q_var 12 rfl (Or.inl rfl))))) (PF.d (f_lst a_nil))))))))))))))))))⟩
def B_law : FS := (sSeq (sFor (itR1 (aC (cO maxD2 (aC (cD (.int 1)) (aC (cO minD2 (aC (cD (.int 2)) (aC (cO lenD (aC (vr 0) aN)) aN))) aN))) aN)) (gN 1) (sTwo 2 (cF F_law_tank (aC (vr 0) (aC (vr 1) aN))) F_law_right)) (sSeq (sPar 3 4 (xV (cO F_Ring_full (aC (cD (.int 2)) (aC (cD (.int 2)) aN)))) (xV (cO F_Ring_of_poly (aC (cD (.int 3)) (aC (tupE (lenOk (aC (cD (.int 1)) (aC (cD (.int 0)) (aC (cD (.int 1)) aN))))) aN))))) (sSeq (sIf (tst (bO neD (frz (lenOk (aC (mO 0 F_Ring_product (vr 3) (aC (tupE (lenOk (aC (cD (.int 0)) (aC (cD (.int 1)) (aC (cD (.int 0)) (aC (cD (.int 0)) aN)))))) (aC (tupE (lenOk (aC (cD (.int 0)) (aC (cD (.int 0)) (aC (cD (.int 1)) (aC (cD (.int 0)) aN)))))) aN))) (aC (mO 0 F_Ring_inverse (vr 4) (aC (tupE (lenOk (aC (cD (.int 1)) (aC (cD (.int 1)) aN)))) aN)) (aC (mO 0 F_Ring_power (vr 4) (aC (tupE (lenOk (aC (cD (.int 0)) (aC (cD (.int 1)) aN)))) (aC (cD (.int 3)) aN))) aN))))) (frz (lenOk (aC (tupE (lenOk (aC (cD (.int 1)) (aC (cD (.int 0)) (aC (cD (.int 0)) (aC (cD (.int 0)) aN)))))) (aC (tupE (lenOk (aC (cD (.int 2)) (aC (cD (.int 1)) aN)))) (aC (tupE (lenOk (aC (cD (.int 0)) (aC (cD (.int 2)) aN)))) aN))))))) (sRet (cD (.bl false))) sNx) (sRet (andE (mO 0 F_Ring_is_unit (vr 3) (aC (tupE (lenOk (aC (cD (.int 1)) (aC (cD (.int 1)) (aC (cD (.int 0)) (aC (cD (.int 1)) aN)))))) aN)) (andE (notE (mO 0 F_Ring_is_unit (vr 3) (aC (tupE (lenOk (aC (cD (.int 1)) (aC (cD (.int 1)) (aC (cD (.int 1)) (aC (cD (.int 1)) aN)))))) aN))) (bO eqD (mO 0 F_Ring_times (vr 3) (aC (uO negD (cD (.int 3))) (aC (tupE (lenOk (aC (cD (.int 1)) (aC (cD (.int 0)) (aC (cD (.int 0)) (aC (cD (.int 1)) aN)))))) aN))) (tupE (lenOk (aC (cD (.int 1)) (aC (cD (.int 0)) (aC (cD (.int 0)) (aC (cD (.int 1)) aN)))))))))))))
def F_law : List D → Option D := runP 5 1 B_law
def N_law : List Str := ["_law_script", "_law_spot", "_law_tank_here", "_law_full", "_law_poly"]
theorem S_law : FnScope N_law ["_law_script"] (defScope (topS 94)) := ⟨rfl, rfl, rfl, by decide +kernel, rfl, by decide +kernel, by decide +kernel⟩
theorem bd_law (h : Tops P w K mg base C) (hm : Mids P w K mg base C) : Bd P w K mg base C N_law "law" (topS 94) 12 B_law := by
  have nd := S_law.nd
  refine fun f cdv A outer s H E hr => ⟨_, (z_cons (s_for PassesOwn.never rfl (i_rng1 h.b_range (a_cons (q_bi (call_max2 rfl) cd_max2 h.b_max bt_max (a_cons q_int (a_cons (q_bi (call_min2 rfl) cd_min2 h.b_min bt_min (a_cons q_int (a_cons (q_bi call_len_seq cd_len h.b_len bt_len (a_cons (q_var 0 rfl (Or.inl rfl)) a_nil)) a_nil))) a_nil))) a_nil)) (g_name 1 nd rfl (Or.inl rfl))
    (z_two 2 nd rfl rfl (f_call (k_law_tank h) (hr.mono (by decide)) (a_cons (q_var 0 rfl (Or.inl rfl)) (a_cons (q_var 1 rfl (Or.inl rfl)) a_nil))) (k_law_right h hm) (hr.mono (by decide))))
    (z_cons (s_par 3 4 (by decide) rfl nd rfl rfl rfl rfl (PD.x (q_cmeth (k_Ring_full h) (hr.mono (by decide)) h.m_Ring (a_cons q_int (a_cons q_int a_nil)))) (PD.x (q_cmeth (k_Ring_of_poly h) (hr.mono (by decide)) h.m_Ring (a_cons q_int (a_cons (q_tup (a_cons q_int (a_cons q_int (a_cons q_int a_nil)))) a_nil)))))
    (z_cons (s_if (t_ne hr (PF.d (f_lst (a_cons (q_meth (k_Ring_product h) (hr.mono (by decide)) (q_var 3 rfl (Or.inl rfl)) (a_cons (q_tup (a_cons q_int (a_cons q_int (a_cons q_int (a_cons q_int a_nil))))) (a_cons (q_tup (a_cons q_int (a_cons q_int (a_cons q_int (a_cons q_int a_nil))))) a_nil))) (a_cons (q_meth (k_Ring_inverse h) (hr.mono (by decide)) (q_var 4 rfl (Or.inl rfl)) (a_cons (q_tup (a_cons q_int (a_cons q_int a_nil))) a_nil)) (a_cons (q_meth (k_Ring_power h) (hr.mono (by decide)) (q_var 4 rfl (Or.inl rfl)) (a_cons (q_tup (a_cons q_int (a_cons q_int a_nil))) (a_cons q_int a_nil))) a_nil))))) (PF.d (f_lst (a_cons (q_tup (a_cons q_int (a_cons q_int (a_cons q_int (a_cons q_int a_nil))))) (a_cons (q_tup (a_cons q_int (a_cons q_int a_nil))) (a_cons (q_tup (a_cons q_int (a_cons q_int a_nil))) a_nil))))))
    (z_one (s_ret q_bl))
    z_nil)
    (z_one (s_ret (q_and (q_meth (k_Ring_is_unit h) (hr.mono (by decide)) (q_var 3 rfl (Or.inl rfl)) (a_cons (q_tup (a_cons q_int (a_cons q_int (a_cons q_int (a_cons q_int a_nil))))) a_nil)) (q_and (q_not (q_meth (k_Ring_is_unit h) (hr.mono (by decide)) (q_var 3 rfl (Or.inl rfl)) (a_cons (q_tup (a_cons q_int (a_cons q_int (a_cons q_int (a_cons q_int a_nil))))) a_nil))) (q_one (q_eq hr (q_meth (k_Ring_times h) (hr.mono (by decide)) (q_var 3 rfl (Or.inl rfl)) (a_cons (q_neg q_int) (a_cons (q_tup (a_cons q_int (a_cons q_int (a_cons q_int (a_cons q_int a_nil))))) a_nil))) (q_tup (a_cons q_int (a_cons q_int (a_cons q_int (a_cons q_int a_nil))))))))))))))⟩
theorem k_law (h : Tops P w K mg base C) (hm : Mids P w K mg base C) : Kn P w K mg base "law" 13 ["_law_script"] (spP K C F_law) := kn_P h.x_law S_law rfl rfl (bd_law h hm)
theorem ok_law (h : Tops P w K mg base C) (hm : Mids P w K mg base C) {f : Addr} {fd : FuncData} (F : Fun K "law" "law" (topS 94) f fd) : FnOk P w K mg base CX0 13 f fd ["_law_script"] (spP K C F_law) :=
  F.ok S_law (fun vs H Q E h => spP_len h) (fun cdv A outer s H vs Q E hr hs => let ⟨t, z⟩ := bd_law h hm f cdv A outer s H E hr; ⟨t, z.ps, body_P (N := N_law) z.ss (by decide) hs⟩)
end TR

/-! Reading the functions on data: rules. -/
namespace TR
open PySem L2

abbrev X3 {α : Type} (x : Option α) (R : α → Prop) : Prop := ∃ a, x = some a ∧ R a
theorem w_eq {α : Type} {x : Option α} {r : α} (h : X3 x fun a => a = r) : x = some r := by
  obtain ⟨a, h1, h2⟩ := h
  rw [h1, h2]
def Nxt (g : FS) (R : Out → Prop) : Out → Prop
  | .nx ρ T => X3 (g ρ T) R
  | o => R o
def RetP (R : D → Prop) : Out → Prop
  | .ret d _ => R d
  | .nx _ _ => R .non
  | _ => False
def RetF (R : List D → Prop) : Out → Prop
  | .retF ds _ => R ds
  | _ => False
def RetT (R : D × List D → Prop) : Out → Prop
  | .ret d (some tk) => R (d, tk)
  | _ => False
def Lp (I : List SV → Tn → Prop) : Out → Prop
  | .nx ρ T => I ρ T
  | .ct ρ T => I ρ T
  | _ => False
section
variable {ρ : List SV} {T T' : Tn} {f g : FS} {R : Out → Prop} {e : FE} {fl : FL} {i j l : Nat} {d : D} {ds : List D} {c : FB}
theorem w_seq (h : X3 (f ρ T) (Nxt g R)) : X3 (sSeq f g ρ T) R := by
  obtain ⟨o, h1, h2⟩ := h
  unfold sSeq
  rw [h1, Option.bind_some]
  cases o with
  | nx ρ T => exact h2
  | _ => exact ⟨_, rfl, h2⟩
theorem w_asg (h : e ρ T = some (d, T')) (k : R (.nx (ρ.set i (.val d)) T')) : X3 (sAsg i e ρ T) R := by
  unfold sAsg
  rw [h]
  exact ⟨_, rfl, k⟩
theorem w_own (h : fl ρ T = some (ds, T')) (k : R (.nx (ρ.set i (.own ds)) T')) : X3 (sOwn i fl ρ T) R := by
  unfold sOwn
  rw [h]
  exact ⟨_, rfl, k⟩
theorem w_ret (h : e ρ T = some (d, T')) (k : R (.ret d T')) : X3 (sRet e ρ T) R := by
  unfold sRet
  rw [h]
  exact ⟨_, rfl, k⟩
theorem w_retF (h : fl ρ T = some (ds, T')) (k : R (.retF ds T')) : X3 (sRetF fl ρ T) R := by
  unfold sRetF
  rw [h]
  exact ⟨_, rfl, k⟩
theorem w_nx (k : R (.nx ρ T)) : X3 (sNx ρ T) R := ⟨_, rfl, k⟩
theorem w_ct (k : R (.ct ρ T)) : X3 (sCt ρ T) R := ⟨_, rfl, k⟩
theorem w_drop (h : e ρ T = some (d, T')) (k : R (.nx ρ T')) : X3 (sDrop e ρ T) R := by
  unfold sDrop
  rw [h]
  exact ⟨_, rfl, k⟩
theorem w_if {b : Bool} (h : c ρ T = some (b, T')) (k1 : b = true → X3 (f ρ T') R) (k2 : b = false → X3 (g ρ T') R) : X3 (sIf c f g ρ T) R := by
  unfold sIf
  rw [h, Option.bind_some]
  cases b with
  | true => exact k1 rfl
  | false => exact k2 rfl
theorem w_ifT (h : c ρ T = some (true, T')) (k : X3 (f ρ T') R) : X3 (sIf c f g ρ T) R := w_if h (fun _ => k) fun z => Bool.noConfusion z
theorem w_ifF (h : c ρ T = some (false, T')) (k : X3 (g ρ T') R) : X3 (sIf c f g ρ T) R := w_if h (fun z => Bool.noConfusion z) fun _ => k
theorem w_par {f g : FX} {s1 s2 : SV} {T1 T2 : Tn} (h1 : f ρ T = some (s1, T1)) (h2 : g ρ T1 = some (s2, T2)) (k : R (.nx ((ρ.set i s1).set j s2) T2)) : X3 (sPar i j f g ρ T) R := by
  unfold sPar
  rw [h1, Option.bind_some, h2]
  exact ⟨_, rfl, k⟩
theorem w_par3 {x y z : D} (h : fl ρ T = some ([x, y, z], T')) (k : R (.nx (((ρ.set i (.val x)).set j (.val y)).set l (.val z)) T')) : X3 (sPar3 i j l fl ρ T) R := by
  unfold sPar3
  rw [h]
  exact ⟨_, rfl, k⟩
theorem w_un2 {x y : D} (h : e ρ T = some (.tup [x, y], T')) (k : R (.nx ((ρ.set i (.val x)).set j (.val y)) T')) : X3 (sUn2 i j e ρ T) R := by
  unfold sUn2
  rw [h]
  exact ⟨_, rfl, k⟩
theorem w_ul3 {x y z : D} (h : e ρ T = some (.lst [x, y, z], T')) (k : R (.nx (((ρ.set i (.val x)).set j (.val y)).set l (.val z)) T')) : X3 (sUl3 i j l e ρ T) R := by
  unfold sUl3
  rw [h]
  exact ⟨_, rfl, k⟩
theorem w_frz (h : ρ[i]? = some (.own ds)) (k : X3 (f (ρ.set i (.val (.lst ds))) T) R) : X3 (frzS i f ρ T) R := by
  unfold frzS
  rw [h]
  exact k
theorem w_app (h : ρ[i]? = some (.own ds)) (h2 : e ρ T = some (d, T')) (hl : ds.length < 100000) (k : R (.nx (ρ.set i (.own (ds ++ [d]))) T')) : X3 (sApp i e ρ T) R := by
  unfold sApp
  rw [h]
  dsimp only
  rw [h2, Option.bind_some, if_pos hl]
  exact ⟨_, rfl, k⟩
theorem w_ext {es : List D} (h : ρ[i]? = some (.own ds)) (h2 : e ρ T = some (.lst es, T')) (hl : ds.length + es.length ≤ 100000) (k : R (.nx (ρ.set i (.own (ds ++ es))) T')) : X3 (sExt i e ρ T) R := by
  unfold sExt
  rw [h]
  dsimp only
  rw [h2, Option.bind_some]
  dsimp only
  rw [if_pos hl]
  exact ⟨_, rfl, k⟩
theorem w_for {α : Type} (xs : List α) (enc : α → D) (I : Nat → List SV → Tn → Prop) {it : FL} {tg : FG} (hit : it ρ T = some (xs.map enc, T')) (h0 : I 0 ρ T')
    (hs : ∀ k (hk : k < xs.length) ρ T, I k ρ T → ∃ ρ1, tg (enc xs[k]) ρ = some ρ1 ∧ X3 (f ρ1 T) (Lp (I (k + 1)))) (k : ∀ ρ' T', I xs.length ρ' T' → R (.nx ρ' T')) : X3 (sFor it tg f ρ T) R := by
  unfold sFor
  rw [hit, Option.bind_some]
  dsimp only
  have key : ∀ m, m ≤ xs.length → ∀ ρ T, I m ρ T → ∃ ρ' T', forS tg f ((xs.drop m).map enc) ρ T = some (.nx ρ' T') ∧ I xs.length ρ' T' := fun m => by
    generalize hr : xs.length - m = r
    induction r generalizing m with
    | zero =>
      intro hm ρ T h
      have : m = xs.length := by omega
      subst this
      rw [List.drop_length]
      exact ⟨ρ, T, rfl, h⟩
    | succ r ih =>
      intro hm ρ T h
      have hl : m < xs.length := by omega
      rw [List.drop_eq_getElem_cons hl, List.map_cons]
      obtain ⟨ρ1, h1, o, h2, h3⟩ := hs m hl ρ T h
      unfold forS
      rw [h1, Option.bind_some, h2, Option.bind_some]
      cases o with
      | nx ρ2 T2 => exact ih (m + 1) (by omega) (by omega) ρ2 T2 h3
      | ct ρ2 T2 => exact ih (m + 1) (by omega) (by omega) ρ2 T2 h3
      | _ => exact h3.elim
  obtain ⟨ρ', T2, h1, h2⟩ := key 0 (Nat.zero_le _) ρ T' h0
  rw [List.drop_zero] at h1
  exact ⟨_, h1, k ρ' T2 h2⟩
/-- .. what is found as a fold -/
theorem w_fold {α β : Type} (xs : List α) (enc : α → D) (step : β → α → β) (st : β → List SV → Prop) (b0 : β) {it : FL} {tg : FG} (hit : it ρ T = some (xs.map enc, T')) (h0 : st b0 ρ)
    (hs : ∀ b, ∀ a ∈ xs, ∀ ρ, st b ρ → ∃ ρ1, tg (enc a) ρ = some ρ1 ∧ X3 (f ρ1 T') (Lp fun ρ2 T2 => T2 = T' ∧ st (step b a) ρ2)) (k : ∀ ρ', st (xs.foldl step b0) ρ' → R (.nx ρ' T')) : X3 (sFor it tg f ρ T) R := by
  refine w_for xs enc (fun k ρ T => T = T' ∧ st ((xs.take k).foldl step b0) ρ) hit ⟨rfl, h0⟩ (fun m hm ρ T h => ?_) fun ρ' T2 h => ?_
  · obtain ⟨rfl, h⟩ := h
    obtain ⟨ρ1, h1, h2⟩ := hs _ _ (List.getElem_mem hm) ρ h
    refine ⟨ρ1, h1, ?_⟩
    rw [List.take_succ_eq_append_getElem hm, List.foldl_append]
    exact h2
  · obtain ⟨rfl, h⟩ := h
    rw [List.take_length] at h
    exact k ρ' h
theorem w_runP {n m : Nat} {R : D → Prop} (hm : ds.length = m) (h : X3 (f (startE n ds) none) (RetP R)) : X3 (runP n m f ds) R := by
  obtain ⟨o, h1, h2⟩ := h
  unfold runP
  rw [if_pos hm, h1]
  cases o with
  | ret d T => exact ⟨d, rfl, h2⟩
  | nx ρ T => exact ⟨.non, rfl, h2⟩
  | _ => exact h2.elim
theorem w_runF {n m : Nat} {R : List D → Prop} (hm : ds.length = m) (h : X3 (f (startE n ds) none) (RetF R)) : X3 (runF n m f ds) R := by
  obtain ⟨o, h1, h2⟩ := h
  unfold runF
  rw [if_pos hm, h1]
  cases o with
  | retF d T => exact ⟨d, rfl, h2⟩
  | _ => exact h2.elim
theorem w_runT {n m : Nat} {tk : List D} {R : D × List D → Prop} (hm : ds.length + 1 = m) (h : X3 (f (.tnk :: startE (n - 1) ds) (some tk)) (RetT R)) : X3 (runT n m f tk ds) R := by
  obtain ⟨o, h1, h2⟩ := h
  unfold runT
  rw [if_pos hm, h1]
  cases o with
  | ret d T => cases T with
    | some tk => exact ⟨_, rfl, h2⟩
    | none => exact h2.elim
  | _ => exact h2.elim
/-! ### comprehensions -/
theorem lc_map {α : Type} (xs : List α) (enc out : α → D) {it : FL} {tg : FG} {vs : List Nat} (hit : it ρ T = some (xs.map enc, T')) (hl : xs.length ≤ 50000) (h : ∀ a ∈ xs, ∃ ρ1, tg (enc a) (wipeE ρ vs) = some ρ1 ∧ e ρ1 T' = some (out a, T')) : lcE it tg yesB e vs ρ T = some (xs.map out, T') := by
  unfold lcE
  rw [hit, Option.bind_some]
  dsimp only
  rw [List.length_map, if_pos hl]
  clear hit hl
  induction xs with
  | nil => rfl
  | cons x xs ih =>
    obtain ⟨ρ1, h1, h2⟩ := h x List.mem_cons_self
    rw [List.map_cons, lcS, h1, Option.bind_some]
    show ((e ρ1 T').bind fun x => (lcS tg yesB e (wipeE ρ vs) (xs.map enc) x.2).map fun r => (x.1 :: r.1, r.2)) = _
    rw [h2, Option.bind_some]
    dsimp only
    rw [ih fun a ha => h a (List.mem_cons_of_mem _ ha)]
    rfl
theorem lc_filter {α : Type} (xs : List α) (enc out : α → D) (q : α → Bool) {it : FL} {tg : FG} {t : FB} {vs : List Nat} (hit : it ρ T = some (xs.map enc, T')) (hl : xs.length ≤ 50000) (h : ∀ a ∈ xs, ∃ ρ1, tg (enc a) (wipeE ρ vs) = some ρ1 ∧ t ρ1 T' = some (q a, T') ∧ (q a = true → e ρ1 T' = some (out a, T'))) : lcE it tg t e vs ρ T = some ((xs.filter q).map out, T') := by
  unfold lcE
  rw [hit, Option.bind_some]
  dsimp only
  rw [List.length_map, if_pos hl]
  clear hit hl
  induction xs with
  | nil => rfl
  | cons x xs ih =>
    obtain ⟨ρ1, h1, h2, h3⟩ := h x List.mem_cons_self
    rw [List.map_cons, lcS, h1, Option.bind_some, h2, Option.bind_some]
    dsimp only
    by_cases z : q x = true
    · rw [z, if_pos rfl, h3 z, Option.bind_some]
      dsimp only
      rw [ih fun a ha => h a (List.mem_cons_of_mem _ ha), List.filter_cons_of_pos z]
      rfl
    · rw [if_neg z, ih fun a ha => h a (List.mem_cons_of_mem _ ha), List.filter_cons_of_neg z]
end
/-! ### lists as data -/
abbrev tabT (l : List (List Int)) : D := .tup (l.map tupL)
abbrev tabS (l : List (List Int)) : D := .lst (l.map tupL)
theorem zip_enc {α β : Type} (f : α → D) (g : β → D) : ∀ (a : List α) (b : List β), zipD (a.map f) (b.map g) = (a.zip b).map fun q => .tup [f q.1, g q.2]
  | [], _ => by simp [zipD]
  | _ :: _, [] => by simp [zipD]
  | x :: a, y :: b => by rw [List.map_cons, List.map_cons, zipD, zip_enc f g a b, List.zip_cons_cons, List.map_cons]
theorem enum_enc {α : Type} (f : α → D) : ∀ (a : List α) (n : Nat), enumD n (a.map f) = (a.zipIdx n).map fun q => .tup [.int (q.2 : Nat), f q.1]
  | [], _ => rfl
  | x :: a, n => by rw [List.map_cons, enumD, enum_enc f a (n + 1), List.zipIdx_cons, List.map_cons]
theorem rng0 (n : Nat) : rngD 0 n = (List.range n).map fun (k : Nat) => D.int (k : Nat) := by
  unfold rngD
  exact List.map_congr_left fun k _ => by rw [Int.zero_add]
theorem ixN_nat {n k : Nat} (h : k < n) : ixN n (k : Int) = some k := by
  unfold ixN
  rw [if_pos (by omega), if_pos (by omega), Int.toNat_natCast]
theorem at_map {α : Type} {f : α → D} {l : List α} {k : Nat} (d : α) (h : k < l.length) : atI (l.map f) (k : Int) = some (f (l.getD k d)) := by
  unfold atI
  rw [List.length_map, ixN_nat h, Option.bind_some, List.getElem?_map, List.getElem?_eq_getElem h, TRM.getD_at h]
  rfl
theorem ix_row {l : List Int} {k : Nat} (h : k < l.length) : ixD (tupL l) (.int (k : Nat)) = some (.int (l.getD k 0)) := at_map 0 h
theorem ix_tup {α : Type} {f : α → D} {l : List α} {k : Nat} (d : α) (h : k < l.length) : ixD (.tup (l.map f)) (.int (k : Nat)) = some (f (l.getD k d)) := at_map d h
theorem ix_lst {α : Type} {f : α → D} {l : List α} {k : Nat} (d : α) (h : k < l.length) : ixD (.lst (l.map f)) (.int (k : Nat)) = some (f (l.getD k d)) := at_map d h
theorem mod_int {x : Int} {p : Nat} (h : 0 < p) : modD (.int x) (.int (p : Nat)) = some (.int (x % (p : Int))) := by
  show (if decide ((p : Int) ≠ 0) = true then some (D.int (x.fmod (p : Int))) else none) = _
  rw [if_pos (by simp; omega), Int.fmod_eq_emod_of_nonneg _ (by omega)]
theorem mul_int {x y : Int} (h : y.natAbs < 2 ^ 64) : mulD (.int x) (.int y) = some (.int (x * y)) := by
  have : mulI (.int x) (.int y) = some (.int (x * y)) := by
    show (if (decide (x.natAbs < 2 ^ 64) || decide (y.natAbs < 2 ^ 64)) = true then some (D.int (x * y)) else none) = _
    rw [decide_eq_true h, Bool.or_true, if_pos rfl]
  unfold mulD orO
  rw [this]
theorem add_int {x y : Int} : addD (.int x) (.int y) = some (.int (x + y)) := rfl
theorem sub_int {x y : Int} : subD (.int x) (.int y) = some (.int (x - y)) := rfl
theorem neg_int {x : Int} : negD (.int x) = some (.int (-x)) := rfl
theorem lt_int {x y : Int} : ltD (.int x) (.int y) = some (.bl (decide (x < y))) := rfl
theorem le_int {x y : Int} : leD (.int x) (.int y) = some (.bl (decide (x ≤ y))) := rfl
theorem gt_int {x y : Int} : gtD (.int x) (.int y) = some (.bl (decide (y < x))) := rfl
theorem toP_int (x : Int) : toP (.int x) = some (.int x) := by rw [toP]
theorem eqB_int {x y : Int} : eqB (.int x) (.int y) = some (x == y) := by
  unfold eqB
  rw [toP_int, toP_int]
  rfl
theorem eq_int {x y : Int} : eqD (.int x) (.int y) = some (.bl (x == y)) := by unfold eqD; rw [eqB_int]; rfl
theorem ne_int {x y : Int} : neD (.int x) (.int y) = some (.bl (!(x == y))) := by unfold neD; rw [eqB_int]; rfl
theorem len_tup {l : List D} : lenD [.tup l] = some (.int (l.length : Nat)) := rfl
theorem len_lst {l : List D} : lenD [.lst l] = some (.int (l.length : Nat)) := rfl
theorem len_row {l : List Int} : lenD [tupL l] = some (.int (l.length : Nat)) := by show some _ = _; rw [List.length_map]
theorem zeros_row {n : Nat} (h : n ≤ 1000) : mulD (.tup [.int 0]) (.int (n : Nat)) = some (tupL (TRM.zrs n)) := by
  show repT (.tup [.int 0]) (.int (n : Nat)) = _
  unfold repT
  dsimp only
  rw [if_pos ⟨by omega, by omega, by decide, by decide⟩, Int.toNat_natCast]
  have : (List.replicate n [D.int 0]).flatten = (TRM.zrs n).map D.int := by
    unfold TRM.zrs
    rw [List.map_replicate]
    induction n with
    | zero => rfl
    | succ n ih => rw [List.replicate_succ, List.flatten_cons, ih (by omega)]; rfl
  rw [this]
  rfl
theorem cat_rows {a b : List Int} (h : a.length + b.length ≤ 100000) : addD (tupL a) (tupL b) = some (tupL (a ++ b)) := by
  show (if (a.map D.int).length + (b.map D.int).length ≤ 100000 then some (D.tup (a.map D.int ++ b.map D.int)) else none) = _
  rw [List.length_map, List.length_map, if_pos h, ← List.map_append]
  rfl
/-! ### rules for expressions -/
section
variable {ρ : List SV} {T T1 T2 T3 : Tn} {e f g h : FE} {fl gl : FL} {x y z w : D} {ds es : List D} {c b : FB}
theorem v_bO {o : D → D → Option D} (h1 : f ρ T = some (x, T1)) (h2 : g ρ T1 = some (y, T2)) (h3 : o x y = some z) : bO o f g ρ T = some (z, T2) := by
  unfold bO
  rw [h1, Option.bind_some]
  dsimp only
  rw [h2, Option.bind_some]
  dsimp only
  rw [h3]
  rfl
theorem v_uO {o : D → Option D} (h1 : f ρ T = some (x, T1)) (h3 : o x = some z) : uO o f ρ T = some (z, T1) := by
  unfold uO
  rw [h1, Option.bind_some]
  dsimp only
  rw [h3]
  rfl
theorem v_cO {o : List D → Option D} (h1 : fl ρ T = some (ds, T1)) (h3 : o ds = some z) : cO o fl ρ T = some (z, T1) := by
  unfold cO
  rw [h1, Option.bind_some]
  dsimp only
  rw [h3]
  rfl
theorem v_cF {o : List D → Option (List D)} (h1 : fl ρ T = some (ds, T1)) (h3 : o ds = some es) : cF o fl ρ T = some (es, T1) := by
  unfold cF
  rw [h1, Option.bind_some]
  dsimp only
  rw [h3]
  rfl
theorem v_aC (h1 : f ρ T = some (x, T1)) (h2 : fl ρ T1 = some (ds, T2)) : aC f fl ρ T = some (x :: ds, T2) := by
  unfold aC
  rw [h1, Option.bind_some]
  dsimp only
  rw [h2]
  rfl
theorem v_a1 (h1 : f ρ T = some (x, T1)) : aC f aN ρ T = some ([x], T1) := v_aC h1 rfl
theorem v_aS (h1 : f ρ T = some (x, T1)) (hi : items x = some es) (h2 : fl ρ T1 = some (ds, T2)) : aS f fl ρ T = some (es ++ ds, T2) := by
  unfold aS
  rw [h1, Option.bind_some]
  dsimp only
  rw [hi, Option.bind_some, h2]
  rfl
theorem v_frz (h1 : fl ρ T = some (ds, T1)) : frz fl ρ T = some (.lst ds, T1) := by
  unfold frz
  rw [h1]
  rfl
theorem v_len (h1 : fl ρ T = some (ds, T1)) (hl : ds.length ≤ 100000) : lenOk fl ρ T = some (ds, T1) := by
  unfold lenOk
  rw [h1, Option.bind_some]
  dsimp only
  rw [if_pos hl]
theorem v_tup (h1 : fl ρ T = some (ds, T1)) (hl : ds.length ≤ 100000) : tupE (lenOk fl) ρ T = some (.tup ds, T1) := by
  unfold tupE
  rw [v_len h1 hl]
  rfl
theorem v_lst (h1 : fl ρ T = some (ds, T1)) (hl : ds.length ≤ 100000) : frz (lenOk fl) ρ T = some (.lst ds, T1) := v_frz (v_len h1 hl)
theorem v_tst {q : Bool} (h1 : f ρ T = some (.bl q, T1)) : tst f ρ T = some (q, T1) := by
  unfold tst
  rw [h1]
  rfl
theorem v_ifT (h1 : c ρ T = some (true, T1)) (h2 : f ρ T1 = some (x, T2)) : ifE c f g ρ T = some (x, T2) := by
  unfold ifE
  rw [h1, Option.bind_some]
  exact h2
theorem v_ifF (h1 : c ρ T = some (false, T1)) (h2 : g ρ T1 = some (x, T2)) : ifE c f g ρ T = some (x, T2) := by
  unfold ifE
  rw [h1, Option.bind_some]
  exact h2
theorem v_andT {q : Bool} (h1 : c ρ T = some (true, T1)) (h2 : b ρ T1 = some (q, T2)) : andB c b ρ T = some (q, T2) := by
  unfold andB
  rw [h1, Option.bind_some]
  exact h2
theorem v_andF (h1 : c ρ T = some (false, T1)) : andB c b ρ T = some (false, T1) := by
  unfold andB
  rw [h1, Option.bind_some]
  rfl
theorem v_orF {q : Bool} (h1 : c ρ T = some (false, T1)) (h2 : b ρ T1 = some (q, T2)) : orB c b ρ T = some (q, T2) := by
  unfold orB
  rw [h1, Option.bind_some]
  exact h2
theorem v_orT (h1 : c ρ T = some (true, T1)) : orB c b ρ T = some (true, T1) := by
  unfold orB
  rw [h1, Option.bind_some]
  rfl
theorem v_notB {q : Bool} (h1 : c ρ T = some (q, T1)) : notB c ρ T = some (!q, T1) := by
  unfold notB
  rw [h1]
  rfl
theorem v_notF (h1 : c ρ T = some (true, T1)) : notB c ρ T = some (false, T1) := v_notB h1
theorem v_notT (h1 : c ρ T = some (false, T1)) : notB c ρ T = some (true, T1) := v_notB h1
theorem v_eT (h1 : f ρ T = some (.bl true, T1)) (h2 : g ρ T1 = some (x, T2)) : andE f g ρ T = some (x, T2) := by
  unfold andE
  rw [v_tst h1, Option.bind_some]
  exact h2
theorem v_eF (h1 : f ρ T = some (.bl false, T1)) : andE f g ρ T = some (.bl false, T1) := by
  unfold andE
  rw [v_tst h1, Option.bind_some]
  rfl
theorem v_oT (h1 : f ρ T = some (.bl true, T1)) : orE f g ρ T = some (.bl true, T1) := by
  unfold orE
  rw [v_tst h1, Option.bind_some]
  rfl
theorem v_oF (h1 : f ρ T = some (.bl false, T1)) (h2 : g ρ T1 = some (x, T2)) : orE f g ρ T = some (x, T2) := by
  unfold orE
  rw [v_tst h1, Option.bind_some]
  exact h2
theorem v_notE {q : Bool} (h1 : f ρ T = some (.bl q, T1)) : notE f ρ T = some (.bl (!q), T1) := by
  unfold notE
  rw [v_tst h1]
  rfl
theorem v_chT {o o' : D → D → Option D} (h1 : f ρ T = some (x, T1)) (h2 : g ρ T1 = some (y, T2)) (h3 : o x y = some (.bl true)) (h4 : h ρ T2 = some (z, T3)) (h5 : o' y z = some w) : chE o o' f g h ρ T = some (w, T3) := by
  unfold chE
  rw [h1, Option.bind_some]
  dsimp only
  rw [h2, Option.bind_some]
  dsimp only
  rw [h3, Option.bind_some]
  dsimp only
  rw [h4, Option.bind_some]
  dsimp only
  rw [h5]
  rfl
theorem v_chF {o o' : D → D → Option D} (h1 : f ρ T = some (x, T1)) (h2 : g ρ T1 = some (y, T2)) (h3 : o x y = some (.bl false)) : chE o o' f g h ρ T = some (.bl false, T2) := by
  unfold chE
  rw [h1, Option.bind_some]
  dsimp only
  rw [h2, Option.bind_some]
  dsimp only
  rw [h3, Option.bind_some]
theorem v_itL (h1 : f ρ T = some (.lst ds, T1)) : itL f ρ T = some (ds, T1) := by
  unfold itL
  rw [h1]
  rfl
theorem v_itT (h1 : f ρ T = some (.tup ds, T1)) : itT f ρ T = some (ds, T1) := by
  unfold itT
  rw [h1]
  rfl
theorem v_itR {n : Nat} (h1 : fl ρ T = some ([.int (n : Nat)], T1)) (hn : n ≤ 1000000) : itR1 fl ρ T = some ((List.range n).map fun (k : Nat) => D.int (k : Nat), T1) := by
  unfold itR1
  rw [h1, Option.bind_some]
  dsimp only
  rw [if_pos ⟨by omega, by omega⟩, Int.toNat_natCast, rng0]
theorem v_itZ {α β : Type} {f1 : α → D} {f2 : β → D} {a : List α} {b : List β} (h1 : fl ρ T = some ([x, y], T1)) (hx : items x = some (a.map f1)) (hy : items y = some (b.map f2)) : itZ fl ρ T = some ((a.zip b).map fun q => .tup [f1 q.1, f2 q.2], T1) := by
  unfold itZ
  rw [h1, Option.bind_some]
  dsimp only
  rw [hx, Option.bind_some, hy, Option.map_some, zip_enc]
theorem v_itE {α : Type} {f1 : α → D} {a : List α} (h1 : fl ρ T = some ([x], T1)) (hx : items x = some (a.map f1)) : itE fl ρ T = some (a.zipIdx.map fun q => .tup [.int (q.2 : Nat), f1 q.1], T1) := by
  unfold itE
  rw [h1, Option.bind_some]
  dsimp only
  rw [hx, Option.map_some, enum_enc]
theorem v_xV (h1 : f ρ T = some (x, T1)) : xV f ρ T = some (.val x, T1) := by
  unfold xV
  rw [h1]
  rfl
theorem v_xO (h1 : fl ρ T = some (ds, T1)) : xO fl ρ T = some (.own ds, T1) := by
  unfold xO
  rw [h1]
  rfl
theorem v_dg {k : Str} {kvs : List (Str × D)} (h1 : f ρ T = some (.dic kvs, T1)) (h2 : getS kvs k = some z) : dgE k f ρ T = some (z, T1) := by
  unfold dgE
  rw [h1, Option.bind_some]
  dsimp only
  rw [h2]
  rfl
theorem v_sl {lo hi : FO} {l r : Option Int} (h1 : f ρ T = some (x, T1)) (h2 : lo ρ T1 = some (l, T2)) (h3 : hi ρ T2 = some (r, T3)) (h4 : slD x l r = some z) : slE f lo hi ρ T = some (z, T3) := by
  unfold slE
  rw [h1, Option.bind_some]
  dsimp only
  rw [h2, Option.bind_some]
  dsimp only
  rw [h3, Option.bind_some]
  dsimp only
  rw [h4]
  rfl
theorem v_oS {i : Int} (h1 : f ρ T = some (.int i, T1)) : oS f ρ T = some (some i, T1) := by
  unfold oS
  rw [h1]
  rfl
theorem v_ixO {i : Nat} {k : Int} (h0 : ρ[i]? = some (.own ds)) (h1 : f ρ T = some (.int k, T1)) (h2 : atI ds k = some z) : ixO i f ρ T = some (z, T1) := by
  unfold ixO
  rw [h0]
  dsimp only
  rw [h1, Option.bind_some]
  dsimp only
  rw [h2]
  rfl
theorem v_tc {i : Nat} {F : List D → List D → Option (D × List D)} {tk tk' : List D} (h0 : ρ[i]? = some .tnk) (h1 : fl ρ T = some (ds, some tk)) (h2 : F tk ds = some (z, tk')) : tcE i F fl ρ T = some (z, some tk') := by
  unfold tcE
  rw [h0]
  dsimp only
  rw [h1, Option.bind_some]
  dsimp only
  rw [h2]
  rfl
end
end TR

/-! Rows: what the functions give. -/
namespace TR
open PySem L2
open TRM (plusL scaleL leadL restL withL reducedL freeL Can zrs unitL unitsL invP PR Fld ledI mulV sm)
theorem can_abs {p : Nat} (hp : p ≤ 7) {l : List Int} (h : Can p l) : ∀ x ∈ l, x.natAbs < 2 ^ 64 := fun x hx => by
  have := h x hx
  omega
theorem map_zip {α β γ δ : Type} (g : α → β → γ) (h : γ → δ) : ∀ (a : List α) (b : List β), (a.zip b).map (fun q => h (g q.1 q.2)) = (List.zipWith g a b).map h
  | [], _ => by simp
  | _ :: _, [] => by simp
  | x :: a, y :: b => by rw [List.zip_cons_cons, List.map_cons, map_zip g h a b, List.zipWith_cons_cons, List.map_cons]
theorem e_added_row {p : Nat} {a b : List Int} {f : Int} (hp : 0 < p) (hs : a.length ≤ 50000) (hb : ∀ x ∈ b, x.natAbs < 2 ^ 64) : F_added_row [.int (p : Nat), tupL a, tupL b, .int f] = some (tupL (plusL p a b f)) := by
  refine w_eq (w_runP rfl (w_ret (v_cO (v_a1 (v_frz (lc_map (a.zip b) _ (fun q => .int ((q.1 + f * q.2) % (p : Int))) (v_itZ (v_aC rfl (v_a1 rfl)) rfl rfl) (by rw [List.length_zip]; omega) fun q hq => ⟨_, rfl,
    v_bO (v_bO rfl (v_bO rfl rfl (mul_int (hb _ (List.of_mem_zip hq).2))) add_int) rfl (mod_int hp)⟩))) rfl) ?_))
  show D.tup _ = D.tup _
  rw [map_zip (fun x y => (x + f * y) % (p : Int)) D.int]
  rfl
theorem e_law_plus {p : Nat} {a b : List Int} {f : Int} (hp : 0 < p) (hs : a.length ≤ 50000) (hb : ∀ x ∈ b, x.natAbs < 2 ^ 64) : F_law_plus [.int (p : Nat), tupL a, tupL b, .int f] = some (tupL (plusL p a b f)) := by
  refine w_eq (w_runP rfl (w_ret (v_cO (v_a1 (v_frz (lc_map (a.zip b) _ (fun q => .int ((q.1 + f * q.2) % (p : Int))) (v_itZ (v_aC rfl (v_a1 rfl)) rfl rfl) (by rw [List.length_zip]; omega) fun q hq => ⟨_, rfl,
    v_bO (v_bO rfl (v_bO rfl rfl (mul_int (hb _ (List.of_mem_zip hq).2))) add_int) rfl (mod_int hp)⟩))) rfl) ?_))
  show D.tup _ = D.tup _
  rw [map_zip (fun x y => (x + f * y) % (p : Int)) D.int]
  rfl
theorem e_scaled_row {p : Nat} {a : List Int} {f : Int} (hp : 0 < p) (hs : a.length ≤ 50000) (hb : ∀ x ∈ a, x.natAbs < 2 ^ 64) : F_scaled_row [.int (p : Nat), .int f, tupL a] = some (tupL (scaleL p f a)) := by
  refine w_eq (w_runP rfl (w_ret (v_cO (v_a1 (v_frz (lc_map a D.int (fun q => .int (f * q % (p : Int))) (v_itT rfl) hs fun q hq => ⟨_, rfl, v_bO (v_bO rfl rfl (mul_int (hb _ hq))) rfl (mod_int hp)⟩))) rfl) ?_))
  show D.tup _ = D.tup _
  unfold scaleL
  rw [List.map_map]
  rfl
theorem unit_enc (n k : Nat) : (List.range n).map (fun (j : Nat) => D.int (if ((j : Int) == (k : Int)) = true then 1 else 0)) = (unitL n k).map D.int := by
  unfold unitL
  rw [List.map_map]
  refine List.map_congr_left fun j _ => ?_
  show D.int _ = D.int (if j = k then 1 else 0)
  by_cases z : j = k
  · rw [if_pos z, if_pos (by rw [z]; exact beq_self_eq_true _)]
  · rw [if_neg z, if_neg (by simpa using fun h => z (by omega))]
theorem int_bl {b : Bool} : intD [.bl b] = some (.int (if b = true then 1 else 0)) := rfl
theorem e_single_row {n k : Nat} (hn : n ≤ 50000) : F_single_row [.int (n : Nat), .int (k : Nat)] = some (tupL (unitL n k)) := by
  refine w_eq (w_runP rfl (w_ret (v_cO (v_a1 (v_frz (lc_map (List.range n) _ (fun (j : Nat) => D.int (if ((j : Int) == (k : Int)) = true then 1 else 0)) (v_itR (v_a1 rfl) (by omega)) (by rw [List.length_range]; exact hn) fun j _ => ⟨_, rfl, v_cO (v_a1 (v_bO rfl rfl eq_int)) int_bl⟩))) rfl) ?_))
  show D.tup _ = D.tup _
  rw [unit_enc]
theorem e_zero_row {n : Nat} (hn : n ≤ 1000) : F_zero_row [.int (n : Nat)] = some (tupL (zrs n)) :=
  w_eq (w_runP rfl (w_ret (v_bO (v_tup (v_a1 rfl) (by decide)) rfl (zeros_row hn)) rfl))
/-! ### a row led by a table -/
def ledS (n k : Nat) (tbl : List (List Int)) (row : List Int) : List Int := (List.range n).map fun c => sm k fun i => row.getD i 0 * (tbl.getD i []).getD c 0
theorem zip_range {n : Nat} {g : Nat → Int} {h : Int → Int → Int} {l : List Int} (hl : l.length = n) : List.zipWith h ((List.range n).map g) l = (List.range n).map fun c => h (g c) (l.getD c 0) := by
  refine List.ext_getElem (by rw [List.length_zipWith, List.length_map, List.length_map, List.length_range]; omega) fun i h1 h2 => ?_
  rw [List.getElem_zipWith, List.getElem_map, List.getElem_map, List.getElem_range, TRM.getD_at]
theorem zeros_lst {n : Nat} (h : n ≤ 1000) : mulD (.lst [.int 0]) (.int (n : Nat)) = some (.lst ((zrs n).map .int)) := by
  have : (List.replicate n [D.int 0]).flatten = (zrs n).map D.int := by
    unfold zrs
    rw [List.map_replicate]
    induction n with
    | zero => rfl
    | succ n ih => rw [List.replicate_succ, List.flatten_cons, ih (by omega)]; rfl
  have hr : repL (.lst [.int 0]) (.int (n : Nat)) = some (.lst ((zrs n).map .int)) := by
    unfold repL
    dsimp only
    rw [if_pos ⟨by omega, by omega, by decide⟩, Int.toNat_natCast, this]
  show (match repL (.lst [.int 0]) (.int (n : Nat)) with
    | some z => some z
    | none => repT (.lst [.int 0]) (.int (n : Nat))) = _
  rw [hr]
theorem zrs_range (n : Nat) : zrs n = (List.range n).map fun _ => 0 := by
  unfold zrs
  refine List.ext_getElem (by rw [List.length_replicate, List.length_map, List.length_range]) fun i h1 h2 => ?_
  rw [List.getElem_replicate, List.getElem_map]
theorem e_led_row {p n m : Nat} {dt : D} {tbl : List (List Int)} {row : List Int} (hp : 0 < p) (hn : n ≤ 1000) (hm : m ≤ 1000) (hd : items dt = some (tbl.map tupL)) (hr : row.length = m) (ht : tbl.length = m) (htr : ∀ r ∈ tbl, r.length = n ∧ ∀ x ∈ r, x.natAbs < 2 ^ 64) :
    F_led_row [.int (p : Nat), dt, tupL row, .int (n : Nat)] = some (tupL (ledI p n m tbl row)) := by
  have hz : (row.zip tbl).length = m := by rw [List.length_zip]; omega
  refine w_eq (w_runP rfl (w_seq (w_asg (v_bO (v_lst (v_a1 rfl) (by decide)) rfl (zeros_lst hn)) (w_seq (w_for (row.zip tbl) _ (fun k ρ T => T = none ∧ ∃ s5 s6 s7 s8, ρ = [.val (.int (p : Nat)), .val dt, .val (tupL row), .val (.int (n : Nat)), .val (.lst ((ledS n k tbl row).map .int)), s5, s6, s7, s8]) (v_itZ (v_aC rfl (v_a1 rfl)) rfl hd) ⟨rfl, _, _, _, _, by
    show [_, _, _, _, _, _, _, _, _] = _
    rw [zrs_range]
    rfl⟩ (fun k hk ρ T h => ?_) fun ρ T h => ?_)))))
  · obtain ⟨rfl, s5, s6, s7, s8, rfl⟩ := h
    have hk1 : k < row.length := by omega
    have hk2 : k < tbl.length := by omega
    have htk := htr _ (List.getElem_mem hk2)
    have eq : (row.zip tbl)[k] = (row[k], tbl[k]) := List.getElem_zip
    rw [eq]
    have step : ledS n (k + 1) tbl row = List.zipWith (fun x y => x + row[k] * y) (ledS n k tbl row) tbl[k] := by
      unfold ledS
      rw [zip_range htk.1]
      refine List.map_congr_left fun c _ => ?_
      show sm k _ + row.getD k 0 * (tbl.getD k []).getD c 0 = _
      rw [TRM.getD_at hk1, TRM.getD_at hk2]
    refine ⟨_, rfl, w_if (v_tst (v_bO rfl rfl ne_int)) (fun z => ?_) fun z => ?_⟩
    · refine w_asg (v_frz (lc_map ((ledS n k tbl row).zip tbl[k]) _ (fun q => .int (q.1 + row[k] * q.2)) (v_itZ (v_aC rfl (v_a1 rfl)) rfl rfl) (by rw [List.length_zip]; unfold ledS; rw [List.length_map, List.length_range]; omega) fun q hq => ⟨_, rfl, v_bO rfl (v_bO rfl rfl (mul_int (htk.2 _ (List.of_mem_zip hq).2))) add_int⟩)) ⟨rfl, _, _, _, _, by
        rw [step, ← map_zip (fun x y => x + row[k] * y) D.int]
        rfl⟩
    · have z0 : row[k] = 0 := by simpa using z
      have : ledS n (k + 1) tbl row = ledS n k tbl row := by
        unfold ledS
        refine List.map_congr_left fun c _ => ?_
        show sm k _ + row.getD k 0 * (tbl.getD k []).getD c 0 = _
        rw [TRM.getD_at hk1, z0]
        omega
      exact w_nx ⟨rfl, _, _, _, _, by rw [this]; rfl⟩
  · obtain ⟨rfl, s5, s6, s7, s8, rfl⟩ := h
    rw [hz]
    refine w_ret (v_cO (v_a1 (v_frz (lc_map (ledS n m tbl row) D.int (fun q => .int (q % (p : Int))) (v_itL rfl) (by unfold ledS; rw [List.length_map, List.length_range]; omega) fun q hq => ⟨_, rfl, v_bO rfl rfl (mod_int hp)⟩))) rfl) ?_
    show D.tup _ = D.tup _
    unfold ledS ledI
    rw [List.map_map, List.map_map]
    rfl
/-! ### leads -/
def optI : Option Nat → D
  | none => .non
  | some k => .int (k : Nat)
theorem lead_head (l : List Int) : (leadN l).head? = leadL l := by
  unfold leadN passing
  rw [List.drop_zero, List.head?_filter]
  cases h : leadL l with
  | none =>
    rw [List.find?_eq_none]
    intro i hi
    have hi := List.mem_range.mp hi
    unfold leadL at h
    rw [List.findIdx?_eq_none_iff] at h
    have := h l[i] (List.getElem_mem hi)
    unfold nz
    rw [List.getElem?_eq_getElem hi]
    simpa using this
  | some k =>
    obtain ⟨hk, h1, h2⟩ := TRM.lead_some h
    rw [List.find?_range_eq_some]
    refine ⟨?_, List.mem_range.mpr hk, fun j hj => ?_⟩
    · unfold nz
      rw [List.getElem?_eq_getElem hk]
      simpa using h1
    · have := h2 j hj
      unfold nz
      rw [List.getElem?_eq_getElem (by omega)]
      rw [TRM.getD_at (by omega)] at this
      simpa using this
theorem e_lead_of (l : List Int) : F_lead_of [tupL l] = some (optI (leadL l)) := by
  show (ints? (l.map D.int)).map _ = _
  rw [ints?_map, Option.map_some, ← lead_head]
  cases leadN l <;> rfl
theorem e_undone {p : Nat} (hp : PR p) {x : Int} (h1 : 0 ≤ x) (h2 : x < (p : Int)) : F_undone_residue [.int (p : Nat), .int x] = some (.int (invP p x)) := by
  obtain ⟨k, rfl⟩ := Int.eq_ofNat_of_zero_le h1
  have hk : k < (TRM.invT p).length := by
    have : k < p := by omega
    rcases hp with h | h | h | h <;> subst h <;> exact this
  have hu : undO (.int (p : Nat)) = some (.tup ((TRM.invT p).map .int)) := by
    rcases hp with h | h | h | h <;> subst h <;> rfl
  exact w_eq (w_runP rfl (w_ret (v_bO (v_uO rfl hu) rfl (ix_tup 0 hk)) rfl))
end TR

/-! Spaces and the package's solver: what the functions give. -/
namespace TR
open PySem L2
open Lean.Grind (CommRing IsCharP)
open TRM (plusL scaleL leadL restL withL reducedL freeL Can zrs unitL unitsL invP PR Fld ledI mulV sm ldD extL libFold lawFold endL libSolL lawSolL SysOk Spec)
def optR : Option (List Int) → D
  | none => .non
  | some x => tupL x
theorem is_opt {k : Option Nat} : isD (optI k) .non = some (.bl k.isNone) := by cases k <;> rfl
theorem cut_take {α : Type} {xs : List α} {k : Nat} (h : k ≤ xs.length) : cutL xs none (some (k : Int)) = xs.take k := by
  unfold cutL
  rw [HT.sIx_none, HT.sIx_nat, List.drop_zero, Nat.sub_zero, Nat.min_eq_left h]
theorem cut_drop {α : Type} {xs : List α} {k : Nat} (h : k ≤ xs.length) : cutL xs (some (k : Int)) none = xs.drop k := by
  unfold cutL
  rw [HT.sIx_none, HT.sIx_nat, Nat.min_eq_left h]
  exact List.take_of_length_le (by rw [List.length_drop]; exact Nat.le_refl _)
theorem len_items {d : D} {ds : List D} (h : items d = some ds) : lenD [d] = some (.int (ds.length : Nat)) := by
  unfold items at h
  split at h
  · cases h; rfl
  · cases h; rfl
  · cases h
theorem e_rest_of {p w : Nat} {S : List (List Int)} {row : List Int} (hp : 0 < p) (hw : w ≤ 50000) (hS : ∀ l ∈ S, l.length = w ∧ (∀ x ∈ l, x.natAbs < 2 ^ 64) ∧ ∃ L, leadL l = some L) (hr : row.length = w) : F_rest_of [.int (p : Nat), tabT S, tupL row] = some (tupL (restL p S row)) := by
  refine w_eq (w_runP rfl (w_seq (w_fold S tupL (fun r l => if r.getD ((leadL l).getD 0) 0 ≠ 0 then plusL p r l (-(r.getD ((leadL l).getD 0) 0)) else r) (fun r ρ => r.length = w ∧ ∃ s3 s4, ρ = [.val (.int (p : Nat)), .val (tabT S), .val (tupL r), s3, s4]) row (v_itT rfl) ⟨hr, _, _, rfl⟩ (fun r l hl ρ h => ?_) fun ρ h => ?_)))
  · obtain ⟨h1, s3, s4, rfl⟩ := h
    obtain ⟨k1, k2, L, k3⟩ := hS l hl
    obtain ⟨k4, _, _⟩ := TRM.lead_some k3
    have eL : (leadL l).getD 0 = L := by rw [k3]; rfl
    rw [eL]
    refine ⟨_, rfl, w_seq (w_asg (v_bO rfl (v_cO (v_a1 rfl) (e_lead_of l)) (by rw [k3]; exact ix_row (by omega))) (w_if (v_tst (v_bO rfl rfl ne_int)) (fun z => ?_) fun z => ?_))⟩
    · have z0 : r.getD L 0 ≠ 0 := by simpa using z
      rw [if_pos z0]
      refine w_asg (v_cO (v_aC rfl (v_aC rfl (v_aC rfl (v_a1 (v_uO rfl neg_int))))) (e_added_row hp (by omega) k2)) ⟨rfl, by rw [TRM.plus_len (by omega), h1], _, _, rfl⟩
    · have z0 : r.getD L 0 = 0 := by simpa using z
      rw [if_neg (not_not_intro z0)]
      exact w_nx ⟨rfl, h1, _, _, rfl⟩
  · obtain ⟨h1, s3, s4, rfl⟩ := h
    exact w_ret rfl rfl
theorem with_len {p : Nat} {inv : Int → Int} {S : List (List Int)} {row : List Int} : (withL p inv S row).length ≤ S.length + 1 := by
  unfold withL
  split
  · omega
  · dsimp only
    rw [List.length_append, List.length_cons, List.length_take, List.length_drop]
    unfold freeL
    rw [List.length_map]
    omega
section
variable (K : Type) [CommRing K] {p : Nat} [IsCharP K p]
theorem e_with_row (F : Fld K p) {w : Nat} {U S : List (List Int)} {row : List Int} (hw : w ≤ 50000) (hs : S.length ≤ 10000) (s : Spec K p w U S) (hr : row.length = w) (hc : Can p row) : F_with_row [.int (p : Nat), tabT S, tupL row] = some (tabT (withL p (invP p) S row)) := by
  have hp := F.lt
  have sy := s.sys
  have wl := (TRM.with_spec (by omega) F.inv F.h01 s hr hc).sys
  obtain ⟨q1, q2, _⟩ := TRM.rest_spec (K := K) (by omega : 0 < p) sy.len hr hc
  have hle := F.le
  have e1 := e_rest_of (p := p) (w := w) (S := S) (row := row) (by omega) hw (fun l hl => ⟨sy.len l hl, can_abs F.le (sy.can l hl), sy.lead l hl⟩) hr
  refine w_eq (w_runP rfl (w_seq (w_asg (v_cO (v_aC rfl (v_aC rfl (v_a1 rfl))) e1) (w_seq (w_asg (v_cO (v_a1 rfl) (e_lead_of _)) (w_seq (w_if (v_tst (v_bO rfl rfl is_opt)) (fun z => ?_) fun z => ?_)))))))
  · have z0 : leadL (restL p S row) = none := by simpa using z
    refine w_ret rfl ?_
    show tabT S = tabT (withL p (invP p) S row)
    unfold withL
    rw [z0]
  · obtain ⟨L, z0⟩ : ∃ L, leadL (restL p S row) = some L := by
      cases h : leadL (restL p S row) with
      | none => rw [h] at z; cases z
      | some L => exact ⟨L, rfl⟩
    obtain ⟨hL, hne, _⟩ := TRM.lead_some z0
    have ew : withL p (invP p) S row = (freeL p L (scaleL p (invP p ((restL p S row).getD L 0)) (restL p S row)) S).take (((freeL p L (scaleL p (invP p ((restL p S row).getD L 0)) (restL p S row)) S).filter fun l => decide ((leadL l).getD 0 < L)).length) ++ scaleL p (invP p ((restL p S row).getD L 0)) (restL p S row) :: (freeL p L (scaleL p (invP p ((restL p S row).getD L 0)) (restL p S row)) S).drop (((freeL p L (scaleL p (invP p ((restL p S row).getD L 0)) (restL p S row)) S).filter fun l => decide ((leadL l).getD 0 < L)).length) := by
      unfold withL
      rw [z0]
    generalize hrr : restL p S row = r at *
    rw [z0]
    have cr := q2 _ (List.getElem_mem hL)
    have gr : r.getD L 0 = r[L] := TRM.getD_at hL
    have e2 := e_undone (p := p) F.pr (x := r.getD L 0) (by omega) (by omega)
    generalize hh : scaleL p (invP p (r.getD L 0)) r = h at *
    have hhl : h.length = w := by rw [← hh, TRM.scale_len, q1]
    have hhc : Can p h := by rw [← hh]; exact TRM.can_scale (by omega)
    generalize hf : freeL p L h S = ls at *
    have lsl : ls.length = S.length := by rw [← hf]; unfold freeL; rw [List.length_map]
    have kl : (ls.filter fun l => decide ((leadL l).getD 0 < L)).length ≤ ls.length := List.length_filter_le _ _
    generalize hk : (ls.filter fun l => decide ((leadL l).getD 0 < L)).length = k at *
    have lead : ∀ l ∈ ls, ∃ M, leadL l = some M := fun l hl => by
      refine wl.lead l ?_
      rw [ew]
      rw [← List.take_append_drop k ls] at hl
      rcases List.mem_append.mp hl with m | m
      · exact List.mem_append_left _ m
      · exact List.mem_append_right _ (List.mem_cons_of_mem _ m)
    refine w_nx (w_seq (w_asg (v_cO (v_aC rfl (v_aC (v_cO (v_aC rfl (v_a1 (v_bO rfl rfl (ix_row hL)))) e2) (v_a1 rfl))) ((e_scaled_row (by omega) (by omega) (can_abs F.le q2)).trans (by rw [hh]))) ?_))
    refine w_seq (w_asg (d := .lst (ls.map tupL)) (T' := none) ((v_frz (lc_map S tupL (fun l => tupL (plusL p l h (-(l.getD L 0)))) (v_itT rfl) (by omega) fun l hl => ⟨_, rfl, v_cO (v_aC rfl (v_aC rfl (v_aC rfl (v_a1 (v_uO (v_bO rfl rfl (ix_row (by have := sy.len l hl; omega))) neg_int))))) (e_added_row (by omega) (by have := sy.len l hl; omega) (can_abs F.le hhc))⟩)).trans (by
      rw [← hf]; unfold freeL; rw [List.map_map]; rfl)) ?_)
    refine w_seq (w_asg (v_cO (v_a1 (v_frz (lc_filter ls tupL tupL (fun l => decide ((leadL l).getD 0 < L)) (v_itL rfl) (by omega) fun l hl => ⟨_, rfl, v_tst (v_bO (v_cO (v_a1 rfl) (e_lead_of l)) rfl (by
        obtain ⟨M, hM⟩ := lead l hl
        rw [hM]
        show some (D.bl (decide ((M : Int) < (L : Int)))) = some (D.bl (decide (M < L)))
        congr 2
        exact decide_eq_decide.mpr (by omega))), fun _ => rfl⟩))) (len_lst.trans (by rw [List.length_map, hk]))) ?_)
    refine w_ret (v_tup (v_aS (v_sl (x := .lst (ls.map tupL)) rfl rfl (v_oS rfl) rfl) rfl (v_aC rfl (v_aS (v_sl (x := .lst (ls.map tupL)) rfl (v_oS rfl) rfl rfl) rfl rfl))) ?_) ?_
    · rw [cut_take (by rw [List.length_map]; exact kl), cut_drop (by rw [List.length_map]; exact kl), List.length_append, List.length_cons, List.length_append, List.length_take, List.length_drop, List.length_map, List.length_nil]
      omega
    · rw [cut_take (by rw [List.length_map]; exact kl), cut_drop (by rw [List.length_map]; exact kl)]
      show D.tup _ = tabT (withL p (invP p) S row)
      rw [ew, List.append_nil]
      show D.tup _ = D.tup _
      rw [List.map_append, List.map_cons, List.map_take, List.map_drop]
theorem red_len {p : Nat} {inv : Int → Int} : ∀ {rows S : List (List Int)}, (rows.foldl (withL p inv) S).length ≤ S.length + rows.length
  | [], S => Nat.le_refl _
  | r :: rows, S => by
    have h1 := red_len (p := p) (inv := inv) (rows := rows) (S := withL p inv S r)
    have h2 := with_len (p := p) (inv := inv) (S := S) (row := r)
    rw [List.foldl_cons, List.length_cons]
    omega
theorem e_reduced (F : Fld K p) {w : Nat} {rows : List (List Int)} (hw : w ≤ 50000) (hs : rows.length ≤ 10000) (h : ∀ r ∈ rows, r.length = w ∧ Can p r) : F_reduced [.int (p : Nat), tabS rows] = some (tabT (reducedL p (invP p) rows)) := by
  have hp := F.lt
  refine w_eq (w_runP rfl (w_seq (w_asg (d := tabT []) (T' := none) rfl (w_seq (w_for rows tupL (fun k ρ T => T = none ∧ ∃ s3, ρ = [.val (.int (p : Nat)), .val (tabS rows), .val (tabT (reducedL p (invP p) (rows.take k))), s3]) (v_itL rfl) ⟨rfl, _, rfl⟩ (fun k hk ρ T h' => ?_) fun ρ T h' => ?_)))))
  · obtain ⟨rfl, s3, rfl⟩ := h'
    have sp := TRM.reduced_ok (K := K) (by omega) F.inv F.h01 (rows := rows.take k) (w := w) fun r hr => h r (List.mem_of_mem_take hr)
    have hl : (reducedL p (invP p) (rows.take k)).length ≤ 10000 := by
      have := red_len (p := p) (inv := invP p) (rows := rows.take k) (S := [])
      unfold reducedL
      rw [List.length_nil, List.length_take] at this
      omega
    have hk' := h _ (List.getElem_mem hk)
    refine ⟨_, rfl, w_asg (v_cO (v_aC rfl (v_aC rfl (v_a1 rfl))) (e_with_row K F hw hl sp hk'.1 hk'.2)) ⟨rfl, _, by
      unfold reducedL
      rw [List.take_succ_eq_append_getElem hk, List.foldl_append]
      rfl⟩⟩
  · obtain ⟨rfl, s3, rfl⟩ := h'
    rw [List.take_length]
    exact w_ret rfl rfl
end
theorem ext_zip (m : Nat) : ∀ (rows : List (List Int)) (k : Nat), (rows.zipIdx k).map (fun q => tupL (q.1 ++ unitL m q.2)) = (extL m k rows).map tupL
  | [], _ => rfl
  | r :: rows, k => by
    rw [List.zipIdx_cons, List.map_cons, ext_zip m rows (k + 1)]
    rfl
theorem any_row (l : List Int) : anyD [tupL l] = some (.bl (l.any (· != 0))) := by
  show (ints? (l.map D.int)).map _ = _
  rw [ints?_map]
  rfl
theorem sl_take {l : List Int} {k : Nat} (h : k ≤ l.length) : slD (tupL l) none (some (k : Int)) = some (tupL (l.take k)) := by
  show some (D.tup (cutL _ _ _)) = _
  rw [cut_take (by rw [List.length_map]; exact h), ← List.map_take]
  rfl
theorem sl_drop {l : List Int} {k : Nat} (h : k ≤ l.length) : slD (tupL l) (some (k : Int)) none = some (tupL (l.drop k)) := by
  show some (D.tup (cutL _ _ _)) = _
  rw [cut_drop (by rw [List.length_map]; exact h), ← List.map_drop]
  rfl
theorem end_any (p w : Nat) (f : List Int) : endL p w f = if (f.take w).any (· != 0) = true then none else some (scaleL p (-1) (f.drop w)) := by
  unfold endL
  have : (f.take w).all (fun x => decide (x = 0)) = !(f.take w).any (· != 0) := by
    rw [List.all_eq_not_any_not]
    congr 2
  rw [this]
  cases (f.take w).any (· != 0) <;> rfl
section
variable (K : Type) [CommRing K] {p : Nat} [IsCharP K p]
theorem e_solution_in (F : Fld K p) {dt : D} {rows : List (List Int)} {goal : List Int} (hd : items dt = some (rows.map tupL)) (hw : goal.length ≤ 1000) (hs : rows.length ≤ 1000) (h : ∀ r ∈ rows, r.length = goal.length ∧ Can p r) (hg : Can p goal) : F_solution_in [.int (p : Nat), dt, tupL goal] = some (optR (libSolL p (invP p) rows goal)) := by
  have hp := F.lt
  have hx := TRM.ext_rows (p := p) hp (w := goal.length) h
  have sp := TRM.reduced_ok (K := K) (by omega) F.inv F.h01 hx
  have hxl := TRM.ext_len rows.length 0 rows
  refine w_eq (w_runP rfl (w_seq (w_par (v_xV (v_cO (v_a1 rfl) len_row)) (v_xV (v_cO (v_a1 rfl) (len_items hd))) ?_)))
  rw [List.length_map]
  refine w_seq (w_asg (v_cO (v_aC rfl (v_a1 (v_frz (lc_map rows.zipIdx _ (fun q => tupL (q.1 ++ unitL rows.length q.2)) (v_itE (v_a1 rfl) hd) (by rw [List.length_zipIdx]; omega) fun q hq => ⟨_, rfl, ?_⟩)))) (by
    rw [ext_zip]
    exact e_reduced K F (w := goal.length + rows.length) (by omega) (by omega) hx)) ?_)
  · have hq1 := List.of_mem_zip (l₁ := rows) (l₂ := List.range' 0 rows.length) (by rw [← List.zipIdx_eq_zip_range']; exact hq)
    have := h q.1 hq1.1
    refine (v_tup (v_aS rfl rfl (v_aS (v_cO (v_aC rfl (v_a1 rfl)) (e_single_row (n := rows.length) (by omega))) rfl rfl)) ?_).trans ?_
    · rw [List.append_nil, List.length_append, List.length_map, List.length_map, TRM.unit_len]
      omega
    · rw [List.append_nil, ← List.map_append]
      rfl
  refine w_seq (w_asg (d := tupL (goal ++ zrs rows.length)) (T' := none) ((v_tup (v_aS rfl rfl (v_aS (v_cO (v_a1 rfl) (e_zero_row (by omega))) rfl rfl)) ?_).trans ?_) ?_)
  · rw [List.append_nil, List.length_append, List.length_map, List.length_map, TRM.zrs_len]
    omega
  · rw [List.append_nil, ← List.map_append]
    rfl
  have hv := TRM.goal_ok (p := p) hp hg rows.length
  refine w_seq (w_fold (reducedL p (invP p) (extL rows.length 0 rows)) tupL (fun v l => if ldD l < goal.length ∧ v.getD (ldD l) 0 ≠ 0 then plusL p v l (-(v.getD (ldD l) 0)) else v) (fun v ρ => v.length = goal.length + rows.length ∧ ∃ s5 s8 s9, ρ = [.val (.int (p : Nat)), .val dt, .val (tupL goal), .val (.int (goal.length : Nat)), .val (.int (rows.length : Nat)), s5, .val (tabT (reducedL p (invP p) (extL rows.length 0 rows))), .val (tupL v), s8, s9]) (goal ++ zrs rows.length) (v_itT rfl) ⟨by rw [List.length_append, TRM.zrs_len], _, _, _, rfl⟩ (fun v l hl ρ h' => ?_) fun ρ h' => ?_)
  · obtain ⟨h1, s5, s8, s9, rfl⟩ := h'
    obtain ⟨L, hL⟩ := sp.sys.lead l hl
    obtain ⟨k1, _, _⟩ := TRM.lead_some hL
    have k2 := sp.sys.len l hl
    have eL : ldD l = L := by unfold ldD; rw [hL]; rfl
    rw [eL]
    refine ⟨_, rfl, w_seq (w_asg (v_cO (v_a1 rfl) (e_lead_of l)) ?_)⟩
    rw [hL]
    by_cases z1 : L < goal.length
    · by_cases z2 : v.getD L 0 = 0
      · rw [if_neg fun z => z.2 z2]
        exact w_ifF (v_andT (v_tst (v_bO rfl rfl (by rw [← decide_eq_true (show (L : Int) < (goal.length : Int) by omega)]; rfl))) (v_tst (v_bO (v_bO rfl rfl (ix_row (by omega))) rfl (by rw [z2]; rfl)))) (w_nx ⟨rfl, h1, _, _, _, rfl⟩)
      · rw [if_pos ⟨z1, z2⟩]
        refine w_ifT (v_andT (v_tst (v_bO rfl rfl (by rw [← decide_eq_true (show (L : Int) < (goal.length : Int) by omega)]; rfl))) (v_tst (v_bO (v_bO rfl rfl (ix_row (by omega))) rfl (by rw [ne_int, beq_false_of_ne z2]; rfl)))) (w_asg (v_cO (v_aC rfl (v_aC rfl (v_aC rfl (v_a1 (v_uO (v_bO rfl rfl (ix_row (by omega))) neg_int))))) (e_added_row (by omega) (by omega) (can_abs F.le (sp.sys.can l hl)))) ⟨rfl, by rw [TRM.plus_len (by omega), h1], _, _, _, rfl⟩)
    · rw [if_neg fun z => z1 z.1]
      exact w_ifF (v_andF (v_tst (v_bO rfl rfl (by rw [← decide_eq_false (show ¬ (L : Int) < (goal.length : Int) by omega)]; rfl)))) (w_nx ⟨rfl, h1, _, _, _, rfl⟩)
  · obtain ⟨h1, s5, s8, s9, rfl⟩ := h'
    obtain ⟨h2, h3, _⟩ := TRM.libFold_spec (K := K) (p := p) (by omega) (w := goal.length) sp.sys.len (v := goal ++ zrs rows.length) (by rw [List.length_append, TRM.zrs_len]) hv
    have ef : libFold p goal.length (reducedL p (invP p) (extL rows.length 0 rows)) (goal ++ zrs rows.length) = (reducedL p (invP p) (extL rows.length 0 rows)).foldl (fun v l => if ldD l < goal.length ∧ v.getD (ldD l) 0 ≠ 0 then plusL p v l (-(v.getD (ldD l) 0)) else v) (goal ++ zrs rows.length) := rfl
    rw [← ef] at h1 ⊢
    have es : libSolL p (invP p) rows goal = endL p goal.length (libFold p goal.length (reducedL p (invP p) (extL rows.length 0 rows)) (goal ++ zrs rows.length)) := rfl
    rw [es, end_any]
    generalize libFold p goal.length (reducedL p (invP p) (extL rows.length 0 rows)) (goal ++ zrs rows.length) = f at *
    by_cases z : (f.take goal.length).any (· != 0) = true
    · rw [if_pos z]
      exact w_ret (v_ifT (v_tst (v_cO (v_a1 (v_sl rfl rfl (v_oS rfl) (sl_take (by omega)))) (by rw [any_row, z]))) rfl) rfl
    · rw [if_neg z]
      have z' : (f.take goal.length).any (· != 0) = false := by simpa using z
      exact w_ret (v_ifF (v_tst (v_cO (v_a1 (v_sl rfl rfl (v_oS rfl) (sl_take (by omega)))) (by rw [any_row, z']))) (v_cO (v_aC rfl (v_aC rfl (v_a1 (v_sl rfl (v_oS rfl) rfl (sl_drop (by omega)))))) (e_scaled_row (by omega) (by rw [List.length_drop]; omega) fun x hx => can_abs F.le h3 x (List.mem_of_mem_drop hx)))) rfl
end
end TR

/-! The law's solver: what the functions give. -/
namespace TR
open PySem L2
open Lean.Grind (CommRing IsCharP)
open TRM (plusL scaleL leadL restL withL reducedL freeL Can zrs unitL unitsL invP PR Fld ledI mulV sm ldD extL libFold lawFold endL libSolL lawSolL SysOk Spec stepL lawRedL LawInv)
/-! ### equal lists -/
abbrev rowP (l : List Int) : PyData := .tuple (l.map .int)
theorem toPs_map {α : Type} {f : α → D} {g : α → PyData} (h : ∀ x, toP (f x) = some (g x)) : ∀ l : List α, toPs (l.map f) = some (l.map g)
  | [] => by rw [List.map_nil, toPs]; rfl
  | x :: l => by rw [List.map_cons, toPs, h x, Option.bind_some, toPs_map h l]; rfl
theorem toP_row (l : List Int) : toP (tupL l) = some (rowP l) := by
  show toP (.tup _) = _
  rw [toP, toPs_map toP_int]
  rfl
theorem toP_tab (l : List (List Int)) : toP (tabS l) = some (.list (l.map rowP)) := by
  rw [toP, toPs_map toP_row]
  rfl
theorem toP_lst (l : List Int) : toP (.lst (l.map .int)) = some (.list (l.map .int)) := by
  rw [toP, toPs_map toP_int]
  rfl
theorem lay_all {α : Type} {g : α → PyData} (h : ∀ x, (g x).canLay0 = true) : ∀ l : List α, PyData.canLayAll0 (l.map g) = true
  | [] => rfl
  | x :: l => by
    show ((g x).canLay0 && PyData.canLayAll0 (l.map g)) = true
    rw [h x, lay_all h l]
    rfl
theorem dep_all {α : Type} {g : α → PyData} {n : Nat} (h : ∀ x, (g x).depth ≤ n) : ∀ l : List α, PyData.depthAll (l.map g) ≤ n
  | [] => Nat.zero_le _
  | x :: l => by
    show max (g x).depth (PyData.depthAll (l.map g)) ≤ n
    have h1 := h x
    have h2 := dep_all h l
    omega
theorem lay_int (l : List Int) : PyData.canLayAll0 (l.map .int) = true := lay_all (fun _ => rfl) l
theorem dep_int (l : List Int) : PyData.depthAll (l.map .int) ≤ 0 := dep_all (g := PyData.int) (fun _ => Nat.zero_le _) l
theorem shaped_of {x : PyData} (h1 : x.canLay0 = true) (h2 : x.depth ≤ 64) : SeqAt.shaped x = true := by
  unfold SeqAt.shaped
  rw [h1, decide_eq_true h2]
  rfl
theorem shaped_row (l : List Int) : SeqAt.shaped (rowP l) = true := shaped_of (lay_int l) (by
  show PyData.depthAll (l.map .int) + 1 ≤ 64
  have := dep_int l
  omega)
theorem shaped_lst (l : List Int) : SeqAt.shaped (.list (l.map .int)) = true := shaped_of (lay_int l) (by
  show PyData.depthAll (l.map .int) + 1 ≤ 64
  have := dep_int l
  omega)
theorem shaped_tab (l : List (List Int)) : SeqAt.shaped (.list (l.map rowP)) = true := shaped_of (lay_all (g := rowP) (fun l => lay_int l) l) (by
  show PyData.depthAll (l.map rowP) + 1 ≤ 64
  have : PyData.depthAll (l.map rowP) ≤ 1 := dep_all (g := rowP) (fun l => by
    show PyData.depthAll (l.map .int) + 1 ≤ 1
    have := dep_int l
    omega) l
  omega)
theorem eqv_map {α : Type} [DecidableEq α] {g : α → PyData} (h : ∀ x y, PyData.eqv (g x) (g y) = decide (x = y)) : ∀ a b : List α, PyData.eqvAll (a.map g) (b.map g) = decide (a = b)
  | [], [] => rfl
  | [], _ :: _ => rfl
  | _ :: _, [] => rfl
  | x :: a, y :: b => by
    show (PyData.eqv (g x) (g y) && PyData.eqvAll (a.map g) (b.map g)) = _
    rw [h x y, eqv_map h a b, ← Bool.decide_and]
    exact decide_eq_decide.mpr (by rw [List.cons.injEq])
theorem eqv_int (x y : Int) : PyData.eqv (.int x) (.int y) = decide (x = y) := by
  show (x == y) = _
  rw [Bool.beq_eq_decide_eq]
theorem eqv_row (a b : List Int) : PyData.eqv (rowP a) (rowP b) = decide (a = b) := eqv_map eqv_int a b
theorem eqB_row (a b : List Int) : eqB (tupL a) (tupL b) = some (decide (a = b)) := by
  unfold eqB
  rw [toP_row, toP_row, Option.bind_some, Option.bind_some, shaped_row, shaped_row, eqv_row]
  rfl
theorem eqB_tab (a b : List (List Int)) : eqB (tabS a) (tabS b) = some (decide (a = b)) := by
  unfold eqB
  rw [toP_tab, toP_tab, Option.bind_some, Option.bind_some, shaped_tab, shaped_tab]
  show some (PyData.eqvAll _ _) = _
  rw [eqv_map eqv_row]
theorem eq_row (a b : List Int) : eqD (tupL a) (tupL b) = some (.bl (decide (a = b))) := by unfold eqD; rw [eqB_row]; rfl
theorem ne_row (a b : List Int) : neD (tupL a) (tupL b) = some (.bl (!decide (a = b))) := by unfold neD; rw [eqB_row]; rfl
theorem eq_tab (a b : List (List Int)) : eqD (tabS a) (tabS b) = some (.bl (decide (a = b))) := by unfold eqD; rw [eqB_tab]; rfl
/-! ### the law's inverse -/
theorem e_law_undone {p : Nat} (hp : PR p) {x : Int} (h1 : 0 < x) (h2 : x < (p : Int)) : F_law_undone [.int (p : Nat), .int x] = some (.int (invP p x)) := by
  rcases hp with h | h | h | h
  · subst h
    have : x = 1 := by omega
    subst this; rfl
  · subst h
    have : x = 1 ∨ x = 2 := by omega
    rcases this with h | h <;> subst h <;> rfl
  · subst h
    have : x = 1 ∨ x = 2 ∨ x = 3 ∨ x = 4 := by omega
    rcases this with h | h | h | h <;> subst h <;> rfl
  · subst h
    have : x = 1 ∨ x = 2 ∨ x = 3 ∨ x = 4 ∨ x = 5 ∨ x = 6 := by omega
    rcases this with h | h | h | h | h | h <;> subst h <;> rfl
theorem cat_lst {a b : List D} (h : a.length + b.length ≤ 100000) : addD (.lst a) (.lst b) = some (.lst (a ++ b)) := by
  have hc : catL (.lst a) (.lst b) = some (.lst (a ++ b)) := if_pos h
  show (match catL (.lst a) (.lst b) with
    | some z => some z
    | none => catT (.lst a) (.lst b)) = _
  rw [hc]
theorem foldl_max_le : ∀ {l : List Int} {n : Int}, (∀ x ∈ l, x ≤ n) → l.foldl max n = n
  | [], _, _ => rfl
  | x :: l, n, h => by
    have := h x List.mem_cons_self
    rw [List.foldl_cons, show max n x = n by omega]
    exact foldl_max_le fun y hy => h y (List.mem_cons_of_mem _ hy)
theorem max_len {w : Nat} {rows : List (List Int)} (h : ∀ r ∈ rows, r.length = w) (hne : rows ≠ []) : maxD1 [.lst (rows.map (fun r => D.int (r.length : Nat)) ++ [.int 0])] = some (.int (w : Nat)) := by
  have e : rows.map (fun r => D.int (r.length : Nat)) ++ [.int 0] = (rows.map (fun (r : List Int) => ((r.length : Nat) : Int)) ++ [0]).map D.int := by
    rw [List.map_append, List.map_map]
    rfl
  show (ints? _).bind _ = _
  rw [e, ints?_map, Option.bind_some]
  cases rows with
  | nil => exact absurd rfl hne
  | cons r rows =>
    show some (D.int ((rows.map (fun (r : List Int) => ((r.length : Nat) : Int)) ++ [0]).foldl max (r.length : Nat))) = _
    rw [h r List.mem_cons_self, foldl_max_le]
    intro x hx
    rcases List.mem_append.mp hx with z | z
    · obtain ⟨q, hq, rfl⟩ := List.mem_map.mp z
      rw [h q (List.mem_cons_of_mem _ hq)]
      exact Int.le_refl _
    · rw [List.mem_singleton.mp z]; omega
theorem tabS_map {α : Type} (f : α → List Int) (l : List α) : D.lst (l.map fun x => tupL (f x)) = tabS (l.map f) := by
  show D.lst _ = D.lst ((l.map f).map tupL)
  rw [List.map_map]
  rfl
theorem tabT_map {α : Type} (f : α → List Int) (l : List α) : D.tup (l.map fun x => tupL (f x)) = tabT (l.map f) := by
  show D.tup _ = D.tup ((l.map f).map tupL)
  rw [List.map_map]
  rfl
theorem tabS_app (a b : List (List Int)) : D.lst (a.map tupL ++ b.map tupL) = tabS (a ++ b) := by
  show D.lst _ = D.lst ((a ++ b).map tupL)
  rw [List.map_append]
theorem ix_head (d : D) (ds : List D) : ixD (.lst (d :: ds)) (.int 0) = some d := by
  show atI (d :: ds) ((0 : Nat) : Int) = some d
  unfold atI
  rw [ixN_nat (by rw [List.length_cons]; omega)]
  rfl
theorem run2_len {p : Nat} {inv : Int → Int} {rows : List (List Int)} : ∀ k : Nat, ((List.range k).foldl (fun st a => stepL p inv a st) (rows, [])).2.length ≤ k
  | 0 => Nat.le_refl _
  | k + 1 => by
    rw [List.range_succ, List.foldl_append]
    have := run2_len (p := p) (inv := inv) (rows := rows) k
    show (stepL p inv k ((List.range k).foldl (fun st a => stepL p inv a st) (rows, []))).2.length ≤ k + 1
    generalize (List.range k).foldl (fun st a => stepL p inv a st) (rows, []) = st at *
    unfold stepL
    split
    · omega
    · dsimp only
      unfold freeL
      rw [List.length_append, List.length_map, List.length_cons, List.length_nil]
      omega
section
variable (K : Type) [CommRing K] {p : Nat} [IsCharP K p]
theorem e_law_reduced (F : Fld K p) {w : Nat} {rows : List (List Int)} (hw : w ≤ 5000) (hs : rows.length ≤ 5000) (hne : rows ≠ []) (h : ∀ r ∈ rows, r.length = w ∧ Can p r) : F_law_reduced [.int (p : Nat), tabS rows] = some (tabT (lawRedL p (invP p) w rows)) := by
  have hp := F.lt
  have hle := F.le
  refine w_eq (w_runP rfl (w_seq (w_par (s1 := .val (tabS rows)) (T1 := none) (v_xV (v_frz (lc_map rows tupL tupL (v_itL rfl) (by omega) fun r _ => ⟨_, rfl, v_cO (v_a1 rfl) rfl⟩))) (v_xV (v_lst rfl (by decide))) (w_seq (w_asg (v_cO (v_a1 (v_bO (v_frz (lc_map rows tupL (fun r => D.int (r.length : Nat)) (v_itL rfl) (by omega) fun r _ => ⟨_, rfl, v_cO (v_a1 rfl) len_row⟩)) (v_lst (v_a1 rfl) (by decide)) (cat_lst (by rw [List.length_map, List.length_cons, List.length_nil]; omega)))) (max_len (fun r hr => (h r hr).1) hne)) (w_seq (w_for (List.range w) (fun (k : Nat) => D.int (k : Nat)) (fun k ρ T => T = none ∧ ∃ s5 s6 s7 s8 s9, ρ = [.val (.int (p : Nat)), .val (tabS rows), .val (tabS ((List.range k).foldl (fun st a => stepL p (invP p) a st) (rows, [])).1), .val (tabS ((List.range k).foldl (fun st a => stepL p (invP p) a st) (rows, [])).2), .val (.int (w : Nat)), s5, s6, s7, s8, s9]) (v_itR (v_a1 rfl) (by omega)) ⟨rfl, _, _, _, _, _, rfl⟩ (fun k hk ρ T h' => ?_) fun ρ T h' => ?_)))))))
  · obtain ⟨rfl, s5, s6, s7, s8, s9, rfl⟩ := h'
    have hk' : k < w := by rw [List.length_range] at hk; exact hk
    have li := TRM.law_run (K := K) (p := p) (by omega) F.inv F.h01 h k (by omega)
    have fl := run2_len (p := p) (inv := invP p) (rows := rows) k
    have en : (List.range (k + 1)).foldl (fun st a => stepL p (invP p) a st) (rows, []) = stepL p (invP p) k ((List.range k).foldl (fun st a => stepL p (invP p) a st) (rows, [])) := by
      rw [List.range_succ, List.foldl_append]
      rfl
    rw [en, List.getElem_range]
    generalize (List.range k).foldl (fun st a => stepL p (invP p) a st) (rows, []) = st at *
    obtain ⟨lf, fd⟩ := st
    have hll := li.len
    have lfl : lf.length ≤ 5000 := by
      have : lf.length = rows.length := hll
      omega
    have fdl : fd.length ≤ k := fl
    have sh := li.shape
    dsimp only at sh
    have fsh : ∀ l ∈ fd, l.length = w := li.sys.len
    refine ⟨_, rfl, w_seq (w_asg (v_frz (lc_filter lf tupL tupL (fun r => decide (r.getD k 0 ≠ 0)) (v_itL rfl) (by omega) fun r hr => ⟨_, rfl, v_tst (v_bO (v_bO rfl rfl (ix_row (by have := (sh r hr).1; omega))) rfl (by
      rw [ne_int]
      by_cases z : r.getD k 0 = 0
      · rw [z]; rfl
      · rw [beq_false_of_ne z, decide_eq_true z]; rfl)), fun _ => rfl⟩)) (w_seq (w_if (v_tst (v_bO rfl (v_lst rfl (by decide)) (eq_tab _ []))) (fun z => ?_) fun z => ?_)))⟩
    · have z0 : (lf.filter fun r => decide (r.getD k 0 ≠ 0)) = [] := by simpa using z
      refine w_ct ⟨rfl, _, _, _, _, _, by
        unfold stepL
        dsimp only
        rw [z0]
        rfl⟩
    · have z0 : (lf.filter fun r => decide (r.getD k 0 ≠ 0)) ≠ [] := by
        intro e
        rw [e] at z
        exact Bool.noConfusion z
      cases ef : (lf.filter fun r => decide (r.getD k 0 ≠ 0)) with
      | nil => exact absurd ef z0
      | cons r rest =>
        have hr : r ∈ lf ∧ r.getD k 0 ≠ 0 := by
          have : r ∈ lf.filter fun r => decide (r.getD k 0 ≠ 0) := by rw [ef]; exact List.mem_cons_self
          obtain ⟨h1, h2⟩ := List.mem_filter.mp this
          exact ⟨h1, by simpa using h2⟩
        obtain ⟨rl, rc⟩ := sh r hr.1
        have hkr : k < r.length := by omega
        have cx := rc _ (List.getElem_mem hkr)
        have gx : r.getD k 0 = r[k] := TRM.getD_at hkr
        have e1 := e_law_undone F.pr (x := r.getD k 0) (by have := hr.2; omega) (by omega)
        have iv := (TRM.invP_ok F.pr (x := r.getD k 0) (by have := hr.2; omega) (by omega)).1
        have es : stepL p (invP p) k (lf, fd) = (freeL p k (scaleL p (invP p (r.getD k 0)) r) lf, freeL p k (scaleL p (invP p (r.getD k 0)) r) fd ++ [scaleL p (invP p (r.getD k 0)) r]) := by
          unfold stepL
          dsimp only
          rw [ef]
        rw [es]
        have hhl : (scaleL p (invP p (r.getD k 0)) r).length = w := by rw [TRM.scale_len, rl]
        have hhc : Can p (scaleL p (invP p (r.getD k 0)) r) := TRM.can_scale (by omega)
        have eh : D.tup (r.map fun x => .int (x * invP p (r.getD k 0) % (p : Int))) = tupL (scaleL p (invP p (r.getD k 0)) r) := by
          unfold tupL scaleL
          rw [List.map_map]
          congr 1
          exact List.map_congr_left fun x _ => by rw [Int.mul_comm]; rfl
        have ep : ∀ l : List Int, l.length = w → F_law_plus [.int (p : Nat), tupL l, tupL (scaleL p (invP p (r.getD k 0)) r), .int (0 - l.getD k 0)] = some (tupL (plusL p l (scaleL p (invP p (r.getD k 0)) r) (-(l.getD k 0)))) := fun l hl => by
          rw [Int.zero_sub]
          exact e_law_plus (by omega) (by omega) (can_abs F.le hhc)
        generalize scaleL p (invP p (r.getD k 0)) r = hd at *
        refine w_nx (w_seq (w_asg (v_cO (v_a1 (v_frz (lc_map r D.int (fun x => .int (x * invP p (r.getD k 0) % (p : Int))) (v_itT (v_bO rfl rfl (ix_head _ _))) (by omega) fun x hx => ⟨_, rfl, v_bO (v_bO rfl (v_cO (v_aC rfl (v_a1 (v_bO (v_bO rfl rfl (ix_head _ _)) rfl (ix_row hkr)))) e1) (mul_int (by omega))) rfl (mod_int (by omega))⟩))) (show _ = some (tupL hd) from congrArg some eh)) ?_))
        refine w_seq (w_asg (d := tabS (freeL p k hd lf)) (T' := none) ((v_frz (lc_map lf tupL (fun l => tupL (plusL p l hd (-(l.getD k 0)))) (v_itL rfl) (by omega) fun l hl => ⟨_, rfl, v_cO (v_aC rfl (v_aC rfl (v_aC rfl (v_a1 (v_bO rfl (v_bO rfl rfl (ix_row (by have := (sh l hl).1; omega))) sub_int))))) (ep l (sh l hl).1)⟩)).trans (by rw [tabS_map]; rfl)) ?_)
        refine w_asg (v_bO (x := tabS (freeL p k hd fd)) (T1 := none) ((v_frz (lc_map fd tupL (fun l => tupL (plusL p l hd (-(l.getD k 0)))) (v_itL rfl) (by omega) fun l hl => ⟨_, rfl, v_cO (v_aC rfl (v_aC rfl (v_aC rfl (v_a1 (v_bO rfl (v_bO rfl rfl (ix_row (by have := fsh l hl; omega))) sub_int))))) (ep l (fsh l hl))⟩)).trans (by rw [tabS_map]; rfl)) (v_lst (v_a1 rfl) (by show 1 ≤ 100000; decide)) (cat_lst (by unfold freeL; rw [List.length_map, List.length_map, List.length_cons, List.length_nil]; omega))) ⟨rfl, _, _, _, _, _, by
          rw [← tabS_app]
          rfl⟩
  · obtain ⟨rfl, s5, s6, s7, s8, s9, rfl⟩ := h'
    rw [List.length_range]
    exact w_ret (v_cO (v_a1 rfl) rfl) rfl
end
theorem unit_enc2 (n k : Nat) : (List.range n).map (fun (j : Nat) => D.int (if ((k : Int) == (j : Int)) = true then 1 else 0)) = (unitL n k).map D.int := by
  rw [← unit_enc]
  refine List.map_congr_left fun j _ => ?_
  have : ((k : Int) == (j : Int)) = ((j : Int) == (k : Int)) := Bool.beq_comm
  rw [this]
theorem zip_lead : ∀ {l : List Int} {L : Nat} (n : Nat), leadL l = some L → ∃ q rest, ((l.zipIdx n).filter fun q => decide (q.1 ≠ 0)) = q :: rest ∧ q.2 = n + L
  | [], L, n, h => by cases h
  | x :: l, L, n, h => by
    unfold leadL at h
    rw [List.findIdx?_cons] at h
    rw [List.zipIdx_cons]
    by_cases z : x = 0
    · subst z
      rw [if_neg (by decide)] at h
      obtain ⟨M, h1, h2⟩ := Option.map_eq_some_iff.mp h
      obtain ⟨q, rest, h3, h4⟩ := zip_lead (n + 1) (show leadL l = some M from h1)
      exact ⟨q, rest, by rw [List.filter_cons_of_neg (by simp)]; exact h3, by rw [h4, ← h2]; omega⟩
    · rw [if_pos (by simpa using z)] at h
      cases h
      exact ⟨_, _, by rw [List.filter_cons_of_pos (by simpa using z)], rfl⟩
theorem max_any {l : List Int} (h : ∀ x ∈ l, 0 ≤ x) : ∃ m, mxI (l ++ [0]) = some m ∧ decide (0 < m) = l.any (· != 0) := by
  cases l with
  | nil => exact ⟨0, rfl, rfl⟩
  | cons x l =>
    obtain ⟨h1, h2, h3⟩ := foldl_max (l ++ [0]) x
    refine ⟨_, rfl, ?_⟩
    generalize (l ++ [0]).foldl max x = m at *
    by_cases z : 0 < m
    · rw [decide_eq_true z]
      symm
      rw [List.any_eq_true]
      have hm : m ∈ x :: l := by
        rcases List.mem_cons.mp h2 with e | e
        · rw [e]; exact List.mem_cons_self
        · rcases List.mem_append.mp e with e | e
          · exact List.mem_cons_of_mem _ e
          · rw [List.mem_singleton.mp e] at z; omega
      exact ⟨m, hm, by simp; omega⟩
    · rw [decide_eq_false z]
      symm
      rw [List.any_eq_false]
      intro y hy
      have h4 := h y hy
      have h5 : y ≤ m := by
        rcases List.mem_cons.mp hy with e | e
        · rw [e]; exact h1
        · exact h3 y (List.mem_append_left _ e)
      simp; omega
section
variable (K : Type) [CommRing K] {p : Nat} [IsCharP K p]
theorem e_law_solved (F : Fld K p) {rows : List (List Int)} {goal : List Int} (hw : goal.length ≤ 1000) (hs : rows.length ≤ 1000) (hne : rows ≠ []) (h : ∀ r ∈ rows, r.length = goal.length ∧ Can p r) (hg : Can p goal) : F_law_solved [.int (p : Nat), tabS rows, tupL goal] = some (optR (lawSolL p (invP p) rows goal)) := by
  have hp := F.lt
  have hle := F.le
  have hx := TRM.ext_rows (p := p) hp (w := goal.length) h
  have sp := (TRM.law_ok (K := K) (by omega) F.inv F.h01 hx).1
  have hxl := TRM.ext_len rows.length 0 rows
  refine w_eq (w_runP rfl (w_seq (w_par (v_xV (v_cO (v_a1 rfl) len_row)) (v_xV (v_cO (v_a1 rfl) len_lst)) ?_)))
  rw [List.length_map]
  refine w_seq (w_asg (v_frz (lc_map rows.zipIdx _ (fun q => tupL (q.1 ++ unitL rows.length q.2)) (v_itE (v_a1 rfl) rfl) (by rw [List.length_zipIdx]; omega) fun q hq => ⟨_, rfl, ?_⟩)) ?_)
  · have hq1 := List.of_mem_zip (l₁ := rows) (l₂ := List.range' 0 rows.length) (by rw [← List.zipIdx_eq_zip_range']; exact hq)
    have := h q.1 hq1.1
    refine v_bO (y := tupL (unitL rows.length q.2)) (v_cO (v_a1 rfl) rfl) (v_cO (v_a1 (v_frz (lc_map (List.range rows.length) _ (fun (j : Nat) => D.int (if ((q.2 : Int) == (j : Int)) = true then 1 else 0)) (v_itR (v_a1 rfl) (by omega)) (by rw [List.length_range]; omega) fun j _ => ⟨_, rfl, v_cO (v_a1 (v_bO rfl rfl eq_int)) int_bl⟩))) ?_) (cat_rows (by rw [TRM.unit_len]; omega))
    show some (D.tup _) = some (D.tup _)
    rw [unit_enc2]
  rw [ext_zip]
  refine w_seq (w_asg (v_bO (v_cO (v_a1 rfl) rfl) (v_bO (v_tup (v_a1 rfl) (by decide)) rfl (zeros_row (by omega))) (cat_rows (by rw [TRM.zrs_len]; omega))) ?_)
  have hv := TRM.goal_ok (p := p) hp hg rows.length
  have er := e_law_reduced K F (w := goal.length + rows.length) (rows := extL rows.length 0 rows) (by omega) (by omega) (by intro e; rw [e] at hxl; exact hne (List.eq_nil_of_length_eq_zero hxl.symm)) hx
  refine w_seq (w_fold (lawRedL p (invP p) (goal.length + rows.length) (extL rows.length 0 rows)) tupL (fun v l => if ldD l < goal.length then plusL p v l (-(v.getD (ldD l) 0)) else v) (fun v ρ => v.length = goal.length + rows.length ∧ ∃ s5 s7 s8 s9 s10 s11 s12, ρ = [.val (.int (p : Nat)), .val (tabS rows), .val (tupL goal), .val (.int (goal.length : Nat)), .val (.int (rows.length : Nat)), s5, .val (tupL v), s7, s8, s9, s10, s11, s12]) (goal ++ zrs rows.length) (v_itT (v_cO (v_aC rfl (v_a1 rfl)) er)) ⟨by rw [List.length_append, TRM.zrs_len], _, _, _, _, _, _, _, rfl⟩ (fun v l hl ρ h' => ?_) fun ρ h' => ?_)
  · obtain ⟨h1, s5, s7, s8, s9, s10, s11, s12, rfl⟩ := h'
    obtain ⟨L, hL⟩ := sp.sys.lead l hl
    obtain ⟨k1, _, _⟩ := TRM.lead_some hL
    have k2 := sp.sys.len l hl
    have eL : ldD l = L := by unfold ldD; rw [hL]; rfl
    rw [eL]
    obtain ⟨q, rest, z1, z2⟩ := zip_lead 0 hL
    refine ⟨_, rfl, w_seq (w_asg (d := .int (L : Nat)) (v_bO (v_frz (lc_filter l.zipIdx _ (fun q => D.int (q.2 : Nat)) (fun q => decide (q.1 ≠ 0)) (v_itE (f1 := D.int) (v_a1 rfl) rfl) (by rw [List.length_zipIdx]; omega) fun q hq => ⟨_, rfl, v_tst (v_bO rfl rfl (by
      rw [ne_int]
      by_cases z : q.1 = 0
      · rw [z]; rfl
      · rw [beq_false_of_ne z, decide_eq_true z]; rfl)), fun _ => rfl⟩)) rfl (by
      rw [z1, List.map_cons, ix_head, z2, Nat.zero_add])) ?_)⟩
    by_cases z : L < goal.length
    · rw [if_pos z]
      refine w_ifT (v_tst (v_bO rfl rfl (by rw [← decide_eq_true (show (L : Int) < (goal.length : Int) by omega)]; rfl))) (w_asg (v_cO (v_aC rfl (v_aC rfl (v_aC rfl (v_a1 (v_bO rfl (v_bO rfl rfl (ix_row (by omega))) sub_int))))) ((e_law_plus (by omega) (by omega) (can_abs F.le (sp.sys.can l hl))).trans (by rw [Int.zero_sub]))) ⟨rfl, by rw [TRM.plus_len (by omega), h1], _, _, _, _, _, _, _, rfl⟩)
    · rw [if_neg z]
      exact w_ifF (v_tst (v_bO rfl rfl (by rw [← decide_eq_false (show ¬ (L : Int) < (goal.length : Int) by omega)]; rfl))) (w_nx ⟨rfl, h1, _, _, _, _, _, _, _, rfl⟩)
  · obtain ⟨h1, s5, s7, s8, s9, s10, s11, s12, rfl⟩ := h'
    obtain ⟨h2, h3, _⟩ := TRM.lawFold_spec (K := K) (p := p) (by omega) (w := goal.length) sp.sys.len (v := goal ++ zrs rows.length) (by rw [List.length_append, TRM.zrs_len]) hv
    have ef : lawFold p goal.length (lawRedL p (invP p) (goal.length + rows.length) (extL rows.length 0 rows)) (goal ++ zrs rows.length) = (lawRedL p (invP p) (goal.length + rows.length) (extL rows.length 0 rows)).foldl (fun v l => if ldD l < goal.length then plusL p v l (-(v.getD (ldD l) 0)) else v) (goal ++ zrs rows.length) := rfl
    rw [← ef] at h1 ⊢
    have es : lawSolL p (invP p) rows goal = endL p goal.length (lawFold p goal.length (lawRedL p (invP p) (goal.length + rows.length) (extL rows.length 0 rows)) (goal ++ zrs rows.length)) := rfl
    rw [es, end_any]
    generalize lawFold p goal.length (lawRedL p (invP p) (goal.length + rows.length) (extL rows.length 0 rows)) (goal ++ zrs rows.length) = f at *
    obtain ⟨m, m1, m2⟩ := max_any (l := f.take goal.length) fun x hx => (h3 x (List.mem_of_mem_take hx)).1
    have em : maxD1 [tupL (f.take goal.length ++ [0])] = some (.int m) := by
      show (ints? _).bind _ = _
      rw [ints?_map, Option.bind_some, m1]
      rfl
    have tl : (f.take goal.length).length ≤ 1000 := by rw [List.length_take]; omega
    have vm : ∀ s5 s7 s8 s9 s10 s11 s12, tst (bO gtD (cO maxD1 (aC (bO addD (slE (vr 6) oN (oS (vr 3))) (tupE (lenOk (aC (cD (.int 0)) aN)))) aN)) (cD (.int 0))) [.val (.int (p : Nat)), .val (tabS rows), .val (tupL goal), .val (.int (goal.length : Nat)), .val (.int (rows.length : Nat)), s5, .val (tupL f), s7, s8, s9, s10, s11, s12] none = some ((f.take goal.length).any (· != 0), none) := fun s5 s7 s8 s9 s10 s11 s12 => v_tst (v_bO (v_cO (v_a1 (v_bO (v_sl rfl rfl (v_oS rfl) (sl_take (by omega))) (v_tup (v_a1 rfl) (by decide)) (cat_rows (b := [0]) (by rw [List.length_cons, List.length_nil]; omega)))) em) rfl (by rw [gt_int, m2]))
    by_cases z : (f.take goal.length).any (· != 0) = true
    · rw [if_pos z]
      refine w_ret (v_ifT ((vm _ _ _ _ _ _ _).trans (by rw [z])) rfl) rfl
    · rw [if_neg z]
      have z' : (f.take goal.length).any (· != 0) = false := by simpa using z
      refine w_ret (v_ifF ((vm _ _ _ _ _ _ _).trans (by rw [z'])) (v_cO (v_a1 (v_frz (lc_map (f.drop goal.length) D.int (fun x => .int ((0 - x) % (p : Int))) (v_itT (v_sl rfl (v_oS rfl) rfl (sl_drop (by omega)))) (by rw [List.length_drop]; omega) fun x _ => ⟨_, rfl, v_bO (v_bO rfl rfl sub_int) rfl (mod_int (by omega))⟩))) rfl)) ?_
      show D.tup _ = D.tup _
      unfold scaleL
      rw [List.map_map]
      refine congrArg D.tup (List.map_congr_left fun x _ => ?_)
      show D.int _ = D.int (-1 * x % (p : Int))
      rw [Int.zero_sub, Int.neg_one_mul]
end
end TR

/-! The package's ring: what its making gives. -/
namespace TR
open PySem L2
open Lean.Grind (CommRing IsCharP)
open TRM (plusL scaleL leadL Can zrs unitL unitsL invP PR Fld ledI mulV sm libSolL lawSolL Shape Good oneRow oneRows oneGoal blk tb)
abbrev tblT (t : List (List (List Int))) : D := .tup (t.map tabT)
abbrev tblS (t : List (List (List Int))) : D := .lst (t.map tabS)
theorem ix_blT {t : List (List (List Int))} {k : Nat} (h : k < t.length) : ixD (tblT t) (.int (k : Nat)) = some (tabT (t.getD k [])) := ix_tup (f := tabT) [] h
theorem ix_blS {t : List (List (List Int))} {k : Nat} (h : k < t.length) : ixD (tblS t) (.int (k : Nat)) = some (tabS (t.getD k [])) := ix_lst (f := tabS) [] h
theorem ix_bT {t : List (List Int)} {k : Nat} (h : k < t.length) : ixD (tabT t) (.int (k : Nat)) = some (tupL (t.getD k [])) := ix_tup (f := tupL) [] h
theorem ix_bS {t : List (List Int)} {k : Nat} (h : k < t.length) : ixD (tabS t) (.int (k : Nat)) = some (tupL (t.getD k [])) := ix_lst (f := tupL) [] h
section
variable {p n : Nat} {t : List (List (List Int))}
theorem sh_line (s : Shape p n t) {i : Nat} (hi : i < n) : t.getD i [] ∈ t ∧ (t.getD i []).length = n := by
  have h1 : i < t.length := by rw [s.len]; exact hi
  have e1 : t.getD i [] = t[i] := TRM.getD_at h1
  rw [e1]
  exact ⟨List.getElem_mem h1, s.line _ (List.getElem_mem h1)⟩
theorem v_tij {ρ : List SV} {T : Tn} {f g h : FE} (s : Shape p n t) {i j : Nat} (hi : i < n) (hj : j < n) (h1 : f ρ T = some (tblT t, T)) (h2 : g ρ T = some (.int (i : Nat), T)) (h3 : h ρ T = some (.int (j : Nat), T)) : bO ixD (bO ixD f g) h ρ T = some (tupL ((t.getD i []).getD j []), T) :=
  v_bO (v_bO h1 h2 (ix_blT (by rw [s.len]; exact hi))) h3 (ix_bT (by rw [(sh_line s hi).2]; exact hj))
theorem len_tbl (s : Shape p n t) : lenD [tblT t] = some (.int (n : Nat)) := by rw [len_tup, List.length_map, s.len]
theorem own_map {α : Type} (f : Nat → List Int) (k : Nat) : ((List.range k).map f).map tupL ++ [tupL (f k)] = ((List.range (k + 1)).map f).map tupL := by
  rw [List.range_succ, List.map_append, List.map_append]
  rfl
end
section
variable (K : Type) [CommRing K] {p n : Nat} [IsCharP K p] {t : List (List (List Int))}
theorem e_one_in (F : Fld K p) (hn : n ≤ 9) (s : Shape p n t) : F_one_in [.int (p : Nat), tblT t] = some (optR (libSolL p (invP p) (oneRows n t) (oneGoal n))) := by
  have hp := F.lt
  refine w_eq (w_runP rfl (w_seq (w_asg (v_cO (v_a1 rfl) (len_tbl s)) (w_seq (w_par (v_xO (v_len rfl (by decide))) (v_xO (v_len rfl (by decide))) (w_seq (w_for (List.range n) (fun (k : Nat) => D.int (k : Nat)) (fun k ρ T => T = none ∧ ∃ s5 s6 s7, ρ = [.val (.int (p : Nat)), .val (tblT t), .val (.int (n : Nat)), .own (((List.range k).map (oneRow n t)).map tupL), .own [], s5, s6, s7]) (v_itR (v_a1 rfl) (by omega)) ⟨rfl, _, _, _, rfl⟩ (fun k hk ρ T h' => ?_) fun ρ T h' => ?_)))))))
  · obtain ⟨rfl, s5, s6, s7, rfl⟩ := h'
    have hk' : k < n := by rw [List.length_range] at hk; exact hk
    rw [List.getElem_range]
    refine ⟨_, rfl, w_seq (w_own (v_len rfl (by decide)) (w_seq (w_for (List.range n) (fun (k : Nat) => D.int (k : Nat)) (fun j ρ T => T = none ∧ ∃ s7, ρ = [.val (.int (p : Nat)), .val (tblT t), .val (.int (n : Nat)), .own (((List.range k).map (oneRow n t)).map tupL), .own [], .val (.int (k : Nat)), .own ((blk j fun i => (t.getD k []).getD i [] ++ (t.getD i []).getD k []).map .int), s7]) (v_itR (v_a1 rfl) (by omega)) ⟨rfl, _, rfl⟩ (fun j hj ρ T h' => ?_) fun ρ T h' => ?_)))⟩
    · obtain ⟨rfl, s7, rfl⟩ := h'
      have hj' : j < n := by rw [List.length_range] at hj; exact hj
      rw [List.getElem_range]
      have bl : (blk j fun i => (t.getD k []).getD i [] ++ (t.getD i []).getD k []).length = j * (n + n) := TRM.blk_len fun i hi => by rw [List.length_append, (s.at_ hk' (by omega)).1, (s.at_ (by omega) hk').1]
      have b2 : j * (n + n) ≤ 9 * 18 := Nat.mul_le_mul (by omega) (by omega)
      have l1 := (s.at_ hk' hj').1
      have l2 := (s.at_ hj' hk').1
      refine ⟨_, rfl, w_ext rfl (v_lst (v_aS (v_tij s hk' hj' rfl rfl rfl) rfl (v_aS (v_tij s hj' hk' rfl rfl rfl) rfl rfl)) ?_) ?_ ⟨rfl, _, by
        rw [TRM.blk_succ, List.append_nil, ← List.map_append, ← List.map_append]
        rfl⟩⟩
      · rw [List.append_nil, List.length_append, List.length_map, List.length_map]
        omega
      · rw [List.append_nil, List.length_append, List.length_map, List.length_map, List.length_map]
        omega
    · obtain ⟨rfl, s7, rfl⟩ := h'
      refine w_frz rfl (w_app rfl (v_cO (v_a1 rfl) rfl) (by rw [List.length_map, List.length_map, List.length_range]; omega) ⟨rfl, _, _, _, by
        rw [← own_map (α := Nat), List.length_range]
        rfl⟩)
  · obtain ⟨rfl, s5, s6, s7, rfl⟩ := h'
    rw [List.length_range]
    refine w_seq (w_for (List.range n) (fun (k : Nat) => D.int (k : Nat)) (fun k ρ T => T = none ∧ ∃ s5, ρ = [.val (.int (p : Nat)), .val (tblT t), .val (.int (n : Nat)), .own (((List.range n).map (oneRow n t)).map tupL), .own ((blk k fun k => unitL n k ++ unitL n k).map .int), s5, s6, s7]) (v_itR (v_a1 rfl) (by omega)) ⟨rfl, _, rfl⟩ (fun k hk ρ T h' => ?_) fun ρ T h' => ?_)
    · obtain ⟨rfl, s5, rfl⟩ := h'
      have hk' : k < n := by rw [List.length_range] at hk; exact hk
      rw [List.getElem_range]
      have bl : (blk k fun k => unitL n k ++ unitL n k).length = k * (n + n) := TRM.blk_len fun i hi => by rw [List.length_append, TRM.unit_len]
      have b2 : k * (n + n) ≤ 9 * 18 := Nat.mul_le_mul (by omega) (by omega)
      have e1 := e_single_row (n := n) (k := k) (by omega)
      refine ⟨_, rfl, w_ext rfl (v_lst (v_aS (v_cO (v_aC rfl (v_a1 rfl)) e1) rfl (v_aS (v_cO (v_aC rfl (v_a1 rfl)) e1) rfl rfl)) ?_) ?_ ⟨rfl, _, by
        rw [TRM.blk_succ, List.append_nil, ← List.map_append, ← List.map_append]
        rfl⟩⟩
      · rw [List.append_nil, List.length_append, List.length_map, TRM.unit_len]
        omega
      · rw [List.append_nil, List.length_append, List.length_map, List.length_map, TRM.unit_len]
        omega
    · obtain ⟨rfl, s5, rfl⟩ := h'
      rw [List.length_range]
      have gl : (oneGoal n).length ≤ 1000 := by
        rw [TRM.oneGoal_len]
        have b2 : n * (n + n) ≤ 9 * 18 := Nat.mul_le_mul (by omega) (by omega)
        omega
      exact w_frz rfl (w_frz rfl (w_ret (v_cO (v_aC rfl (v_aC rfl (v_a1 (v_cO (v_a1 rfl) rfl)))) (e_solution_in K F (rows := oneRows n t) (goal := oneGoal n) rfl gl (by rw [TRM.oneRows_len]; omega) (TRM.one_rows_ok s) (TRM.oneGoal_can hp))) rfl))
/-- the one, found -/
theorem one_lib (F : Fld K p) (g : Good K p n t) : ∃ x, libSolL p (invP p) (oneRows n t) (oneGoal n) = some x ∧ TRM.Row p n x ∧ TRM.IsOne n (tb K t) (TRM.cv K x) := by
  obtain ⟨x, h1, h2, h3, h4⟩ := TRM.one_ok g.sh (TRM.libSol_ok (K := K) F.lt F.inv F.h01 (TRM.one_rows_ok g.sh) (TRM.oneGoal_can F.lt)) g.one
  exact ⟨x, h1, ⟨h2, h3⟩, h4⟩
theorem one_law (F : Fld K p) (g : Good K p n t) : lawSolL p (invP p) (oneRows n t) (oneGoal n) = libSolL p (invP p) (oneRows n t) (oneGoal n) := by
  obtain ⟨x, h1, h2, h3⟩ := one_lib K F g
  obtain ⟨y, k1, k2, k3, k4⟩ := TRM.one_ok g.sh (TRM.lawSol_ok (K := K) F.lt F.inv F.h01 (TRM.one_rows_ok g.sh) (TRM.oneGoal_can F.lt)) g.one
  rw [h1, k1, TRM.row_eq (K := K) k2 k3 h2.len h2.can (TRM.one_uniq k4 h3)]
theorem led_grp (F : Fld K p) (g : Good K p n t) {i j k : Nat} (hi : i < n) (hj : j < n) (hk : k < n) : ledI p n n (t.map fun l => l.getD k []) ((t.getD i []).getD j []) = ledI p n n (t.getD i []) ((t.getD j []).getD k []) := by
  have hp := F.lt
  refine (TRM.ledI_row (by omega) _ _).eq (K := K) (TRM.ledI_row (by omega) _ _) ((TRM.ledI_cv _ _).trans (TRM.Eq.trans ?_ (TRM.ledI_cv _ _).symm))
  intro c hc
  have := g.asc i hi j hj k hk c hc
  refine Eq.trans (TRM.sm_congr fun m hm => ?_) this
  rw [TRM.getD_map (d := []) (by rw [g.sh.len]; exact hm)]
  rfl
theorem e_group_fault (F : Fld K p) (hn : n ≤ 9) (g : Good K p n t) : F_group_fault [.int (p : Nat), tblT t] = some .non := by
  have hp := F.lt
  have hle := F.le
  have s := g.sh
  have inner : ∀ i j k : Nat, i < n → j < n → k < n → ∀ s3 s4 s5 s6 s7, s3 = SV.val (.int (i : Nat)) → s4 = SV.val (.int (j : Nat)) → s5 = SV.val (.int (k : Nat)) → ∃ d, cO F_led_row (aC (vr 0) (aC (frz (lcE (itT (vr 1)) (gN 7) yesB (bO ixD (vr 7) (vr 5)) [7])) (aC (bO ixD (bO ixD (vr 1) (vr 3)) (vr 4)) (aC (vr 2) aN)))) [.val (.int (p : Nat)), .val (tblT t), .val (.int (n : Nat)), s3, s4, s5, s6, s7] none = some (tupL d, none) ∧
      ∀ s6', cO F_led_row (aC (vr 0) (aC (bO ixD (vr 1) (vr 3)) (aC (bO ixD (bO ixD (vr 1) (vr 4)) (vr 5)) (aC (vr 2) aN)))) [.val (.int (p : Nat)), .val (tblT t), .val (.int (n : Nat)), s3, s4, s5, s6', s7] none = some (tupL d, none) := by
    rintro i j k hi hj hk s3 s4 s5 s6 s7 rfl rfl rfl
    have ca : ∀ {i j : Nat}, i < n → j < n → ∀ x ∈ (t.getD i []).getD j [], x.natAbs < 2 ^ 64 := fun hi hj => can_abs hle (s.at_ hi hj).2
    refine ⟨ledI p n n (t.map fun l => l.getD k []) ((t.getD i []).getD j []), ?_, fun s6' => ?_⟩
    · have e := e_led_row (p := p) (n := n) (m := n) (dt := .lst (t.map fun l => tupL (l.getD k []))) (tbl := t.map fun l => l.getD k []) (row := (t.getD i []).getD j []) (by omega) (by omega) (by omega) (by
        show some _ = some _
        rw [List.map_map]
        rfl) (s.at_ hi hj).1 (by rw [List.length_map, s.len]) fun r hr => by
          obtain ⟨l, hl, rfl⟩ := List.mem_map.mp hr
          have := s.row l hl (l.getD k []) (by rw [TRM.getD_at (by rw [s.line l hl]; exact hk)]; exact List.getElem_mem _)
          exact ⟨this.1, can_abs hle this.2⟩
      exact v_cO (v_aC rfl (v_aC (v_frz (lc_map t tabT (fun l => tupL (l.getD k [])) (v_itT rfl) (by have := s.len; omega) fun l hl => ⟨_, rfl, v_bO rfl rfl (ix_bT (by rw [s.line l hl]; exact hk))⟩)) (v_aC (v_tij s hi hj rfl rfl rfl) (v_a1 rfl)))) e
    · rw [led_grp K F g hi hj hk]
      have e := e_led_row (p := p) (n := n) (m := n) (dt := tabT (t.getD i [])) (tbl := t.getD i []) (row := (t.getD j []).getD k []) (by omega) (by omega) (by omega) rfl (s.at_ hj hk).1 (sh_line s hi).2 fun r hr => by
        have := s.row _ (sh_line s hi).1 r hr
        exact ⟨this.1, can_abs hle this.2⟩
      exact v_cO (v_aC rfl (v_aC (v_bO rfl rfl (ix_blT (by rw [s.len]; exact hi))) (v_aC (v_tij s hj hk rfl rfl rfl) (v_a1 rfl)))) e
  refine w_eq (w_runP rfl (w_seq (w_asg (v_cO (v_a1 rfl) (len_tbl s)) (w_seq (w_for (List.range n) (fun (k : Nat) => D.int (k : Nat)) (fun i ρ T => T = none ∧ ∃ s3 s4 s5 s6 s7, ρ = [.val (.int (p : Nat)), .val (tblT t), .val (.int (n : Nat)), s3, s4, s5, s6, s7]) (v_itR (v_a1 rfl) (by omega)) ⟨rfl, _, _, _, _, _, rfl⟩ (fun i hi ρ T h' => ?_) fun ρ T h' => ?_)))))
  · obtain ⟨rfl, s3, s4, s5, s6, s7, rfl⟩ := h'
    rw [List.length_range] at hi
    rw [List.getElem_range]
    refine ⟨_, rfl, w_for (List.range n) (fun (k : Nat) => D.int (k : Nat)) (fun j ρ T => T = none ∧ ∃ s4 s5 s6 s7, ρ = [.val (.int (p : Nat)), .val (tblT t), .val (.int (n : Nat)), .val (.int (i : Nat)), s4, s5, s6, s7]) (v_itR (v_a1 rfl) (by omega)) ⟨rfl, _, _, _, _, rfl⟩ (fun j hj ρ T h' => ?_) fun ρ T h' => ?_⟩
    · obtain ⟨rfl, s4, s5, s6, s7, rfl⟩ := h'
      rw [List.length_range] at hj
      rw [List.getElem_range]
      refine ⟨_, rfl, w_for (List.range n) (fun (k : Nat) => D.int (k : Nat)) (fun k ρ T => T = none ∧ ∃ s5 s6 s7, ρ = [.val (.int (p : Nat)), .val (tblT t), .val (.int (n : Nat)), .val (.int (i : Nat)), .val (.int (j : Nat)), s5, s6, s7]) (v_itR (v_a1 rfl) (by omega)) ⟨rfl, _, _, _, rfl⟩ (fun k hk ρ T h' => ?_) fun ρ T h' => ?_⟩
      · obtain ⟨rfl, s5, s6, s7, rfl⟩ := h'
        rw [List.length_range] at hk
        rw [List.getElem_range]
        obtain ⟨d, h1, h2⟩ := inner i j k hi hj hk _ _ _ s6 s7 rfl rfl rfl
        refine ⟨_, rfl, w_seq (w_asg h1 (w_ifF (v_tst (v_bO rfl (h2 _) (by rw [ne_row, decide_eq_true rfl]; rfl))) (w_nx ⟨rfl, _, _, _, rfl⟩)))⟩
      · obtain ⟨rfl, s5, s6, s7, rfl⟩ := h'
        exact ⟨rfl, _, _, _, _, rfl⟩
    · obtain ⟨rfl, s4, s5, s6, s7, rfl⟩ := h'
      exact ⟨rfl, _, _, _, _, _, rfl⟩
  · obtain ⟨rfl, s3, s4, s5, s6, s7, rfl⟩ := h'
    exact w_ret rfl rfl
theorem e_fault_in (F : Fld K p) (hn : n ≤ 9) (g : Good K p n t) : F_fault_in [.int (p : Nat), tblT t] = some .non := by
  obtain ⟨x, h1, h2, h3⟩ := one_lib K F g
  have e := e_one_in K F hn g.sh
  rw [h1] at e
  exact w_eq (w_runP rfl (w_seq (w_asg (v_cO (v_aC rfl (v_a1 rfl)) (e_group_fault K F hn g)) (w_seq (w_ifF (v_tst (v_bO rfl rfl rfl)) (w_nx (w_ret (v_ifF (v_tst (v_bO (v_cO (v_aC rfl (v_a1 rfl)) e) rfl rfl)) rfl) rfl)))))))
end
/-! ### checks -/
theorem e_whole (x : Int) : F_is_whole [.int x] = some (.bl true) := rfl
theorem e_within {x a b : Int} (h1 : a ≤ x) (h2 : x ≤ b) : F_is_within [.int x, .int a, .int b] = some (.bl true) :=
  w_eq (w_runP rfl (w_ret (v_eT (v_cO (v_a1 rfl) (e_whole x)) (v_chT rfl rfl (by rw [le_int, decide_eq_true h1]) rfl (by rw [le_int, decide_eq_true h2]))) rfl))
theorem bls_true : ∀ n : Nat, bls? (List.replicate n (D.bl true)) = some (List.replicate n true)
  | 0 => rfl
  | n + 1 => by rw [List.replicate_succ, bls?, bls_true n]; rfl
theorem all_true (n : Nat) : allD [.lst (List.replicate n (D.bl true))] = some (.bl true) := by
  show (bls? _).map _ = _
  rw [bls_true]
  show some (D.bl ((List.replicate n true).all id)) = _
  congr 2
  rw [List.all_eq_true]
  intro x hx
  rw [(List.mem_replicate.mp hx).2]
  rfl
theorem map_const {α : Type} (l : List α) (d : D) : l.map (fun _ => d) = List.replicate l.length d := by
  induction l with
  | nil => rfl
  | cons x l ih => rw [List.map_cons, ih, List.length_cons, List.replicate_succ]
theorem e_residue_row {p n : Nat} {l : List Int} (hn : n ≤ 50000) (r : TRM.Row p n l) : F_is_residue_row [.int (p : Nat), .int (n : Nat), tupL l] = some (.bl true) := by
  refine w_eq (w_runP rfl (w_ret (v_eT (v_uO rfl rfl) (v_eT (v_bO (v_cO (v_a1 rfl) (len_row.trans (by rw [r.len]))) rfl (eq_int.trans (by rw [beq_self_eq_true]))) (v_cO (v_a1 (v_frz (lc_map l D.int (fun _ => .bl true) (v_itT rfl) (by have := r.len; omega) fun x hx => ⟨_, rfl, v_cO (v_aC rfl (v_aC rfl (v_a1 (v_bO rfl rfl sub_int)))) (e_within (r.can x hx).1 (by have := (r.can x hx).2; omega))⟩))) (by rw [map_const]; exact all_true _)))) rfl))
theorem e_prime {p : Nat} (h : PR p) : F_is_prime [.int (p : Nat)] = some (.bl true) := by
  rcases h with h | h | h | h <;> subst h <;> rfl
theorem e_are_products {p n : Nat} {t : List (List (List Int))} (h1 : 1 ≤ n) (hn : n ≤ 9) (s : Shape p n t) : F_are_products [.int (p : Nat), tblT t] = some (.bl true) := by
  refine w_eq (w_runP rfl (w_seq (w_ifF (v_orF (v_notF (v_tst (v_uO rfl rfl))) (v_notF (v_tst (v_chT rfl (v_cO (v_a1 rfl) (len_tbl s)) (by rw [le_int, decide_eq_true (by omega)]) rfl (by rw [le_int, decide_eq_true (by omega)]))))) (w_nx (w_seq (w_asg (v_cO (v_a1 rfl) (len_tbl s)) (w_seq (w_for t tabT (fun k ρ T => T = none ∧ ∃ s3 s4, ρ = [.val (.int (p : Nat)), .val (tblT t), .val (.int (n : Nat)), s3, s4]) (v_itT rfl) ⟨rfl, _, _, rfl⟩ (fun k hk ρ T h' => ?_) fun ρ T h' => ?_))))))))
  · obtain ⟨rfl, s3, s4, rfl⟩ := h'
    have hl := s.line _ (List.getElem_mem hk)
    have hr := s.row _ (List.getElem_mem hk)
    generalize t[k] = l at *
    refine ⟨_, rfl, w_seq (w_ifF (v_orF (v_notF (v_tst (v_uO rfl rfl))) (v_tst (v_bO (v_cO (v_a1 rfl) (len_tup.trans (by rw [List.length_map, hl]))) rfl (by rw [ne_int, beq_self_eq_true]; rfl)))) (w_nx (w_ifF (v_notF (v_tst (v_cO (v_a1 (v_frz (lc_map l tupL (fun _ => .bl true) (v_itT rfl) (by omega) fun x hx => ⟨_, rfl, v_cO (v_aC rfl (v_aC rfl (v_a1 rfl))) (e_residue_row (by omega) ⟨(hr x hx).1, (hr x hx).2⟩)⟩))) (by rw [map_const]; exact all_true _)))) (w_nx ⟨rfl, _, _, rfl⟩))))⟩
  · obtain ⟨rfl, s3, s4, rfl⟩ := h'
    exact w_ret rfl rfl
theorem e_require_prime {p : Nat} (h : PR p) : F_require_prime [.int (p : Nat)] = some .non :=
  w_eq (w_runP rfl (w_ifF (v_notF (v_tst (v_cO (v_a1 rfl) (e_prime h)))) (w_nx rfl)))
theorem e_require_products {p n : Nat} {t : List (List (List Int))} (hp : PR p) (h1 : 1 ≤ n) (hn : n ≤ 9) (s : Shape p n t) : F_require_products [.int (p : Nat), tblT t] = some .non :=
  w_eq (w_runP rfl (w_seq (w_drop (v_cO (v_a1 rfl) (e_require_prime hp)) (w_ifF (v_notF (v_tst (v_cO (v_aC rfl (v_a1 rfl)) (e_are_products h1 hn s)))) (w_nx rfl)))))
section
variable (K : Type) [CommRing K] {p n : Nat} [IsCharP K p] {t : List (List (List Int))}
theorem e_products_told (F : Fld K p) (h1 : 1 ≤ n) (hn : n ≤ 9) (g : Good K p n t) : F_products_told [.int (p : Nat), tblT t] = some (tblT t) :=
  w_eq (w_runP rfl (w_seq (w_ifF (v_tst (v_uO rfl rfl)) (w_nx (w_seq (w_drop (v_cO (v_aC rfl (v_a1 rfl)) (e_require_products F.pr h1 hn g.sh)) (w_seq (w_ifF (v_tst (v_bO (v_cO (v_aC rfl (v_a1 rfl)) (e_fault_in K F hn g)) rfl rfl)) (w_nx (w_ret rfl rfl))))))))))
abbrev obD (one : List Int) (p n : Nat) (t : List (List (List Int))) : D := .obj 0 [tupL one, .int (p : Nat), .int (n : Nat), tblT t]
abbrev rgD (p n : Nat) (t : List (List (List Int))) : D := .dic [("p", .int (p : Nat)), ("n", .int (n : Nat)), ("t", tblS t)]
theorem e_Ring_init (F : Fld K p) (h1 : 1 ≤ n) (hn : n ≤ 9) (g : Good K p n t) {one : List Int} (ho : libSolL p (invP p) (oneRows n t) (oneGoal n) = some one) : F_Ring_init [.int (p : Nat), tblT t] = some [tupL one, .int (p : Nat), .int (n : Nat), tblT t] := by
  have e1 := e_products_told K F h1 hn g
  have e2 := e_one_in K F hn g.sh
  rw [ho] at e2
  have a1 : iAsg 3 (cO F_products_told (aC (vr 1) (aC (vr 2) aN))) [.un, .val (.int (p : Nat)), .val (tblT t), .un] [] = some ([.un, .val (.int (p : Nat)), .val (tblT t), .val (tblT t)], []) := by
    unfold iAsg
    rw [if_neg (by decide), v_cO (v_aC rfl (v_a1 rfl)) e1]
    rfl
  have a2 : iSet 1 (vr 1) [.un, .val (.int (p : Nat)), .val (tblT t), .val (tblT t)] [] = some ([.un, .val (.int (p : Nat)), .val (tblT t), .val (tblT t)], [none, some (.int (p : Nat))]) := rfl
  have a3 : iSet 3 (vr 3) [.un, .val (.int (p : Nat)), .val (tblT t), .val (tblT t)] [none, some (.int (p : Nat))] = some ([.un, .val (.int (p : Nat)), .val (tblT t), .val (tblT t)], [none, some (.int (p : Nat)), none, some (tblT t)]) := rfl
  have a4 : iSet 2 (cO lenD (aC (vr 3) aN)) [.un, .val (.int (p : Nat)), .val (tblT t), .val (tblT t)] [none, some (.int (p : Nat)), none, some (tblT t)] = some ([.un, .val (.int (p : Nat)), .val (tblT t), .val (tblT t)], [none, some (.int (p : Nat)), some (.int (n : Nat)), some (tblT t)]) := by
    unfold iSet
    rw [v_cO (v_a1 rfl) (len_tbl g.sh)]
    rfl
  have a5 : iSet 0 (cO F_one_in (aC (vr 1) (aC (vr 3) aN))) [.un, .val (.int (p : Nat)), .val (tblT t), .val (tblT t)] [none, some (.int (p : Nat)), some (.int (n : Nat)), some (tblT t)] = some ([.un, .val (.int (p : Nat)), .val (tblT t), .val (tblT t)], [some (tupL one), some (.int (p : Nat)), some (.int (n : Nat)), some (tblT t)]) := by
    unfold iSet
    rw [v_cO (v_aC rfl (v_a1 rfl)) e2]
    rfl
  show ((iSeq _ (iSeq _ (iSeq _ (iSeq _ _))) [.un, .val (.int (p : Nat)), .val (tblT t), .un] []).bind fun p => allO p.2) = _
  unfold iSeq
  rw [a1, Option.bind_some]
  dsimp only
  rw [a2, Option.bind_some]
  dsimp only
  rw [a3, Option.bind_some]
  dsimp only
  rw [a4, Option.bind_some]
  dsimp only
  rw [a5]
  rfl
theorem e_law_made (F : Fld K p) (h1 : 1 ≤ n) (hn : n ≤ 9) (g : Good K p n t) {one : List Int} (ho : libSolL p (invP p) (oneRows n t) (oneGoal n) = some one) : F_law_made [rgD p n t] = some (obD one p n t) :=
  w_eq (w_runP rfl (w_ret (v_cO (v_aC (v_dg rfl rfl) (v_a1 (v_cO (v_a1 (v_frz (lc_map t tabS tabT (v_itL (v_dg rfl rfl)) (by have := g.sh.len; omega) fun l _ => ⟨_, rfl, v_cO (v_a1 rfl) rfl⟩))) rfl))) (by
    show (F_Ring_init [.int (p : Nat), tblT t]).map _ = _
    rw [e_Ring_init K F h1 hn g ho]
    rfl)) rfl))
end
end TR

/-! Members: products, powers, inverses on data. -/
namespace TR
open PySem L2
open Lean.Grind (CommRing IsCharP)
open TRM (plusL scaleL leadL Can zrs unitL unitsL invP PR Fld ledI mulV sm libSolL lawSolL Shape Good oneRow oneRows oneGoal blk tb Row cv ci powL)
section
variable {p n : Nat} {t : List (List (List Int))} {one : List Int}
theorem e_is_member (hn : n ≤ 9) {a : List Int} (ha : Row p n a) : F_is_member_in [obD one p n t, tupL a] = some (.bl true) :=
  w_eq (w_runP rfl (w_ret (v_cO (v_aC (v_uO rfl rfl) (v_aC (v_uO rfl rfl) (v_a1 rfl))) (e_residue_row (by omega) ha)) rfl))
theorem e_require_member (hn : n ≤ 9) {a : List Int} (ha : Row p n a) : F_require_member [obD one p n t, tupL a] = some .non :=
  w_eq (w_runP rfl (w_ifF (v_notF (v_tst (v_cO (v_aC rfl (v_a1 rfl)) (e_is_member hn ha)))) (w_nx rfl)))
theorem row_abs (hp : p ≤ 7) {a : List Int} (ha : Row p n a) : ∀ x ∈ a, x.natAbs < 2 ^ 64 := can_abs hp ha.can
def rightL (p n : Nat) (t : List (List (List Int))) (a : List Int) : List (List Int) := t.map fun l => ledI p n n l a
theorem e_right_table (hp : 0 < p) (hp7 : p ≤ 7) (hn : n ≤ 9) (s : Shape p n t) {a : List Int} (ha : Row p n a) : F_right_table [obD one p n t, tupL a] = some (tabT (rightL p n t a)) := by
  have e : ∀ l ∈ t, F_led_row [.int (p : Nat), tabT l, tupL a, .int (n : Nat)] = some (tupL (ledI p n n l a)) := fun l hl => e_led_row hp (by omega) (by omega) rfl ha.len (s.line l hl) fun r hr => ⟨(s.row l hl r hr).1, can_abs hp7 (s.row l hl r hr).2⟩
  refine w_eq (w_runP rfl (w_ret (v_cO (v_a1 (v_frz (lc_map t tabT (fun l => tupL (ledI p n n l a)) (v_itT (v_uO rfl rfl)) (by have := s.len; omega) fun l hl => ⟨_, rfl, v_cO (v_aC (v_uO rfl rfl) (v_aC rfl (v_aC rfl (v_a1 (v_uO rfl rfl))))) (e l hl)⟩))) rfl) ?_))
  exact tabT_map _ _
end
section
variable (K : Type) [CommRing K] {p n : Nat} [IsCharP K p] {t : List (List (List Int))} {one : List Int}
theorem right_lrow (hp : 0 < p) (s : Shape p n t) (a : List Int) : TRM.LRow K p n (tb K t) (cv K a) (rightL p n t a) := by
  refine ⟨by unfold rightL; rw [List.length_map, s.len], fun r hr => ?_, fun k hk c hc => ?_⟩
  · obtain ⟨l, _, rfl⟩ := List.mem_map.mp hr
    have := TRM.ledI_row (n := n) (m := n) hp l a
    exact ⟨this.len, this.can⟩
  · unfold rightL
    rw [TRM.getD_map (d := []) (by rw [s.len]; exact hk), TRM.ledI_cv _ _ c hc]
    rfl
theorem e_product_in (F : Fld K p) (hn : n ≤ 9) (s : Shape p n t) {a b : List Int} (ha : Row p n a) (hb : Row p n b) : F_product_in [obD one p n t, tupL a, tupL b] = some (tupL (mulV p n t a b)) := by
  have hp := F.lt
  have hp7 := F.le
  have e : ∀ l ∈ t, F_led_row [.int (p : Nat), tabT l, tupL b, .int (n : Nat)] = some (tupL (ledI p n n l b)) := fun l hl => e_led_row (by omega) (by omega) (by omega) rfl hb.len (s.line l hl) fun r hr => ⟨(s.row l hl r hr).1, can_abs hp7 (s.row l hl r hr).2⟩
  have hz : (a.zip t).length = n := by rw [List.length_zip, ha.len, s.len, Nat.min_self]
  refine w_eq (w_runP rfl (w_seq (w_par (v_xV (v_uO rfl rfl)) (v_xV (v_uO rfl rfl)) (w_seq (w_asg (v_cO (v_a1 rfl) (e_zero_row (n := n) (by omega))) (w_seq (w_for (a.zip t) _ (fun k ρ T => T = none ∧ ∃ s6 s7 f, ρ = [.val (obD one p n t), .val (tupL a), .val (tupL b), .val (.int (p : Nat)), .val (.int (n : Nat)), .val (tupL f), s6, s7] ∧ Row p n f ∧ TRM.Eq n (cv K f) fun c => sm k fun i => cv K a i * sm n fun j => cv K b j * tb K t i j c) (v_itZ (f1 := D.int) (f2 := tabT) (v_aC rfl (v_a1 (v_uO rfl rfl))) rfl rfl) ⟨rfl, _, _, zrs n, rfl, ⟨TRM.zrs_len n, TRM.zrs_can (by omega)⟩, fun c _ => TRM.cv_zeros n c⟩ (fun k hk ρ T h' => ?_) fun ρ T h' => ?_)))))))
  · obtain ⟨rfl, s6, s7, f, rfl, hf, hv⟩ := h'
    have hk1 : k < a.length := by rw [ha.len]; omega
    have hk2 : k < t.length := by rw [s.len]; omega
    have eq : (a.zip t)[k] = (a[k], t[k]) := List.getElem_zip
    rw [eq]
    have el := e t[k] (List.getElem_mem hk2)
    have ek : a[k] = a.getD k 0 := (TRM.getD_at hk1).symm
    have lr := TRM.ledI_row (n := n) (m := n) (p := p) (by omega) t[k] b
    have lv := TRM.ledI_cv (K := K) (n := n) (m := n) (p := p) t[k] b
    have tk : t[k] = t.getD k [] := (TRM.getD_at hk2).symm
    refine ⟨_, rfl, w_if (v_tst (v_bO rfl rfl ne_int)) (fun z => ?_) fun z => ?_⟩
    · have ea := e_added_row (p := p) (a := f) (b := ledI p n n t[k] b) (f := a[k]) (by omega) (by rw [hf.len]; omega) (row_abs hp7 lr)
      refine w_asg (v_cO (v_aC rfl (v_aC rfl (v_aC (v_cO (v_aC rfl (v_aC rfl (v_aC rfl (v_a1 rfl)))) el) (v_a1 rfl)))) ea) ⟨rfl, _, _, _, rfl, TRM.plus_row (by omega) hf lr, fun c hc => ?_⟩
      rw [TRM.cv_plus (by rw [hf.len, lr.len])]
      dsimp only
      rw [hv c hc, lv c hc, ek, tk]
      rfl
    · have z0 : a[k] = 0 := by simpa using z
      refine w_nx ⟨rfl, _, _, f, rfl, hf, fun c hc => ?_⟩
      rw [hv c hc]
      show _ = sm k _ + ci K (a.getD k 0) * _
      rw [← ek, z0, TRM.ci_zero]
      grind
  · obtain ⟨rfl, s6, s7, f, rfl, hf, hv⟩ := h'
    rw [hz] at hv
    have : f = mulV p n t a b := hf.eq (K := K) (TRM.mulV_row (by omega) a b) (hv.trans (TRM.mulV_cv a b).symm)
    rw [← this]
    exact w_ret rfl rfl
theorem mul_row (F : Fld K p) (a b : List Int) : Row p n (mulV p n t a b) := TRM.mulV_row (by have := F.lt; omega) a b
/-! ### powers -/
theorem half_nat {e : Nat} : fdivD (.int (e : Nat)) (.int 2) = some (.int ((e / 2 : Nat) : Int)) := by
  show (if (decide ((2 : Int) ≠ 0) && decide ((2 : Int).natAbs < 1073741824)) = true then some (D.int (Int.fdiv (e : Nat) 2)) else none) = _
  rw [if_pos (by decide)]
  congr 2
  rw [Int.fdiv_eq_ediv_of_nonneg _ (by decide)]
  omega
theorem odd_nat {e : Nat} : modD (.int (e : Nat)) (.int 2) = some (.int ((e % 2 : Nat) : Int)) := by
  rw [show (2 : Int) = ((2 : Nat) : Int) from rfl, mod_int (by decide)]
  congr 2
theorem pow_loop (F : Fld K p) (hn : n ≤ 9) (s : Shape p n t) {a : List Int} : ∀ (k e : Nat) (f x : List Int), e < 2 ^ k → Row p n f → Row p n x → ∃ s2 s4, whS (tst (bO gtD (vr 2) (cD (.int 0)))) (sSeq (sIf (tst (bO eqD (bO modD (vr 2) (cD (.int 2))) (cD (.int 1)))) (sAsg 3 (cO F_product_in (aC (vr 0) (aC (vr 3) (aC (vr 4) aN))))) sNx) (sPar 4 2 (xV (cO F_product_in (aC (vr 0) (aC (vr 4) (aC (vr 4) aN))))) (xV (bO fdivD (vr 2) (cD (.int 2)))))) (k + 1) [.val (obD one p n t), .val (tupL a), .val (.int (e : Nat)), .val (tupL f), .val (tupL x)] none = some (.nx [.val (obD one p n t), .val (tupL a), s2, .val (tupL (powL p n t k e f x)), s4] none) := by
  intro k
  induction k with
  | zero =>
    intro e f x he hf hx
    have : e = 0 := by simpa using he
    subst this
    exact ⟨_, _, rfl⟩
  | succ k ih =>
    intro e f x he hf hx
    unfold powL
    by_cases z : e = 0
    · rw [if_pos z]
      subst z
      exact ⟨_, _, rfl⟩
    · rw [if_neg z]
      have he' : e / 2 < 2 ^ k := by rw [Nat.pow_succ] at he; omega
      have hc : tst (bO gtD (vr 2) (cD (.int 0))) [.val (obD one p n t), .val (tupL a), .val (.int (e : Nat)), .val (tupL f), .val (tupL x)] none = some (true, none) := v_tst (v_bO rfl rfl (by rw [gt_int, decide_eq_true (by omega)]))
      have e2 := e_product_in K F hn s (one := one) hx hx
      have body : X3 (sSeq (sIf (tst (bO eqD (bO modD (vr 2) (cD (.int 2))) (cD (.int 1)))) (sAsg 3 (cO F_product_in (aC (vr 0) (aC (vr 3) (aC (vr 4) aN))))) sNx) (sPar 4 2 (xV (cO F_product_in (aC (vr 0) (aC (vr 4) (aC (vr 4) aN))))) (xV (bO fdivD (vr 2) (cD (.int 2))))) [.val (obD one p n t), .val (tupL a), .val (.int (e : Nat)), .val (tupL f), .val (tupL x)] none) fun o => o = .nx [.val (obD one p n t), .val (tupL a), .val (.int ((e / 2 : Nat) : Int)), .val (tupL (if e % 2 = 1 then mulV p n t f x else f)), .val (tupL (mulV p n t x x))] none := by
        refine w_seq (w_if (v_tst (v_bO (v_bO rfl rfl odd_nat) rfl eq_int)) (fun o => ?_) fun o => ?_)
        · have o1 : e % 2 = 1 := by
            have : ((e % 2 : Nat) : Int) = 1 := by simpa using o
            omega
          have e1 := e_product_in K F hn s (one := one) hf hx
          rw [if_pos o1]
          exact w_asg (v_cO (v_aC rfl (v_aC rfl (v_a1 rfl))) e1) (w_par (v_xV (v_cO (v_aC rfl (v_aC rfl (v_a1 rfl))) e2)) (v_xV (v_bO rfl rfl half_nat)) rfl)
        · have o1 : ¬ e % 2 = 1 := by
            intro h
            rw [h] at o
            exact Bool.noConfusion o
          rw [if_neg o1]
          exact w_nx (w_par (v_xV (v_cO (v_aC rfl (v_aC rfl (v_a1 rfl))) e2)) (v_xV (v_bO rfl rfl half_nat)) rfl)
      have hf' : Row p n (if e % 2 = 1 then mulV p n t f x else f) := by
        split
        · exact mul_row K F f x
        · exact hf
      obtain ⟨s2, s4, h⟩ := ih (e / 2) (if e % 2 = 1 then mulV p n t f x else f) (mulV p n t x x) he' hf' (mul_row K F x x)
      refine ⟨s2, s4, ?_⟩
      rw [whS, hc, Option.bind_some]
      dsimp only
      rw [if_pos rfl, w_eq body, Option.bind_some]
      exact h
theorem e_power_in (F : Fld K p) (hn : n ≤ 9) (s : Shape p n t) (ho : Row p n one) {a : List Int} (ha : Row p n a) {e : Nat} (he : e < 2 ^ 63) : F_power_in [obD one p n t, tupL a, .int (e : Nat)] = some (tupL (powL p n t 63 e one a)) := by
  obtain ⟨s2, s4, h⟩ := pow_loop K F hn s (one := one) (a := a) 63 e one a he ho ha
  refine w_eq (w_runP rfl (w_seq (w_par (v_xV (v_uO rfl rfl)) (v_xV rfl) (w_seq ⟨_, h, ?_⟩))))
  exact w_ret rfl rfl
theorem e_undone_member (F : Fld K p) (hn : n ≤ 9) (s : Shape p n t) (ho : Row p n one) {a : List Int} (ha : Row p n a) : F_undone_member [obD one p n t, tupL a] = some (optR (libSolL p (invP p) (rightL p n t a) one)) := by
  have hp := F.lt
  have lr := right_lrow K (by omega) s a
  have e1 := e_right_table (one := one) (by omega) F.le hn s ha
  have e2 := e_solution_in K F (dt := tabT (rightL p n t a)) (rows := rightL p n t a) (goal := one) rfl (by rw [ho.len]; omega) (by rw [lr.len]; omega) (fun r hr => by rw [ho.len]; exact lr.row r hr) ho.can
  exact w_eq (w_runP rfl (w_ret (v_cO (v_aC (v_uO rfl rfl) (v_aC (v_cO (v_aC rfl (v_a1 rfl)) e1) (v_a1 (v_uO rfl rfl)))) e2) rfl))
/-! ### methods -/
theorem e_one : F_Ring_one [obD one p n t] = some (tupL one) := rfl
theorem e_added (F : Fld K p) (hn : n ≤ 9) {a b : List Int} (ha : Row p n a) (hb : Row p n b) : F_Ring_added [obD one p n t, tupL a, tupL b] = some (tupL (plusL p a b 1)) := by
  have hp := F.lt
  have e := e_added_row (p := p) (a := a) (b := b) (f := 1) (by omega) (by rw [ha.len]; omega) (row_abs F.le hb)
  exact w_eq (w_runP rfl (w_seq (w_drop (v_cO (v_aC rfl (v_a1 rfl)) (e_require_member hn ha)) (w_seq (w_drop (v_cO (v_aC rfl (v_a1 rfl)) (e_require_member hn hb)) (w_ret (v_cO (v_aC (v_uO rfl rfl) (v_aC rfl (v_aC rfl (v_a1 rfl)))) e) rfl))))))
theorem e_product (F : Fld K p) (hn : n ≤ 9) (s : Shape p n t) {a b : List Int} (ha : Row p n a) (hb : Row p n b) : F_Ring_product [obD one p n t, tupL a, tupL b] = some (tupL (mulV p n t a b)) :=
  w_eq (w_runP rfl (w_seq (w_drop (v_cO (v_aC rfl (v_a1 rfl)) (e_require_member hn ha)) (w_seq (w_drop (v_cO (v_aC rfl (v_a1 rfl)) (e_require_member hn hb)) (w_ret (v_cO (v_aC rfl (v_aC rfl (v_a1 rfl))) (e_product_in K F hn s ha hb)) rfl))))))
theorem e_integer {x : Int} (h : x.natAbs < 10 ^ 60) : F_is_integer [.int x] = some (.bl true) := by
  refine w_eq (w_runP rfl (w_ret (v_eT (v_cO (v_a1 rfl) (e_whole x)) (v_bO (v_cO (v_a1 rfl) rfl) rfl lt_int)) ?_))
  show D.bl _ = _
  rw [decide_eq_true]
  split <;> omega
theorem e_require_integer {x : Int} (h : x.natAbs < 10 ^ 60) : F_require_integer [.int x] = some .non :=
  w_eq (w_runP rfl (w_ifF (v_notF (v_tst (v_cO (v_a1 rfl) (e_integer h)))) (w_nx rfl)))
theorem e_times (F : Fld K p) (hn : n ≤ 9) {a : List Int} {x : Int} (hx : x.natAbs < 10 ^ 60) (ha : Row p n a) : F_Ring_times [obD one p n t, .int x, tupL a] = some (tupL (scaleL p x a)) := by
  have hp := F.lt
  have e := e_scaled_row (p := p) (a := a) (f := x) (by omega) (by rw [ha.len]; omega) (row_abs F.le ha)
  exact w_eq (w_runP rfl (w_seq (w_drop (v_cO (v_a1 rfl) (e_require_integer hx)) (w_seq (w_drop (v_cO (v_aC rfl (v_a1 rfl)) (e_require_member hn ha)) (w_ret (v_cO (v_aC (v_uO rfl rfl) (v_aC rfl (v_a1 rfl))) e) rfl))))))
theorem e_power (F : Fld K p) (hn : n ≤ 9) (s : Shape p n t) (ho : Row p n one) {a : List Int} (ha : Row p n a) {e : Nat} (he : e < 2 ^ 63) : F_Ring_power [obD one p n t, tupL a, .int (e : Nat)] = some (tupL (powL p n t 63 e one a)) :=
  w_eq (w_runP rfl (w_seq (w_drop (v_cO (v_aC rfl (v_a1 rfl)) (e_require_member hn ha)) (w_seq (w_ifF (v_orF (v_notF (v_tst (v_cO (v_a1 rfl) (e_integer (by omega))))) (v_tst (v_bO rfl rfl (by rw [lt_int, decide_eq_false (by omega)])))) (w_nx (w_ret (v_cO (v_aC rfl (v_aC rfl (v_a1 rfl))) (e_power_in K F hn s ho ha he)) rfl)))))))
theorem isnt_opt {o : Option (List Int)} : isntD (optR o) .non = some (.bl o.isSome) := by cases o <;> rfl
theorem is_optR {o : Option (List Int)} : isD (optR o) .non = some (.bl o.isNone) := by cases o <;> rfl
theorem e_is_unit (F : Fld K p) (hn : n ≤ 9) (s : Shape p n t) (ho : Row p n one) {a : List Int} (ha : Row p n a) : F_Ring_is_unit [obD one p n t, tupL a] = some (.bl (libSolL p (invP p) (rightL p n t a) one).isSome) :=
  w_eq (w_runP rfl (w_ret (v_eT (v_cO (v_aC rfl (v_a1 rfl)) (e_is_member hn ha)) (v_bO (v_cO (v_aC rfl (v_a1 rfl)) (e_undone_member K F hn s ho ha)) rfl isnt_opt)) rfl))
theorem e_not_unit {x : D} (h : F_is_member_in [obD one p n t, x] = some (.bl false)) : F_Ring_is_unit [obD one p n t, x] = some (.bl false) :=
  w_eq (w_runP rfl (w_ret (v_eF (v_cO (v_aC rfl (v_a1 rfl)) h)) rfl))
def toldR : Option (List Int) → D
  | none => .lst [.str "refused", .tup [.str "no unit"]]
  | some x => tupL x
theorem e_told (F : Fld K p) (hn : n ≤ 9) (s : Shape p n t) (ho : Row p n one) {a : List Int} (ha : Row p n a) : F_law_told_inverse [obD one p n t, tupL a] = some (toldR (libSolL p (invP p) (rightL p n t a) one)) := by
  show (F_require_member [obD one p n t, tupL a]).bind _ = _
  rw [e_require_member hn ha, Option.bind_some, e_undone_member K F hn s ho ha]
  cases libSolL p (invP p) (rightL p n t a) one <;> rfl
end
end TR

/-! The law's own reckoning on data. -/
namespace TR
open PySem L2
open Lean.Grind (CommRing IsCharP)
open TRM (plusL scaleL leadL Can zrs unitL unitsL invP PR Fld ledI mulV sm libSolL lawSolL lawRedL Shape Good oneRow oneRows oneGoal blk tb Row cv ci powL)
section
variable {ρ : List SV} {T T1 T2 : Tn} {f : FE} {fl : FL} {ds : List D} {z : D}
theorem v_mO {k : Nat} {F : List D → Option D} {fs : List D} (h1 : f ρ T = some (.obj k fs, T1)) (h2 : fl ρ T1 = some (ds, T2)) (h3 : F (.obj k fs :: ds) = some z) : mO k F f fl ρ T = some (z, T2) := by
  unfold mO
  rw [h1, Option.bind_some]
  dsimp only
  rw [if_pos rfl, h2, Option.bind_some]
  dsimp only
  rw [h3]
  rfl
end
theorem e_law_unit {n : Nat} (hn : n ≤ 1000) : F_law_unit [.int (n : Nat)] = some ((unitsL n).map tupL) := by
  have e : ∀ k : Nat, (List.range n).map (fun (j : Nat) => D.int (if ((k : Int) == (j : Int)) = true then 1 else 0)) = (unitL n k).map D.int := unit_enc2 n
  refine w_eq (w_runF rfl (w_retF (lc_map (List.range n) (fun (k : Nat) => D.int (k : Nat)) (fun k => tupL (unitL n k)) (v_itR (v_a1 rfl) (by omega)) (by rw [List.length_range]; omega) fun k _ => ⟨_, rfl, v_cO (v_a1 (v_frz (lc_map (List.range n) (fun (k : Nat) => D.int (k : Nat)) (fun (j : Nat) => D.int (if ((k : Int) == (j : Int)) = true then 1 else 0)) (v_itR (v_a1 rfl) (by omega)) (by rw [List.length_range]; omega) fun j _ => ⟨_, rfl, v_cO (v_a1 (v_bO rfl rfl eq_int)) int_bl⟩))) (by rw [e]; rfl)⟩) ?_))
  show _ = ((List.range n).map (unitL n)).map tupL
  rw [List.map_map]
  rfl
theorem e_law_ring {p : Nat} (t : List (List (List Int))) (enc : List Int → D) (he : ∀ r, tupleD [enc r] = some (tupL r)) (h1 : t.length ≤ 50000) (h2 : ∀ l ∈ t, l.length ≤ 50000) : F_law_ring [.int (p : Nat), .lst (t.map fun l => .lst (l.map enc))] = some (rgD p t.length t) := by
  have e : dispE "p" "n" "t" (aC (vr 0) (aC (cO lenD (aC (vr 1) aN)) (aC (frz (lcE (itL (vr 1)) (gN 2) yesB (frz (lcE (itL (vr 2)) (gN 3) yesB (cO tupleD (aC (vr 3) aN)) [3])) [2])) aN))) [.val (.int (p : Nat)), .val (.lst (t.map fun l => .lst (l.map enc))), .un, .un] none = some (rgD p t.length t, none) := by
    have hh : aC (vr 0) (aC (cO lenD (aC (vr 1) aN)) (aC (frz (lcE (itL (vr 1)) (gN 2) yesB (frz (lcE (itL (vr 2)) (gN 3) yesB (cO tupleD (aC (vr 3) aN)) [3])) [2])) aN)) [.val (.int (p : Nat)), .val (.lst (t.map fun l => .lst (l.map enc))), .un, .un] none = some ([.int (p : Nat), .int (t.length : Nat), tblS t], none) :=
      v_aC rfl (v_aC (v_cO (v_a1 rfl) (len_lst.trans (by rw [List.length_map]))) (v_a1 (v_frz (lc_map t (fun l => .lst (l.map enc)) tabS (v_itL rfl) h1 fun l hl => ⟨_, rfl, v_frz (lc_map l enc tupL (v_itL rfl) (h2 l hl) fun r _ => ⟨_, rfl, v_cO (v_a1 rfl) (he r)⟩)⟩))))
    unfold dispE
    rw [hh, Option.bind_some]
    rfl
  exact w_eq (w_runP rfl (w_ret e rfl))
section
variable {p n : Nat} {t : List (List (List Int))}
theorem v_tijS {ρ : List SV} {T : Tn} {f g h : FE} (s : Shape p n t) {i j : Nat} (hi : i < n) (hj : j < n) (h1 : f ρ T = some (tblS t, T)) (h2 : g ρ T = some (.int (i : Nat), T)) (h3 : h ρ T = some (.int (j : Nat), T)) : bO ixD (bO ixD f g) h ρ T = some (tupL ((t.getD i []).getD j []), T) :=
  v_bO (v_bO h1 h2 (ix_blS (by rw [s.len]; exact hi))) h3 (ix_bS (by rw [(sh_line s hi).2]; exact hj))
end
section
variable (K : Type) [CommRing K] {p n : Nat} [IsCharP K p] {t : List (List (List Int))} {one : List Int}
theorem e_law_times (F : Fld K p) (hn : n ≤ 9) (s : Shape p n t) {a b : List Int} (ha : Row p n a) (hb : Row p n b) : F_law_times [rgD p n t, tupL a, tupL b] = some (tupL (mulV p n t a b)) := by
  have hp := F.lt
  have hp7 := F.le
  have hza : a.zipIdx.length = n := by rw [List.length_zipIdx, ha.len]
  have hzb : b.zipIdx.length = n := by rw [List.length_zipIdx, hb.len]
  refine w_eq (w_runP rfl (w_seq (w_asg (v_bO (v_tup (v_a1 rfl) (by decide)) (v_dg rfl rfl) (zeros_row (n := n) (by omega))) (w_seq (w_for a.zipIdx _ (fun k ρ T => T = none ∧ ∃ s4 s5 s6 s7 f, ρ = [.val (rgD p n t), .val (tupL a), .val (tupL b), .val (tupL f), s4, s5, s6, s7] ∧ Row p n f ∧ TRM.Eq n (cv K f) fun c => sm k fun i => cv K a i * sm n fun j => cv K b j * tb K t i j c) (v_itE (f1 := D.int) (v_a1 rfl) rfl) ⟨rfl, _, _, _, _, zrs n, rfl, ⟨TRM.zrs_len n, TRM.zrs_can (by omega)⟩, fun c _ => TRM.cv_zeros n c⟩ (fun k hk ρ T h' => ?_) fun ρ T h' => ?_)))))
  · obtain ⟨rfl, s4, s5, s6, s7, f, rfl, hf, hv⟩ := h'
    have hk0 : k < n := by omega
    have hk1 : k < a.length := by rw [ha.len]; omega
    have eq : a.zipIdx[k] = (a[k], k) := by rw [List.getElem_zipIdx, Nat.zero_add]
    rw [eq]
    have ek : a[k] = a.getD k 0 := (TRM.getD_at hk1).symm
    refine ⟨_, rfl, w_for b.zipIdx _ (fun j ρ T => T = none ∧ ∃ s6 s7 f, ρ = [.val (rgD p n t), .val (tupL a), .val (tupL b), .val (tupL f), .val (.int (k : Nat)), .val (.int a[k]), s6, s7] ∧ Row p n f ∧ TRM.Eq n (cv K f) fun c => (sm k fun i => cv K a i * sm n fun j => cv K b j * tb K t i j c) + cv K a k * sm j fun j => cv K b j * tb K t k j c) (v_itE (f1 := D.int) (v_a1 rfl) rfl) ⟨rfl, _, _, f, rfl, hf, fun c hc => by rw [hv c hc]; show _ = _ + _ * (0 : K); grind⟩ (fun j hj ρ T h' => ?_) fun ρ T h' => ?_⟩
    · obtain ⟨rfl, s6, s7, f, rfl, hf, hv⟩ := h'
      have hj0 : j < n := by omega
      have hj1 : j < b.length := by rw [hb.len]; omega
      have eq : b.zipIdx[j] = (b[j], j) := by rw [List.getElem_zipIdx, Nat.zero_add]
      rw [eq]
      have ej : b[j] = b.getD j 0 := (TRM.getD_at hj1).symm
      have tr := s.at_ hk0 hj0
      have bj : (b[j]).natAbs < 2 ^ 64 := row_abs hp7 hb _ (List.getElem_mem hj1)
      refine ⟨_, rfl, w_if (v_tst (v_bO (v_bO rfl rfl (mul_int bj)) rfl ne_int)) (fun z => ?_) fun z => ?_⟩
      · have ea := e_law_plus (p := p) (a := f) (b := (t.getD k []).getD j []) (f := a[k] * b[j]) (by omega) (by rw [hf.len]; omega) (can_abs hp7 tr.2)
        refine w_asg (v_cO (v_aC (v_dg rfl rfl) (v_aC rfl (v_aC (v_tijS s hk0 hj0 (v_dg rfl rfl) rfl rfl) (v_a1 (v_bO rfl rfl (mul_int bj)))))) ea) ⟨rfl, _, _, _, rfl, TRM.plus_row (by omega) hf ⟨tr.1, tr.2⟩, fun c hc => ?_⟩
        rw [TRM.cv_plus (by rw [hf.len, tr.1])]
        dsimp only
        rw [hv c hc, TRM.ci_mul, ek, ej]
        show _ + cv K a k * cv K b j * tb K t k j c = _ + cv K a k * (sm j (fun j => cv K b j * tb K t k j c) + cv K b j * tb K t k j c)
        grind
      · have z0 : a[k] * b[j] = 0 := by simpa using z
        refine w_nx ⟨rfl, _, _, f, rfl, hf, fun c hc => ?_⟩
        rw [hv c hc]
        have z1 : cv K a k * cv K b j = 0 := by
          show ci K (a.getD k 0) * ci K (b.getD j 0) = 0
          rw [← TRM.ci_mul, ← ek, ← ej, z0, TRM.ci_zero]
        show _ + cv K a k * _ = _ + cv K a k * (sm j (fun j => cv K b j * tb K t k j c) + cv K b j * tb K t k j c)
        grind
    · obtain ⟨rfl, s6, s7, f, rfl, hf, hv⟩ := h'
      rw [hzb] at hv
      exact ⟨rfl, _, _, _, _, f, rfl, hf, hv⟩
  · obtain ⟨rfl, s4, s5, s6, s7, f, rfl, hf, hv⟩ := h'
    rw [hza] at hv
    have : f = mulV p n t a b := hf.eq (K := K) (TRM.mulV_row (by omega) a b) (hv.trans (TRM.mulV_cv a b).symm)
    rw [← this]
    exact w_ret rfl rfl
theorem e_law_led (F : Fld K p) (h1 : 1 ≤ n) (hn : n ≤ 9) {back : List (List Int)} (hl : back.length = n) (hb : ∀ r ∈ back, r.length = n ∧ Can p r) {a : List Int} (ha : Row p n a) : F_law_led [.int (p : Nat), tabS back, tupL a] = some (tupL (ledI p n n back a)) := by
  have hp := F.lt
  have hp7 := F.le
  have hz : (a.zip back).length = n := by rw [List.length_zip, ha.len, hl, Nat.min_self]
  have h0 : (back.getD 0 []).length = n := by
    rw [TRM.getD_at (by omega)]
    exact (hb _ (List.getElem_mem _)).1
  refine w_eq (w_runP rfl (w_seq (w_asg (v_bO (v_tup (v_a1 rfl) (by decide)) (v_cO (v_a1 (v_bO rfl rfl (ix_bS (k := 0) (by omega)))) (len_row.trans (by rw [h0]))) (zeros_row (n := n) (by omega))) (w_seq (w_for (a.zip back) _ (fun k ρ T => T = none ∧ ∃ s4 s5 f, ρ = [.val (.int (p : Nat)), .val (tabS back), .val (tupL a), .val (tupL f), s4, s5] ∧ Row p n f ∧ TRM.Eq n (cv K f) fun c => sm k fun i => cv K a i * cv K (back.getD i []) c) (v_itZ (f1 := D.int) (f2 := tupL) (v_aC rfl (v_a1 rfl)) rfl rfl) ⟨rfl, _, _, zrs n, rfl, ⟨TRM.zrs_len n, TRM.zrs_can (by omega)⟩, fun c _ => TRM.cv_zeros n c⟩ (fun k hk ρ T h' => ?_) fun ρ T h' => ?_)))))
  · obtain ⟨rfl, s4, s5, f, rfl, hf, hv⟩ := h'
    have hk1 : k < a.length := by rw [ha.len]; omega
    have hk2 : k < back.length := by omega
    have eq : (a.zip back)[k] = (a[k], back[k]) := List.getElem_zip
    rw [eq]
    have br := hb _ (List.getElem_mem hk2)
    have ek : a[k] = a.getD k 0 := (TRM.getD_at hk1).symm
    have bk : back[k] = back.getD k [] := (TRM.getD_at hk2).symm
    have ea := e_law_plus (p := p) (a := f) (b := back[k]) (f := a[k]) (by omega) (by rw [hf.len]; omega) (can_abs hp7 br.2)
    refine ⟨_, rfl, w_asg (v_cO (v_aC rfl (v_aC rfl (v_aC rfl (v_a1 rfl)))) ea) ⟨rfl, _, _, _, rfl, TRM.plus_row (by omega) hf ⟨br.1, br.2⟩, fun c hc => ?_⟩⟩
    rw [TRM.cv_plus (by rw [hf.len, br.1])]
    dsimp only
    rw [hv c hc, ek, bk]
    rfl
  · obtain ⟨rfl, s4, s5, f, rfl, hf, hv⟩ := h'
    rw [hz] at hv
    have : f = ledI p n n back a := hf.eq (K := K) (TRM.ledI_row (by omega) _ _) (hv.trans (TRM.ledI_cv _ _).symm)
    rw [← this]
    exact w_ret rfl rfl
theorem e_one_of_ring (F : Fld K p) (h1 : 1 ≤ n) (hn : n ≤ 9) (s : Shape p n t) : F_law_one_of_ring [rgD p n t] = some (optR (lawSolL p (invP p) (oneRows n t) (oneGoal n))) := by
  have hp := F.lt
  refine w_eq (w_runP rfl (w_seq (w_own (v_len rfl (by decide)) (w_seq (w_for (List.range n) (fun (k : Nat) => D.int (k : Nat)) (fun k ρ T => T = none ∧ ∃ s2 s3 s4, ρ = [.val (rgD p n t), .own (((List.range k).map (oneRow n t)).map tupL), s2, s3, s4, .un]) (v_itR (v_a1 (v_dg rfl rfl)) (by omega)) ⟨rfl, _, _, _, rfl⟩ (fun k hk ρ T h' => ?_) fun ρ T h' => ?_)))))
  · obtain ⟨rfl, s2, s3, s4, rfl⟩ := h'
    have hk' : k < n := by rw [List.length_range] at hk; exact hk
    rw [List.getElem_range]
    refine ⟨_, rfl, w_seq (w_asg (v_tup rfl (by decide)) (w_seq (w_for (List.range n) (fun (k : Nat) => D.int (k : Nat)) (fun j ρ T => T = none ∧ ∃ s4, ρ = [.val (rgD p n t), .own (((List.range k).map (oneRow n t)).map tupL), .val (.int (k : Nat)), .val (tupL (blk j fun i => (t.getD k []).getD i [] ++ (t.getD i []).getD k [])), s4, .un]) (v_itR (v_a1 (v_dg rfl rfl)) (by omega)) ⟨rfl, _, rfl⟩ (fun j hj ρ T h' => ?_) fun ρ T h' => ?_)))⟩
    · obtain ⟨rfl, s4, rfl⟩ := h'
      have hj' : j < n := by rw [List.length_range] at hj; exact hj
      rw [List.getElem_range]
      have bl : (blk j fun i => (t.getD k []).getD i [] ++ (t.getD i []).getD k []).length = j * (n + n) := TRM.blk_len fun i hi => by rw [List.length_append, (s.at_ hk' (by omega)).1, (s.at_ (by omega) hk').1]
      have b2 : j * (n + n) ≤ 9 * 18 := Nat.mul_le_mul (by omega) (by omega)
      have l1 := (s.at_ hk' hj').1
      have l2 := (s.at_ hj' hk').1
      refine ⟨_, rfl, w_asg (v_bO (v_bO rfl (v_tijS s hk' hj' (v_dg rfl rfl) rfl rfl) (cat_rows (by omega))) (v_tijS s hj' hk' (v_dg rfl rfl) rfl rfl) (cat_rows (by rw [List.length_append]; omega))) ⟨rfl, _, by
        rw [TRM.blk_succ, List.append_assoc]
        rfl⟩⟩
    · obtain ⟨rfl, s4, rfl⟩ := h'
      refine w_app rfl rfl (by rw [List.length_map, List.length_map, List.length_range]; omega) ⟨rfl, _, _, _, by
        rw [← own_map (α := Nat), List.length_range]
        rfl⟩
  · obtain ⟨rfl, s2, s3, s4, rfl⟩ := h'
    rw [List.length_range]
    refine w_seq (w_asg (v_tup rfl (by decide)) (w_seq (w_for (List.range n) (fun k => tupL (unitL n k)) (fun k ρ T => T = none ∧ ∃ s3, ρ = [.val (rgD p n t), .own (((List.range n).map (oneRow n t)).map tupL), s2, s3, s4, .val (tupL (blk k fun k => unitL n k ++ unitL n k))]) (v_itL (v_frz (v_cF (v_a1 (v_dg rfl rfl)) ((e_law_unit (n := n) (by omega)).trans (by show some (((List.range n).map (unitL n)).map tupL) = _; rw [List.map_map]; rfl))))) ⟨rfl, _, rfl⟩ (fun k hk ρ T h' => ?_) fun ρ T h' => ?_)))
    · obtain ⟨rfl, s3, rfl⟩ := h'
      have hk' : k < n := by rw [List.length_range] at hk; exact hk
      rw [List.getElem_range]
      have bl : (blk k fun k => unitL n k ++ unitL n k).length = k * (n + n) := TRM.blk_len fun i hi => by rw [List.length_append, TRM.unit_len]
      have b2 : k * (n + n) ≤ 9 * 18 := Nat.mul_le_mul (by omega) (by omega)
      refine ⟨_, rfl, w_asg (v_bO (v_bO rfl rfl (cat_rows (by rw [TRM.unit_len]; omega))) rfl (cat_rows (by rw [List.length_append, TRM.unit_len]; omega))) ⟨rfl, _, by
        rw [TRM.blk_succ, List.append_assoc]
        rfl⟩⟩
    · obtain ⟨rfl, s3, rfl⟩ := h'
      rw [List.length_range]
      have gl : (oneGoal n).length ≤ 1000 := by
        rw [TRM.oneGoal_len]
        have b2 : n * (n + n) ≤ 9 * 18 := Nat.mul_le_mul (by omega) (by omega)
        omega
      have es := e_law_solved K F (rows := oneRows n t) (goal := oneGoal n) gl (by rw [TRM.oneRows_len]; omega) (by
        intro e
        have := TRM.oneRows_len (n := n) (t := t)
        rw [e, List.length_nil] at this
        omega) (TRM.one_rows_ok s) (TRM.oneGoal_can hp)
      exact w_frz rfl (w_ret (v_cO (v_aC (v_dg rfl rfl) (v_aC rfl (v_a1 rfl))) es) rfl)
theorem law_loop (F : Fld K p) (hn : n ≤ 9) (s : Shape p n t) {s1 s2 : SV} : ∀ (k e : Nat) (f x : List Int), e < 2 ^ k → Row p n f → Row p n x → ∃ s4 s5, whS (tst (bO gtD (vr 5) (cD (.int 0)))) (sSeq (sIf (tst (bO eqD (bO modD (vr 5) (cD (.int 2))) (cD (.int 1)))) (sAsg 3 (cO F_law_times (aC (vr 0) (aC (vr 3) (aC (vr 4) aN))))) sNx) (sPar 4 5 (xV (cO F_law_times (aC (vr 0) (aC (vr 4) (aC (vr 4) aN))))) (xV (bO fdivD (vr 5) (cD (.int 2)))))) (k + 1) [.val (rgD p n t), s1, s2, .val (tupL f), .val (tupL x), .val (.int (e : Nat))] none = some (.nx [.val (rgD p n t), s1, s2, .val (tupL (powL p n t k e f x)), s4, s5] none) := by
  intro k
  induction k with
  | zero =>
    intro e f x he hf hx
    have : e = 0 := by simpa using he
    subst this
    exact ⟨_, _, rfl⟩
  | succ k ih =>
    intro e f x he hf hx
    unfold powL
    by_cases z : e = 0
    · rw [if_pos z]
      subst z
      exact ⟨_, _, rfl⟩
    · rw [if_neg z]
      have he' : e / 2 < 2 ^ k := by rw [Nat.pow_succ] at he; omega
      have hc : tst (bO gtD (vr 5) (cD (.int 0))) [.val (rgD p n t), s1, s2, .val (tupL f), .val (tupL x), .val (.int (e : Nat))] none = some (true, none) := v_tst (v_bO rfl rfl (by rw [gt_int, decide_eq_true (by omega)]))
      have e2 := e_law_times K F hn s hx hx
      have body : X3 (sSeq (sIf (tst (bO eqD (bO modD (vr 5) (cD (.int 2))) (cD (.int 1)))) (sAsg 3 (cO F_law_times (aC (vr 0) (aC (vr 3) (aC (vr 4) aN))))) sNx) (sPar 4 5 (xV (cO F_law_times (aC (vr 0) (aC (vr 4) (aC (vr 4) aN))))) (xV (bO fdivD (vr 5) (cD (.int 2))))) [.val (rgD p n t), s1, s2, .val (tupL f), .val (tupL x), .val (.int (e : Nat))] none) fun o => o = .nx [.val (rgD p n t), s1, s2, .val (tupL (if e % 2 = 1 then mulV p n t f x else f)), .val (tupL (mulV p n t x x)), .val (.int ((e / 2 : Nat) : Int))] none := by
        refine w_seq (w_if (v_tst (v_bO (v_bO rfl rfl odd_nat) rfl eq_int)) (fun o => ?_) fun o => ?_)
        · have o1 : e % 2 = 1 := by
            have : ((e % 2 : Nat) : Int) = 1 := by simpa using o
            omega
          have e1 := e_law_times K F hn s hf hx
          rw [if_pos o1]
          exact w_asg (v_cO (v_aC rfl (v_aC rfl (v_a1 rfl))) e1) (w_par (v_xV (v_cO (v_aC rfl (v_aC rfl (v_a1 rfl))) e2)) (v_xV (v_bO rfl rfl half_nat)) rfl)
        · have o1 : ¬ e % 2 = 1 := by
            intro h
            rw [h] at o
            exact Bool.noConfusion o
          rw [if_neg o1]
          exact w_nx (w_par (v_xV (v_cO (v_aC rfl (v_aC rfl (v_a1 rfl))) e2)) (v_xV (v_bO rfl rfl half_nat)) rfl)
      have hf' : Row p n (if e % 2 = 1 then mulV p n t f x else f) := by
        split
        · exact mul_row K F f x
        · exact hf
      obtain ⟨s4, s5, h⟩ := ih (e / 2) (if e % 2 = 1 then mulV p n t f x else f) (mulV p n t x x) he' hf' (mul_row K F x x)
      refine ⟨s4, s5, ?_⟩
      rw [whS, hc, Option.bind_some]
      dsimp only
      rw [if_pos rfl, w_eq body, Option.bind_some]
      exact h
theorem e_great_power (F : Fld K p) (h1 : 1 ≤ n) (hn : n ≤ 9) (s : Shape p n t) (hl : lawSolL p (invP p) (oneRows n t) (oneGoal n) = some one) (ho : Row p n one) {a : List Int} (ha : Row p n a) {e : Nat} (he : e < 2 ^ 63) : F_law_great_power [rgD p n t, tupL a, .int (e : Nat)] = some (tupL (powL p n t 63 e one a)) := by
  have e1 := e_one_of_ring K F h1 hn s
  rw [hl] at e1
  obtain ⟨s4, s5, h⟩ := law_loop K F hn s (s1 := .val (tupL a)) (s2 := .val (.int (e : Nat))) 63 e one a he ho ha
  refine w_eq (w_runP rfl (w_seq (w_par3 (v_aC (v_cO (v_a1 rfl) e1) (v_aC rfl (v_a1 (v_cO (v_a1 rfl) rfl)))) (w_seq ⟨_, h, ?_⟩))))
  exact w_ret rfl rfl
def leftR (p n : Nat) (t : List (List (List Int))) (a : List Int) : List (List Int) := (unitsL n).map fun u => mulV p n t a u
def rightR (p n : Nat) (t : List (List (List Int))) (a : List Int) : List (List Int) := (unitsL n).map fun u => mulV p n t u a
theorem left_rrow (hp : 1 < p) (a : List Int) : TRM.RRow K p n (tb K t) (cv K a) (leftR p n t a) := by
  refine ⟨by unfold leftR; rw [List.length_map, TRM.units_len], fun r hr => ?_, fun k hk c hc => ?_⟩
  · obtain ⟨u, _, rfl⟩ := List.mem_map.mp hr
    have := TRM.mulV_row (n := n) (t := t) (by omega : 0 < p) a u
    exact ⟨this.len, this.can⟩
  · unfold leftR
    rw [TRM.getD_map (d := []) (by rw [TRM.units_len]; exact hk), TRM.mulV_cv _ _ c hc]
    refine TRM.sm_congr fun i _ => ?_
    congr 1
    exact TRM.sm_pick (fun j => tb K t i j c) hk _ (by rw [TRM.units_cv hk hk, TRM.dlt_self]; grind) fun j hj ne => by rw [TRM.units_cv hk hj, TRM.dlt_ne ne]; grind
theorem right_lrow2 (hp : 1 < p) (a : List Int) : TRM.LRow K p n (tb K t) (cv K a) (rightR p n t a) := by
  refine ⟨by unfold rightR; rw [List.length_map, TRM.units_len], fun r hr => ?_, fun k hk c hc => ?_⟩
  · obtain ⟨u, _, rfl⟩ := List.mem_map.mp hr
    have := TRM.mulV_row (n := n) (t := t) (by omega : 0 < p) u a
    exact ⟨this.len, this.can⟩
  · unfold rightR
    rw [TRM.getD_map (d := []) (by rw [TRM.units_len]; exact hk), TRM.mulV_cv _ _ c hc]
    exact TRM.sm_pick (fun i => sm n fun j => cv K a j * tb K t i j c) hk _ (by rw [TRM.units_cv hk hk, TRM.dlt_self]; grind) fun j hj ne => by rw [TRM.units_cv hk hj, TRM.dlt_ne ne]; grind
theorem e_undoing (F : Fld K p) (h1 : 1 ≤ n) (hn : n ≤ 9) (s : Shape p n t) (hl : lawSolL p (invP p) (oneRows n t) (oneGoal n) = some one) (ho : Row p n one) {a : List Int} (ha : Row p n a) : F_law_undoing [rgD p n t, tupL a] = some (optR (lawSolL p (invP p) (leftR p n t a) one)) := by
  have hp := F.lt
  have e1 := e_one_of_ring K F h1 hn s
  rw [hl] at e1
  have rr := left_rrow K (t := t) (n := n) hp a
  have e2 := e_law_solved K F (rows := leftR p n t a) (goal := one) (by rw [ho.len]; omega) (by rw [rr.len]; omega) (by intro e; have := rr.len; rw [e, List.length_nil] at this; omega) (fun r hr => by rw [ho.len]; exact rr.row r hr) ho.can
  have e3 : ∀ u ∈ unitsL n, F_law_times [rgD p n t, tupL a, tupL u] = some (tupL (mulV p n t a u)) := fun u hu => e_law_times K F hn s ha ⟨(TRM.units_row hp u hu).1, (TRM.units_row hp u hu).2⟩
  refine w_eq (w_runP rfl (w_ret (v_cO (v_aC (v_dg rfl rfl) (v_aC (v_frz (lc_map (unitsL n) tupL (fun u => tupL (mulV p n t a u)) (v_itL (v_frz (v_cF (v_a1 (v_dg rfl rfl)) (e_law_unit (n := n) (by omega))))) (by rw [TRM.units_len]; omega) fun u hu => ⟨_, rfl, v_cO (v_aC rfl (v_aC rfl (v_a1 rfl))) (e3 u hu)⟩)) (v_a1 (v_cO (v_a1 rfl) e1)))) (by rw [tabS_map]; exact e2)) rfl))
end
end TR

/-! Units; draws. -/
namespace TR
open PySem L2
open Lean.Grind (CommRing IsCharP)
open TRM (plusL scaleL leadL Can zrs unitL unitsL invP PR Fld ledI mulV sm libSolL lawSolL lawRedL Shape Good oneRow oneRows oneGoal blk tb Row cv ci powL)
theorem eqB_bl {a b : Bool} : eqB (.bl a) (.bl b) = some (a == b) := by
  unfold eqB
  rw [toP, toP]
  rfl
theorem ne_bl {a b : Bool} : neD (.bl a) (.bl b) = some (.bl (!(a == b))) := by unfold neD; rw [eqB_bl]; rfl
theorem ne_told : neD (toldR none) (.lst [.str "refused", .tup [.str "no unit"]]) = some (.bl false) := by
  have e : toP (.lst [.str "refused", .tup [.str "no unit"]]) = some (.list [.str "refused", .tuple [.str "no unit"]]) := by
    simp only [toP, toPs, Option.bind_some, Option.map_some]
  have h1 : (SeqAt.shaped (.list [.str "refused", .tuple [.str "no unit"]]) && SeqAt.shaped (.list [.str "refused", .tuple [.str "no unit"]])) = true := by decide +kernel
  have h2 : PyData.eqv (.list [.str "refused", .tuple [.str "no unit"]]) (.list [.str "refused", .tuple [.str "no unit"]]) = true := by decide +kernel
  unfold neD eqB toldR
  rw [e, Option.bind_some, Option.bind_some, if_pos h1, h2]
  rfl
/-- what a ring's one is -/
structure OneOk (K : Type) [CommRing K] (p n : Nat) (t : List (List (List Int))) (one : List Int) : Prop where
  lib : libSolL p (invP p) (oneRows n t) (oneGoal n) = some one
  law : lawSolL p (invP p) (oneRows n t) (oneGoal n) = some one
  row : Row p n one
  is : TRM.IsOne n (tb K t) (cv K one)
section
variable (K : Type) [CommRing K] {p n : Nat} [IsCharP K p] {t : List (List (List Int))} {one : List Int}
theorem one_ex (F : Fld K p) (g : Good K p n t) : ∃ one, OneOk K p n t one := by
  obtain ⟨x, h1, h2, h3⟩ := one_lib K F g
  exact ⟨x, h1, (one_law K F g).trans h1, h2, h3⟩
theorem e_units_right (F : Fld K p) (h1 : 1 ≤ n) (hn : n ≤ 9) (g : Good K p n t) (o : OneOk K p n t one) {a : List Int} (ha : Row p n a) : F_law_units_right [rgD p n t, obD one p n t, tupL a] = some (.bl true) := by
  have hp := F.lt
  have s := g.sh
  obtain ⟨val, fin⟩ := F.fin
  have L := right_lrow K (p := p) (by omega) s a
  have R := left_rrow K (t := t) (n := n) hp a
  have L2 := right_lrow2 K (t := t) (n := n) hp a
  have ol := o.row.len
  have sl := TRM.libSol_ok (K := K) (p := p) hp F.inv F.h01 (rows := rightL p n t a) (goal := one) (fun r hr => by rw [ol]; exact L.row r hr) o.row.can
  have sr := TRM.lawSol_ok (K := K) (p := p) hp F.inv F.h01 (rows := leftR p n t a) (goal := one) (fun r hr => by rw [ol]; exact R.row r hr) o.row.can
  obtain ⟨u1, u2, u3⟩ := TRM.units_ok fin g.asc ol o.is L R sl sr
  have hrk : lawSolL p (invP p) (leftR p n t a) one = none → (lawRedL p (invP p) n (rightR p n t a)).length ≠ n := fun e hl => by
    obtain ⟨q1, q2, q3⟩ := TRM.law_ok (K := K) (p := p) (by omega) F.inv F.h01 (w := n) (U := rightR p n t a) L2.row
    obtain ⟨y, hy⟩ := TRM.rank_unit L2 q1 q2 q3 hl (cv K one)
    obtain ⟨x, hx⟩ := u3 ⟨y, hy⟩
    rw [e] at hx
    cases hx
  have m1 := e_undoing K F h1 hn s o.law o.row ha
  have m2 := e_is_unit K F hn s o.row ha
  have m3 := e_told K F hn s o.row ha
  have m4 : ∀ u ∈ unitsL n, F_law_times [rgD p n t, tupL u, tupL a] = some (tupL (mulV p n t u a)) := fun u hu => e_law_times K F hn s ⟨(TRM.units_row hp u hu).1, (TRM.units_row hp u hu).2⟩ ha
  have m5 := e_law_reduced K F (w := n) (rows := rightR p n t a) (by omega) (by rw [L2.len]; omega) (by intro e; have := L2.len; rw [e, List.length_nil] at this; omega) L2.row
  have m6 := e_one_of_ring K F h1 hn s
  rw [o.law] at m6
  rw [u1] at m2 m3
  generalize lawSolL p (invP p) (leftR p n t a) one = ar at *
  refine w_eq (w_runP rfl ?_)
  refine w_seq (w_asg (v_cO (v_aC rfl (v_a1 rfl)) m1) ?_)
  refine w_seq (w_ifF (v_tst (v_bO (v_mO rfl (v_a1 rfl) m2) (v_bO rfl rfl isnt_opt) (by rw [ne_bl, beq_self_eq_true]; rfl))) (w_nx ?_))
  refine w_seq (w_ifF (v_tst (v_bO (y := toldR ar) (T2 := none) (v_cO (v_aC rfl (v_a1 rfl)) m3) ?_ ?_)) (w_nx ?_))
  rotate_left 2
  refine w_seq (w_asg (d := tabS (rightR p n t a)) (T' := none) ((v_frz (lc_map (unitsL n) tupL (fun u => tupL (mulV p n t u a)) (v_itL (v_frz (v_cF (v_a1 (v_dg rfl rfl)) (e_law_unit (n := n) (by omega))))) (by rw [TRM.units_len]; omega) fun u hu => ⟨_, rfl, v_cO (v_aC rfl (v_aC rfl (v_a1 rfl))) (m4 u hu)⟩)).trans (by rw [tabS_map]; rfl)) ?_)
  refine w_seq (w_ifF (T' := none) ?_ (w_nx (w_ret (T' := none) ?_ rfl)))
  rotate_left 2
  · cases ar with
    | none => exact v_ifT (v_tst (v_bO rfl rfl rfl)) (v_lst (v_aC rfl (v_a1 (v_tup (v_a1 rfl) (by decide)))) (by decide))
    | some x => exact v_ifF (v_tst (v_bO rfl rfl rfl)) rfl
  · cases ar with
    | none => exact ne_told
    | some x => exact (ne_row x x).trans (by rw [decide_eq_true rfl]; rfl)
  · have ml : cO lenD (aC (cO F_law_reduced (aC (dgE "p" (vr 0)) (aC (vr 4) aN))) aN) [.val (rgD p n t), .val (obD one p n t), .val (tupL a), .val (optR ar), .val (tabS (rightR p n t a)), .un] none = some (.int ((lawRedL p (invP p) n (rightR p n t a)).length : Nat), none) := v_cO (v_a1 (v_cO (v_aC (v_dg rfl rfl) (v_a1 rfl)) m5)) (len_tup.trans (by rw [List.length_map]))
    by_cases z : (lawRedL p (invP p) n (rightR p n t a)).length = n
    · cases ar with
      | none => exact absurd z (hrk rfl)
      | some x => exact v_andT (v_tst (v_bO ml (v_dg rfl rfl) (by rw [z, eq_int, beq_self_eq_true]))) (v_tst (v_bO rfl rfl rfl))
    · exact v_andF (v_tst (v_bO ml (v_dg rfl rfl) (by rw [eq_int, beq_false_of_ne (by omega)])))
  · cases ar with
    | none => exact v_oT (v_bO rfl rfl rfl)
    | some x =>
      obtain ⟨x1, x2, x3, x4⟩ := u2 x rfl
      have hx : Row p n x := ⟨x1, x2⟩
      have t1 := e_law_times K F hn s hx ha
      have t2 := e_law_times K F hn s ha hx
      have q1 : mulV p n t x a = one := (TRM.mulV_row (by omega) _ _).eq (K := K) o.row ((TRM.mulV_cv _ _).trans x3)
      have q2 : mulV p n t a x = one := (TRM.mulV_row (by omega) _ _).eq (K := K) o.row ((TRM.mulV_cv _ _).trans x4)
      rw [q1] at t1
      rw [q2] at t2
      exact v_oF (v_bO rfl rfl rfl) (v_chT (v_cO (v_aC rfl (v_aC rfl (v_a1 rfl))) t1) (v_cO (v_a1 rfl) m6) ((eq_row one one).trans (by rw [decide_eq_true rfl])) (v_cO (v_aC rfl (v_aC rfl (v_a1 rfl))) t2) ((eq_row one one).trans (by rw [decide_eq_true rfl])))
end
/-! ### draws -/
def Tank (tk : List D) : Prop := ∃ a b c : Int, tk = [.int a, .int b, .int c]
section
variable {ρ : List SV} {T T' T1 T2 : Tn} {R : Out → Prop} {f g e : FE} {i : Nat} {d z : D} {tk : List D}
theorem v_tk {k : Int} (h0 : ρ[i]? = some .tnk) (h1 : g ρ T = some (.int k, some tk)) (h2 : atI tk k = some z) : ixTk i g ρ T = some (z, some tk) := by
  unfold ixTk
  rw [h0]
  dsimp only
  rw [h1, Option.bind_some]
  dsimp only
  rw [h2]
  rfl
theorem w_setT {j : Nat} {k : Int} (h1 : f ρ T = some (d, T1)) (h2 : g ρ T1 = some (.int k, some tk)) (h0 : ρ[i]? = some .tnk) (h3 : ixN tk.length k = some j) (hk : R (.nx ρ (some (tk.set j d)))) : X3 (sSetT i f g ρ T) R := by
  unfold sSetT
  rw [h1, Option.bind_some]
  dsimp only
  rw [h2, Option.bind_some]
  dsimp only
  rw [h0]
  dsimp only
  rw [h3]
  exact ⟨_, rfl, hk⟩
theorem w_set {j : Nat} {k : Int} {ds : List D} (h1 : f ρ T = some (d, T1)) (h2 : g ρ T1 = some (.int k, T2)) (h0 : ρ[i]? = some (.own ds)) (h3 : ixN ds.length k = some j) (hk : R (.nx (ρ.set i (.own (ds.set j d))) T2)) : X3 (sSet i f g ρ T) R := by
  unfold sSet
  rw [h1, Option.bind_some]
  dsimp only
  rw [h2, Option.bind_some]
  dsimp only
  rw [h0]
  dsimp only
  rw [h3]
  exact ⟨_, rfl, hk⟩
/-- a comprehension that draws -/
theorem lc_draw {α : Type} (xs : List α) (enc : α → D) (P : D → Prop) {it : FL} {tg : FG} {vs : List Nat} (hit : it ρ T = some (xs.map enc, some tk)) (ht : Tank tk) (hl : xs.length ≤ 50000)
    (h : ∀ a ∈ xs, ∃ ρ1, tg (enc a) (wipeE ρ vs) = some ρ1 ∧ ∀ tk, Tank tk → ∃ d tk', e ρ1 (some tk) = some (d, some tk') ∧ P d ∧ Tank tk') : ∃ out tk', lcE it tg yesB e vs ρ T = some (out, some tk') ∧ out.length = xs.length ∧ (∀ d ∈ out, P d) ∧ Tank tk' := by
  unfold lcE
  rw [hit, Option.bind_some]
  dsimp only
  rw [List.length_map, if_pos hl]
  clear hit hl
  induction xs generalizing tk with
  | nil => exact ⟨[], tk, rfl, rfl, by simp, ht⟩
  | cons x xs ih =>
    obtain ⟨ρ1, h1, h2⟩ := h x List.mem_cons_self
    obtain ⟨d, tk1, h3, h4, h5⟩ := h2 tk ht
    obtain ⟨out, tk2, k1, k2, k3, k4⟩ := ih h5 fun a ha => h a (List.mem_cons_of_mem _ ha)
    refine ⟨d :: out, tk2, ?_, by rw [List.length_cons, List.length_cons, k2], fun q hq => ?_, k4⟩
    · rw [List.map_cons, lcS, h1, Option.bind_some]
      show ((e ρ1 (some tk)).bind fun x => (lcS tg yesB e (wipeE ρ vs) (xs.map enc) x.2).map fun r => (x.1 :: r.1, r.2)) = _
      rw [h3, Option.bind_some]
      dsimp only
      rw [k1]
      rfl
    · rcases List.mem_cons.mp hq with z | z
      · rw [z]; exact h4
      · exact k3 q z
end
theorem mod_pos {x y : Int} (h : 0 < y) : modD (.int x) (.int y) = some (.int (x % y)) := by
  show (if decide (y ≠ 0) = true then some (D.int (x.fmod y)) else none) = _
  rw [if_pos (by simp; omega), Int.fmod_eq_emod_of_nonneg _ (by omega)]
theorem fdiv_pos {x y : Int} (h : 0 < y) (h2 : y < 1073741824) : fdivD (.int x) (.int y) = some (.int (x.fdiv y)) := by
  show (if (decide (y ≠ 0) && decide (y.natAbs < 1073741824)) = true then some (D.int (x.fdiv y)) else none) = _
  rw [if_pos]
  rw [decide_eq_true (by omega), decide_eq_true (by omega)]
  rfl
theorem mul_intL {x y : Int} (h : x.natAbs < 2 ^ 64) : mulD (.int x) (.int y) = some (.int (x * y)) := by
  have : mulI (.int x) (.int y) = some (.int (x * y)) := by
    show (if (decide (x.natAbs < 2 ^ 64) || decide (y.natAbs < 2 ^ 64)) = true then some (D.int (x * y)) else none) = _
    rw [decide_eq_true h, Bool.true_or, if_pos rfl]
  unfold mulD orO
  rw [this]
theorem e_drop {n : Nat} (h1 : 1 ≤ n) (h2 : n ≤ 1000000) {tk : List D} (ht : Tank tk) : ∃ (r : Nat) (tk' : List D), F_law_drop tk [.int (n : Nat)] = some (.int (r : Nat), tk') ∧ r < n ∧ Tank tk' := by
  obtain ⟨a, b, c, rfl⟩ := ht
  have key : X3 (F_law_drop [.int a, .int b, .int c] [.int (n : Nat)]) fun q => ∃ (r : Nat), q.1 = .int (r : Nat) ∧ r < n ∧ Tank q.2 := by
    have fin : ∀ x : Int, ∃ r : Nat, D.int (x % (n : Int)) = .int (r : Nat) ∧ r < n := fun x => by
      have h3 := Int.emod_nonneg x (show (n : Int) ≠ 0 by omega)
      have h4 := Int.emod_lt_of_pos x (show 0 < (n : Int) by omega)
      exact ⟨(x % (n : Int)).toNat, by rw [Int.toNat_of_nonneg h3], by omega⟩
    refine w_runT rfl (w_seq (w_if (v_tst (v_bO (v_tk rfl rfl rfl) rfl gt_int)) (fun _ => ?_) fun _ => ?_))
    · refine w_seq (w_asg (v_bO (v_cO (v_a1 (v_tk rfl rfl rfl)) rfl) rfl (mod_int (by omega))) (w_seq (w_setT (v_bO (v_tk rfl rfl rfl) rfl (fdiv_pos (by omega) (by omega))) rfl rfl rfl (w_ret rfl ?_))))
      obtain ⟨r, k1, k2⟩ := fin a
      exact ⟨r, k1, k2, _, _, _, rfl⟩
    · have h3 : ∀ x : Int, (x % 2305843009213693951).natAbs < 2 ^ 64 := fun x => by
        have := Int.emod_nonneg x (show (2305843009213693951 : Int) ≠ 0 by decide)
        have := Int.emod_lt_of_pos x (show (0 : Int) < 2305843009213693951 by decide)
        omega
      refine w_nx (w_seq (w_setT (v_bO (v_tk rfl rfl rfl) rfl add_int) rfl rfl rfl (w_seq (w_asg (v_bO (v_bO (v_cO (v_a1 (v_tk rfl rfl rfl)) rfl) (v_bO rfl (v_tk rfl rfl rfl) (mul_intL (by decide))) add_int) rfl (mod_pos (by decide))) (w_seq (w_asg (v_bO (v_bO (v_bO (v_cO (v_a1 (v_bO (v_bO rfl rfl (mul_int (h3 _))) (v_bO rfl (v_tk rfl rfl rfl) (mul_intL (by decide))) add_int)) rfl) rfl (mod_pos (by decide))) rfl (mul_int (by decide))) rfl add_int) (w_ret (v_bO (v_cO (v_a1 (v_bO rfl rfl (fdiv_pos (by decide) (by decide)))) rfl) rfl (mod_int (by omega))) ?_)))))))
      obtain ⟨r, k1, k2⟩ := fin (((((b + 49979687 * (c + 1)) % 2305843009213693951 * ((b + 49979687 * (c + 1)) % 2305843009213693951) + 44 * (c + 1)) % 2305843009213693907 * 86028121 + (b + 49979687 * (c + 1)) % 2305843009213693951)).fdiv 32768)
      exact ⟨r, k1, k2, _, _, _, rfl⟩
  obtain ⟨⟨d, tk'⟩, k1, r, k2, k3, k4⟩ := key
  dsimp only at k2
  rw [k2] at k1
  exact ⟨r, tk', k1, k3, k4⟩
theorem e_choice {ds : List D} (h1 : ds ≠ []) (h2 : ds.length ≤ 1000) {tk : List D} (ht : Tank tk) : ∃ (d : D) (tk' : List D), F_law_choice tk [.lst ds] = some (d, tk') ∧ d ∈ ds ∧ Tank tk' := by
  have hl : 1 ≤ ds.length := by
    cases ds with
    | nil => exact absurd rfl h1
    | cons d ds => rw [List.length_cons]; omega
  obtain ⟨r, tk', k1, k2, k3⟩ := e_drop hl (by omega) ht
  have e : F_law_choice tk [.lst ds] = some (ds[r], tk') := w_eq (w_runT rfl (w_ret (v_bO rfl (v_tc rfl (v_a1 (v_cO (v_a1 rfl) len_lst)) k1) (by
    show atI ds (r : Int) = _
    unfold atI
    rw [ixN_nat k2, Option.bind_some, List.getElem?_eq_getElem k2])) rfl))
  exact ⟨_, tk', e, List.getElem_mem k2, k3⟩
theorem ints_of {ds : List D} {P : Int → Prop} (h : ∀ d ∈ ds, ∃ x : Int, d = .int x ∧ P x) : ∃ l : List Int, ds = l.map .int ∧ ∀ x ∈ l, P x := by
  induction ds with
  | nil => exact ⟨[], rfl, by simp⟩
  | cons d ds ih =>
    obtain ⟨x, h1, h2⟩ := h d List.mem_cons_self
    obtain ⟨l, h3, h4⟩ := ih fun d hd => h d (List.mem_cons_of_mem _ hd)
    refine ⟨x :: l, by rw [h1, h3]; rfl, fun y hy => ?_⟩
    rcases List.mem_cons.mp hy with z | z
    · rw [z]; exact h2
    · exact h4 y z
theorem e_member {p n : Nat} {t : List (List (List Int))} (hp : 1 ≤ p) (hp7 : p ≤ 7) (hn : n ≤ 9) {tk : List D} (ht : Tank tk) : ∃ (a : List Int) (tk' : List D), F_law_member tk [rgD p n t] = some (tupL a, tk') ∧ Row p n a ∧ Tank tk' := by
  obtain ⟨out, tk', k1, k2, k3, k4⟩ := lc_draw (ρ := .tnk :: startE 2 [rgD p n t]) (T := some tk) (tk := tk) (e := tcE 0 F_law_drop (aC (dgE "p" (vr 1)) aN)) (it := itR1 (aC (dgE "n" (vr 1)) aN)) (tg := gN 2) (vs := [2]) (List.range n) (fun (k : Nat) => D.int (k : Nat)) (fun d => ∃ x : Int, d = .int x ∧ 0 ≤ x ∧ x < (p : Int)) (v_itR (v_a1 (v_dg rfl rfl)) (by omega)) ht (by rw [List.length_range]; omega) fun a _ => ⟨_, rfl, fun tk ht => by
    obtain ⟨r, tk', k1, k2, k3⟩ := e_drop (n := p) hp (by omega) ht
    exact ⟨_, _, v_tc rfl (v_a1 (v_dg rfl rfl)) k1, ⟨r, rfl, by omega, by omega⟩, k3⟩⟩
  obtain ⟨l, l1, l2⟩ := ints_of k3
  have hl : l.length = n := by rw [l1, List.length_map, List.length_range] at k2; exact k2
  rw [l1] at k1
  exact ⟨l, tk', w_eq (w_runT rfl (w_ret (v_cO (v_a1 (v_frz k1)) rfl) rfl)), ⟨hl, l2⟩, k4⟩
end TR

/-! Drawn rings on data. -/
namespace TR
open PySem L2
open Lean.Grind (CommRing IsCharP)
open TRM (plusL scaleL leadL Can zrs unitL unitsL invP PR Fld ledI mulV sm libSolL lawSolL lawRedL Shape Good oneRow oneRows oneGoal blk tb Row cv ci powL tF2 tU2 tC2 tC3 tC4 tV4 polyL nextP besL Bases backL rws)
theorem e_sq0 (p : Nat) : F_law_squares [.int (p : Nat), .int 2, .bl false] = some (rgD p 4 tF2) := by kernel_rfl
theorem e_sq1 (p : Nat) : F_law_squares [.int (p : Nat), .int 2, .bl true] = some (rgD p 3 tU2) := by kernel_rfl
theorem e_mv2 (p : Nat) : F_law_moved [.int (p : Nat), .tup [tupL [1, 0]]] = some (rgD p 2 tC2) := by kernel_rfl
theorem e_mv3 (p : Nat) : F_law_moved [.int (p : Nat), .tup [tupL [1, 2, 0]]] = some (rgD p 3 tC3) := by kernel_rfl
theorem e_mv4 (p : Nat) : F_law_moved [.int (p : Nat), .tup [tupL [1, 2, 3, 0]]] = some (rgD p 4 tC4) := by kernel_rfl
theorem e_mvV (p : Nat) : F_law_moved [.int (p : Nat), .tup [tupL [1, 0, 3, 2], tupL [2, 3, 0, 1]]] = some (rgD p 4 tV4) := by kernel_rfl
/-! ### of a polynomial -/
abbrev lstI (l : List Int) : D := .lst (l.map .int)
theorem ixN_neg {n : Nat} : ixN (n + 1) (-1) = some n := by
  unfold ixN
  rw [if_neg (by decide), if_pos (by omega)]
  congr 1
  omega
theorem at_last {α : Type} {f : α → D} {l : List α} (d : α) (h : 0 < l.length) : atI (l.map f) (-1) = some (f (l.getD (l.length - 1) d)) := by
  unfold atI
  obtain ⟨m, hm⟩ : ∃ m, l.length = m + 1 := ⟨l.length - 1, by omega⟩
  rw [List.length_map, hm, ixN_neg, Option.bind_some, List.getElem?_map, show m + 1 - 1 = m by omega, List.getElem?_eq_getElem (by omega), TRM.getD_at (by omega)]
  rfl
theorem cut_neg {α : Type} (xs : List α) : cutL xs none (some (-1)) = xs.dropLast := by
  unfold cutL
  rw [HT.sIx_none, List.drop_zero, Nat.sub_zero, List.dropLast_eq_take]
  show xs.take (if (-1 : Int) < 0 then (-1 + (xs.length : Int)).toNat else min (-1 : Int).toNat xs.length) = _
  rw [if_pos (by decide)]
  congr 1
  omega
section
variable {p n : Nat} {poly : List Int}
theorem pw_len (hn : 0 < n) (hl : poly.length = n + 1) : ∀ m, (TRM.PW p n poly m).length = n
  | 0 => TRM.unit_len n 0
  | m + 1 => by
    rw [TRM.PW]
    split
    · exact TRM.unit_len n _
    · exact TRM.next_len (pw_len hn hl m) hl hn
theorem pw_unit {m : Nat} (h : m < n) : TRM.PW p n poly m = unitL n m := by
  cases m with
  | zero => rfl
  | succ m => rw [TRM.PW, if_pos h]
theorem pw_next {k : Nat} : TRM.PW p (n + 1) poly (n + 1 + k) = nextP p poly (TRM.PW p (n + 1) poly (n + k)) := by
  rw [show n + 1 + k = (n + k) + 1 by omega, TRM.PW, if_neg (by omega)]
theorem e_poly (hp : 0 < p) (hp7 : p ≤ 7) (hn : n ≤ 8) (hl : poly.length = n + 2) (hc : Can p poly) : F_law_poly_ring [.int (p : Nat), lstI poly] = some (rgD p (n + 1) (polyL p (n + 1) poly)) := by
  refine w_eq (w_runP rfl ?_)
  refine w_seq (w_asg (d := .int ((n + 1 : Nat) : Int)) (v_bO (v_cO (v_a1 rfl) len_lst) rfl (by
    rw [List.length_map, hl, sub_int]
    congr 2
    omega)) ?_)
  refine w_seq (w_own (ds := ((List.range (n + 1)).map (TRM.PW p (n + 1) poly)).map lstI) (T' := none) ((lc_map (List.range (n + 1)) (fun k => tupL (unitL (n + 1) k)) (fun k => lstI (unitL (n + 1) k)) (v_itL (v_frz (v_cF (v_a1 rfl) ((e_law_unit (n := n + 1) (by omega)).trans (by show some (((List.range (n + 1)).map (unitL (n + 1))).map tupL) = _; rw [List.map_map]; rfl))))) (by rw [List.length_range]; omega) fun k _ => ⟨_, rfl, v_cO (v_a1 rfl) rfl⟩).trans (by
    rw [List.map_map]
    refine congrArg (fun x => some (x, none)) (List.map_congr_left fun k hk => ?_)
    show lstI (unitL (n + 1) k) = lstI (TRM.PW p (n + 1) poly k)
    rw [pw_unit (List.mem_range.mp hk)])) ?_)
  refine w_seq (w_for (List.range n) (fun (k : Nat) => D.int (k : Nat)) (fun k ρ T => T = none ∧ ∃ s4 s5 s6 s7 s8 s9 s10 s11, ρ = [.val (.int (p : Nat)), .val (lstI poly), .val (.int ((n + 1 : Nat) : Int)), .own (((List.range (n + 1 + k)).map (TRM.PW p (n + 1) poly)).map lstI), s4, s5, s6, s7, s8, s9, s10, s11]) (v_itR (v_a1 (v_bO rfl rfl (by
    rw [sub_int]
    show _ = some (D.int (n : Nat))
    congr 2
    omega))) (by omega)) ⟨rfl, _, _, _, _, _, _, _, _, rfl⟩ (fun k hk ρ T h' => ?_) fun ρ T h' => ?_)
  · obtain ⟨rfl, s4, s5, s6, s7, s8, s9, s10, s11, rfl⟩ := h'
    rw [List.length_range] at hk
    rw [List.getElem_range]
    have ll := pw_len (p := p) (n := n + 1) (poly := poly) (by omega) (by omega) (n + k)
    have hlast : atI (((List.range (n + 1 + k)).map (TRM.PW p (n + 1) poly)).map lstI) (-1) = some (lstI (TRM.PW p (n + 1) poly (n + k))) := by
      rw [at_last [] (by rw [List.length_map, List.length_range]; omega), List.length_map, List.length_range, show n + 1 + k - 1 = n + k by omega, TRM.getD_map_range (by omega)]
    have hnx := pw_next (p := p) (n := n) (poly := poly) (k := k)
    generalize TRM.PW p (n + 1) poly (n + k) = last at *
    refine ⟨_, rfl, w_seq (w_asg (v_ixO rfl (v_uO rfl neg_int) hlast) ?_)⟩
    refine w_seq (w_asg (d := lstI (0 :: last.dropLast)) (T' := none) (v_bO (v_lst (v_a1 rfl) (by decide)) (v_sl rfl rfl (v_oS (v_uO rfl neg_int)) (show _ = some (D.lst _) from congrArg (fun x => some (D.lst x)) (cut_neg _))) ((cat_lst (by rw [List.length_dropLast, List.length_map, List.length_cons, List.length_nil]; omega)).trans (by rw [← List.map_dropLast]; rfl))) ?_)
    have hx : ixD (lstI last) (.int (-1)) = some (.int (last.getD (last.length - 1) 0)) := at_last 0 (by omega)
    refine w_app rfl (v_frz (lc_map ((0 :: last.dropLast).zip poly) _ (fun q => .int ((q.1 - last.getD (last.length - 1) 0 * q.2) % (p : Int))) (v_itZ (f1 := D.int) (f2 := D.int) (v_aC rfl (v_a1 rfl)) rfl rfl) (by rw [List.length_zip]; omega) fun q hq => ⟨_, rfl, v_bO (v_bO rfl (v_bO (v_bO rfl (v_uO rfl neg_int) hx) rfl (mul_int (can_abs hp7 hc _ (List.of_mem_zip hq).2))) sub_int) rfl (mod_int hp)⟩)) (by rw [List.length_map, List.length_map, List.length_range]; omega) ⟨rfl, _, _, _, _, _, _, _, _, by
      rw [show n + 1 + (k + 1) = n + 1 + k + 1 by omega, List.range_succ, List.map_append, List.map_append, List.map_cons, List.map_nil, hnx, map_zip (fun a b => (a - last.getD (last.length - 1) 0 * b) % (p : Int)) D.int]
      rfl⟩
  · obtain ⟨rfl, s4, s5, s6, s7, s8, s9, s10, s11, rfl⟩ := h'
    rw [List.length_range]
    have er := e_law_ring (p := p) (polyL p (n + 1) poly) lstI (fun _ => rfl) (by unfold polyL; rw [List.length_map, List.length_range]; omega) fun l hl => by
      obtain ⟨i, _, rfl⟩ := List.mem_map.mp hl
      rw [List.length_map, List.length_range]
      omega
    have pl : (polyL p (n + 1) poly).length = n + 1 := by unfold polyL; rw [List.length_map, List.length_range]
    rw [pl] at er
    refine w_ret (v_cO (v_aC rfl (v_a1 (v_frz (lc_map (List.range (n + 1)) (fun (k : Nat) => D.int (k : Nat)) (fun i => .lst ((List.range (n + 1)).map fun j => lstI (TRM.PW p (n + 1) poly (i + j)))) (v_itR (v_a1 rfl) (by omega)) (by rw [List.length_range]; omega) fun i hi => ⟨_, rfl, v_frz (lc_map (List.range (n + 1)) (fun (k : Nat) => D.int (k : Nat)) (fun j => lstI (TRM.PW p (n + 1) poly (i + j))) (v_itR (v_a1 rfl) (by omega)) (by rw [List.length_range]; omega) fun j hj => ⟨_, rfl, v_ixO rfl (v_bO rfl rfl add_int) (by
      have hi := List.mem_range.mp hi
      have hj := List.mem_range.mp hj
      rw [← Int.natCast_add, at_map [] (by rw [List.length_map, List.length_range]; omega), TRM.getD_map_range (by omega)])⟩)⟩)))) (by
      refine Eq.trans (congrArg (fun x => F_law_ring [.int (p : Nat), .lst x]) ?_) er
      unfold polyL
      rw [List.map_map]
      refine List.map_congr_left fun i _ => ?_
      show _ = D.lst (((List.range (n + 1)).map fun j => TRM.PW p (n + 1) poly (i + j)).map lstI)
      rw [List.map_map]
      rfl)) rfl
end
end TR

/-! Drawn rings on data: beside, other bases, draws. -/
namespace TR
open PySem L2
open Lean.Grind (CommRing IsCharP)
open TRM (plusL scaleL leadL Can zrs unitL unitsL invP PR Fld ledI mulV sm libSolL lawSolL lawRedL Shape Good oneRow oneRows oneGoal blk tb Row cv ci powL tF2 tU2 tC2 tC3 tC4 tV4 polyL nextP besL Bases backL rws)
theorem rep_lst {x : D} {m : Nat} (h : m ≤ 1000) : mulD (.lst [x]) (.int (m : Nat)) = some (.lst (List.replicate m x)) := by
  have e : (List.replicate m [x]).flatten = List.replicate m x := by
    induction m with
    | zero => rfl
    | succ m ih => rw [List.replicate_succ, List.flatten_cons, ih (by omega)]; rfl
  have hr : repL (.lst [x]) (.int (m : Nat)) = some (.lst (List.replicate m x)) := by
    unfold repL
    dsimp only
    rw [if_pos ⟨by omega, by omega, by show 1 ≤ 100; decide⟩, Int.toNat_natCast, e]
  show (match repL (.lst [x]) (.int (m : Nat)) with
    | some z => some z
    | none => repT (.lst [x]) (.int (m : Nat))) = _
  rw [hr]
theorem add_nat {a b : Nat} : addD (.int (a : Nat)) (.int (b : Nat)) = some (.int ((a + b : Nat) : Int)) := by rw [add_int, Int.natCast_add]
theorem tab_rep (m : Nat) (r : List Int) : List.replicate m (tupL r) = (List.replicate m r).map tupL := by rw [List.map_replicate]
theorem e_beside {p n m : Nat} {A B : List (List (List Int))} (hn : n ≤ 9) (hm : m ≤ 9) (a : Shape p n A) (b : Shape p m B) : F_law_beside [rgD p n A, rgD p m B] = some (rgD p (n + m) (besL n m A B)) := by
  have zz : cO F_law_ring aN = cO F_law_ring aN := rfl
  refine w_eq (w_runP rfl (w_seq (w_par (v_xV (v_dg rfl rfl)) (v_xV (v_dg rfl rfl)) ?_)))
  refine w_seq (w_own (v_len rfl (by decide)) ?_)
  refine w_seq (w_for (List.range n) (fun (k : Nat) => D.int (k : Nat)) (fun k ρ T => T = none ∧ ∃ s5 s6, ρ = [.val (rgD p n A), .val (rgD p m B), .val (.int (n : Nat)), .val (.int (m : Nat)), .own (((A.take k).map fun l => l.map (· ++ zrs m) ++ List.replicate m (zrs (n + m))).map tabS), s5, s6]) (v_itR (v_a1 rfl) (by omega)) ⟨rfl, _, _, rfl⟩ (fun k hk ρ T h' => ?_) fun ρ T h' => ?_)
  · obtain ⟨rfl, s5, s6, rfl⟩ := h'
    rw [List.length_range] at hk
    rw [List.getElem_range]
    have hk2 : k < A.length := by rw [a.len]; exact hk
    have el : A.getD k [] = A[k] := TRM.getD_at hk2
    have al := a.line _ (List.getElem_mem hk2)
    have ar := a.row _ (List.getElem_mem hk2)
    refine ⟨_, rfl, w_app rfl (d := tabS (A[k].map (· ++ zrs m) ++ List.replicate m (zrs (n + m)))) (T' := none) (v_bO (v_frz (lc_map A[k] tupL (fun r => tupL (r ++ zrs m)) (v_itL (v_bO (v_dg rfl rfl) rfl ((ix_blS hk2).trans (by rw [el])))) (by omega) fun r hr => ⟨_, rfl, v_bO rfl (v_bO (v_tup (v_a1 rfl) (by decide)) rfl (zeros_row (by omega))) (cat_rows (by rw [(ar r hr).1, TRM.zrs_len]; omega))⟩)) (v_bO (v_lst (v_a1 (v_bO (v_tup (v_a1 rfl) (by decide)) (v_bO rfl rfl add_nat) (zeros_row (by omega)))) (by show 1 ≤ 100000; decide)) rfl (rep_lst (by omega))) ((cat_lst (by rw [List.length_map, List.length_replicate]; omega)).trans ?_)) (by rw [List.length_map, List.length_map, List.length_take]; omega) ⟨rfl, _, _, by
      rw [List.take_succ_eq_append_getElem hk2, List.map_append, List.map_append]
      rfl⟩⟩
    rw [tab_rep]
    show some (D.lst _) = some (D.lst _)
    rw [List.map_append, List.map_map]
    rfl
  · obtain ⟨rfl, s5, s6, rfl⟩ := h'
    rw [List.length_range, ← a.len, List.take_length, a.len]
    generalize hA : (A.map fun l => l.map (· ++ zrs m) ++ List.replicate m (zrs (n + m))) = A' at *
    have lA : A'.length = n := by rw [← hA, List.length_map, a.len]
    refine w_seq (w_for (List.range m) (fun (k : Nat) => D.int (k : Nat)) (fun k ρ T => T = none ∧ ∃ s5 s6, ρ = [.val (rgD p n A), .val (rgD p m B), .val (.int (n : Nat)), .val (.int (m : Nat)), .own ((A' ++ (B.take k).map fun l => List.replicate n (zrs (n + m)) ++ l.map (zrs n ++ ·)).map tabS), s5, s6]) (v_itR (v_a1 rfl) (by omega)) ⟨rfl, _, _, by rw [List.take_zero, List.map_nil, List.append_nil]⟩ (fun k hk ρ T h' => ?_) fun ρ T h' => ?_)
    · obtain ⟨rfl, s5, s6, rfl⟩ := h'
      rw [List.length_range] at hk
      rw [List.getElem_range]
      have hk2 : k < B.length := by rw [b.len]; exact hk
      have el : B.getD k [] = B[k] := TRM.getD_at hk2
      have bl := b.line _ (List.getElem_mem hk2)
      have br := b.row _ (List.getElem_mem hk2)
      refine ⟨_, rfl, w_app rfl (d := tabS (List.replicate n (zrs (n + m)) ++ B[k].map (zrs n ++ ·))) (T' := none) (v_bO (v_bO (v_lst (v_a1 (v_bO (v_tup (v_a1 rfl) (by decide)) (v_bO rfl rfl add_nat) (zeros_row (by omega)))) (by show 1 ≤ 100000; decide)) rfl (rep_lst (by omega))) (v_frz (lc_map B[k] tupL (fun r => tupL (zrs n ++ r)) (v_itL (v_bO (v_dg rfl rfl) rfl ((ix_blS hk2).trans (by rw [el])))) (by omega) fun r hr => ⟨_, rfl, v_bO (v_bO (v_tup (v_a1 rfl) (by decide)) rfl (zeros_row (by omega))) rfl (cat_rows (by rw [(br r hr).1, TRM.zrs_len]; omega))⟩)) ((cat_lst (by rw [List.length_map, List.length_replicate]; omega)).trans ?_)) (by rw [List.length_map, List.length_append, List.length_map, List.length_take]; omega) ⟨rfl, _, _, by
        rw [List.take_succ_eq_append_getElem hk2]
        simp only [List.map_append, List.append_assoc]
        rfl⟩⟩
      rw [tab_rep]
      show some (D.lst _) = some (D.lst _)
      rw [List.map_append, List.map_map]
      rfl
    · obtain ⟨rfl, s5, s6, rfl⟩ := h'
      rw [List.length_range, ← b.len, List.take_length, b.len]
      have eb : (A' ++ B.map fun l => List.replicate n (zrs (n + m)) ++ l.map (zrs n ++ ·)) = besL n m A B := by rw [← hA]; rfl
      rw [eb]
      have lb : (besL n m A B).length = n + m := by rw [← eb, List.length_append, List.length_map, lA, b.len]
      have ll : ∀ l ∈ besL n m A B, l.length ≤ 50000 := fun l hl => by
        rw [← eb, ← hA] at hl
        rcases List.mem_append.mp hl with h | h
        · obtain ⟨q, hq, rfl⟩ := List.mem_map.mp h
          rw [List.length_append, List.length_map, List.length_replicate, a.line q hq]
          omega
        · obtain ⟨q, hq, rfl⟩ := List.mem_map.mp h
          rw [List.length_append, List.length_map, List.length_replicate, b.line q hq]
          omega
      have er := e_law_ring (p := p) (besL n m A B) tupL (fun _ => rfl) (by omega) ll
      rw [lb] at er
      exact w_frz rfl (w_ret (v_cO (v_aC (v_dg rfl rfl) (v_a1 rfl)) er) rfl)
section
variable (K : Type) [CommRing K] {p n : Nat} [IsCharP K p] {t : List (List (List Int))}
def reL (p n : Nat) (t : List (List (List Int))) (one back : List (List Int)) : List (List (List Int)) := one.map fun l => one.map fun r => ledI p n n back (mulV p n t l r)
theorem re_shape (hp : 0 < p) {one back : List (List Int)} (h1 : one.length = n) : Shape p n (reL p n t one back) := by
  refine ⟨by unfold reL; rw [List.length_map, h1], fun l hl => ?_, fun l hl r hr => ?_⟩
  · obtain ⟨q, _, rfl⟩ := List.mem_map.mp hl
    rw [List.length_map, h1]
  · obtain ⟨q, _, rfl⟩ := List.mem_map.mp hl
    obtain ⟨q2, _, rfl⟩ := List.mem_map.mp hr
    have := TRM.ledI_row (n := n) (m := n) hp back (mulV p n t q q2)
    exact ⟨this.len, this.can⟩
theorem re_good (hp : 1 < p) (g : Good K p n t) {one back : List (List Int)} (b : Bases K p n one back) : Good K p n (reL p n t one back) := by
  refine TRM.good_re g b (re_shape (by omega) b.l1) fun i hi j hj => ?_
  have e : ((reL p n t one back).getD i []).getD j [] = ledI p n n back (mulV p n t (one.getD i []) (one.getD j [])) := by
    unfold reL
    rw [TRM.getD_map (d := []) (by rw [b.l1]; exact hi), TRM.getD_map (d := []) (by rw [b.l1]; exact hj)]
  show TRM.Eq n (cv K (((reL p n t one back).getD i []).getD j [])) _
  rw [e]
  refine (TRM.ledI_cv _ _).trans fun c _ => ?_
  exact TRM.sm_congr fun k hk => by rw [TRM.mulV_cv _ _ k hk]
theorem e_rebased (F : Fld K p) (h1 : 1 ≤ n) (hn : n ≤ 9) (s : Shape p n t) {one back : List (List Int)} (b : Bases K p n one back) : F_law_rebased [rgD p n t, tabS one, tabS back] = some (rgD p n (reL p n t one back)) := by
  have hp := F.lt
  have ol := b.l1
  refine w_eq (w_runP rfl (w_seq (w_own (v_len rfl (by decide)) ?_)))
  refine w_seq (w_for one tupL (fun k ρ T => T = none ∧ ∃ s4 s5 s6 s7, ρ = [.val (rgD p n t), .val (tabS one), .val (tabS back), .own (((one.take k).map fun l => one.map fun r => ledI p n n back (mulV p n t l r)).map tabS), s4, s5, s6, s7]) (v_itL rfl) ⟨rfl, _, _, _, _, rfl⟩ (fun k hk ρ T h' => ?_) fun ρ T h' => ?_)
  · obtain ⟨rfl, s4, s5, s6, s7, rfl⟩ := h'
    have rr : ∀ r ∈ one, Row p n r := fun r hr => ⟨(b.r1 r hr).1, (b.r1 r hr).2⟩
    have hl := rr _ (List.getElem_mem hk)
    have m1 : ∀ r ∈ one, F_law_times [rgD p n t, tupL one[k], tupL r] = some (tupL (mulV p n t one[k] r)) := fun r hr => e_law_times K F hn s hl (rr r hr)
    have m2 : ∀ r, F_law_led [.int (p : Nat), tabS back, tupL (mulV p n t one[k] r)] = some (tupL (ledI p n n back (mulV p n t one[k] r))) := fun r => e_law_led K F h1 hn b.l2 b.r2 (mul_row K F _ _)
    refine ⟨_, rfl, w_seq (w_asg (v_frz (lc_map one tupL (fun r => tupL (mulV p n t one[k] r)) (v_itL rfl) (by omega) fun r hr => ⟨_, rfl, v_cO (v_aC rfl (v_aC rfl (v_a1 rfl))) (m1 r hr)⟩)) ?_)⟩
    refine w_app rfl (d := tabS (one.map fun r => ledI p n n back (mulV p n t one[k] r))) (T' := none) ((v_frz (lc_map one (fun r => tupL (mulV p n t one[k] r)) (fun r => tupL (ledI p n n back (mulV p n t one[k] r))) (v_itL rfl) (by omega) fun r hr => ⟨_, rfl, v_cO (v_aC (v_dg rfl rfl) (v_aC rfl (v_a1 rfl))) (m2 r)⟩)).trans (by rw [tabS_map])) (by rw [List.length_map, List.length_map, List.length_take]; omega) ⟨rfl, _, _, _, _, by
      rw [List.take_succ_eq_append_getElem hk, List.map_append, List.map_append]
      rfl⟩
  · obtain ⟨rfl, s4, s5, s6, s7, rfl⟩ := h'
    rw [List.take_length]
    have er := e_law_ring (p := p) (reL p n t one back) tupL (fun _ => rfl) (by unfold reL; rw [List.length_map]; omega) fun l hl => by
      obtain ⟨q, _, rfl⟩ := List.mem_map.mp hl
      rw [List.length_map]
      omega
    have rl : (reL p n t one back).length = n := by unfold reL; rw [List.length_map, ol]
    rw [rl] at er
    exact w_frz rfl (w_ret (v_cO (v_aC (v_dg rfl rfl) (v_a1 rfl)) er) rfl)
theorem e_shears (F : Fld K p) (h1 : 1 ≤ n) (hn : n ≤ 9) {tk : List D} (ht : Tank tk) : ∃ (one back : List (List Int)) (tk' : List D), F_law_shears tk [.int (p : Nat), .int (n : Nat)] = some (.tup [tabS one, tabS back], tk') ∧ Bases K p n one back ∧ Tank tk' := by
  have hp := F.lt
  have hp7 := F.le
  have eu := e_law_unit (n := n) (by omega)
  obtain ⟨m, tk1, d1, d2, d3⟩ : ∃ (m : Nat) (tk1 : List D), ifE (tst (bO gtD (vr 2) (cD (.int 1)))) (tcE 0 F_law_drop (aC (bO mulD (cD (.int 2)) (vr 2)) aN)) (cD (.int 0)) [.tnk, .val (.int (p : Nat)), .val (.int (n : Nat)), .own ((unitsL n).map tupL), .val (tabS (unitsL n)), .un, .un, .un, .un, .un, .un] (some tk) = some (.int (m : Nat), some tk1) ∧ m ≤ 1000 ∧ Tank tk1 := by
    by_cases z : 1 < n
    · obtain ⟨r, tk', k1, k2, k3⟩ := e_drop (n := 2 * n) (by omega) (by omega) ht
      exact ⟨r, tk', v_ifT (v_tst (v_bO rfl rfl (by rw [gt_int, decide_eq_true (by omega)]))) (v_tc rfl (v_a1 (v_bO rfl rfl (mul_intL (by decide)))) (by rw [Int.natCast_mul] at k1; exact k1)), by omega, k3⟩
    · exact ⟨0, tk, v_ifF (v_tst (v_bO rfl rfl (by rw [gt_int, decide_eq_false (by omega)]))) rfl, by omega, ht⟩
  have key : X3 (F_law_shears tk [.int (p : Nat), .int (n : Nat)]) fun q => ∃ (one back : List (List Int)), q.1 = .tup [tabS one, tabS back] ∧ Bases K p n one back ∧ Tank q.2 := by
    refine w_runT rfl (w_seq (w_par (v_xO (v_cF (v_a1 rfl) eu)) (v_xV (v_frz (v_cF (v_a1 rfl) eu))) ?_))
    refine w_seq (w_for (List.range m) (fun (k : Nat) => D.int (k : Nat)) (fun _ ρ T => ∃ one back tk s5 s6 s7 s8 s9 s10, T = some tk ∧ Tank tk ∧ Bases K p n one back ∧ ρ = [.tnk, .val (.int (p : Nat)), .val (.int (n : Nat)), .own (one.map tupL), .val (tabS back), s5, s6, s7, s8, s9, s10]) (v_itR (v_a1 d1) (by omega)) ⟨_, _, _, _, _, _, _, _, _, rfl, d3, TRM.bases_unit hp, rfl⟩ (fun k hk ρ T h' => ?_) fun ρ T h' => ?_)
    · obtain ⟨one, back, tk, s5, s6, s7, s8, s9, s10, rfl, tt, b, rfl⟩ := h'
      obtain ⟨i, tk2, i1, i2, i3⟩ := e_drop h1 (by omega) tt
      obtain ⟨j, tk3, j1, j2, j3⟩ := e_drop h1 (by omega) i3
      obtain ⟨f, tk4, f1, f2, f3⟩ := e_drop (n := p) (by omega) (by omega) j3
      have ol := b.l1
      have bl := b.l2
      have or1 : ∀ k, k < n → (one.getD k []).length = n ∧ Can p (one.getD k []) := fun k hk => by
        rw [TRM.getD_at (by omega)]; exact b.r1 _ (List.getElem_mem _)
      refine ⟨_, rfl, w_seq (w_par3 (v_aC (v_tc rfl (v_a1 rfl) i1) (v_aC (v_tc rfl (v_a1 rfl) j1) (v_a1 (v_tc rfl (v_a1 rfl) f1)))) (w_if (v_tst (v_bO rfl rfl ne_int)) (fun z => ?_) fun z => ?_))⟩
      · have ne : i ≠ j := by
          intro e
          rw [e, beq_self_eq_true] at z
          exact Bool.noConfusion z
        have m1 := e_law_plus (p := p) (a := one.getD i []) (b := one.getD j []) (f := (f : Nat)) (by omega) (by rw [(or1 i i2).1]; omega) (can_abs hp7 (or1 j j2).2)
        refine w_seq (w_set (v_cO (v_aC rfl (v_aC (v_ixO rfl rfl (at_map [] (by rw [ol]; exact i2))) (v_aC (v_ixO rfl rfl (at_map [] (by rw [ol]; exact j2))) (v_a1 rfl)))) m1) rfl rfl (ixN_nat (by rw [List.length_map, ol]; exact i2)) ?_)
        have bm : ∀ row ∈ back, D.tup ((List.range n).map fun (k : Nat) => D.int ((row.getD k 0 - (f : Int) * row.getD i 0 * (if ((k : Int) == (j : Int)) = true then 1 else 0)) % (p : Int))) = tupL ((List.range n).map fun k => (row.getD k 0 - (f : Int) * row.getD i 0 * (if k = j then 1 else 0)) % (p : Int)) := fun row _ => by
          unfold tupL
          rw [List.map_map]
          refine congrArg D.tup (List.map_congr_left fun k _ => ?_)
          show D.int _ = D.int ((row.getD k 0 - (f : Int) * row.getD i 0 * (if k = j then 1 else 0)) % (p : Int))
          by_cases z : k = j
          · rw [if_pos z, if_pos (by rw [z]; exact beq_self_eq_true _)]
          · rw [if_neg z, if_neg (by simpa using fun h => z (by omega))]
        have ab : ∀ x : Int, ((if x = 0 then (0 : Int) else 1)).natAbs < 2 ^ 64 := fun x => by split <;> decide
        refine w_asg (d := tabS (backL p n i j f back)) (T' := some tk4) ((v_frz (lc_map back tupL (fun row => tupL ((List.range n).map fun k => (row.getD k 0 - (f : Int) * row.getD i 0 * (if k = j then 1 else 0)) % (p : Int))) (v_itL rfl) (by omega) fun row hr => ⟨_, rfl, v_cO (v_a1 (v_frz (lc_map (List.range n) (fun (k : Nat) => D.int (k : Nat)) (fun (k : Nat) => D.int ((row.getD k 0 - (f : Int) * row.getD i 0 * (if ((k : Int) == (j : Int)) = true then 1 else 0)) % (p : Int))) (v_itR (v_a1 rfl) (by omega)) (by rw [List.length_range]; omega) fun k hk => ⟨_, rfl, v_bO (v_bO (v_bO rfl rfl (ix_row (by rw [(b.r2 row hr).1]; exact List.mem_range.mp hk))) (v_bO (v_bO rfl (v_bO rfl rfl (ix_row (by rw [(b.r2 row hr).1]; exact i2))) (mul_intL (by omega))) (v_cO (v_a1 (v_bO rfl rfl eq_int)) int_bl) (mul_int (by split <;> decide))) sub_int) rfl (mod_int (by omega))⟩))) (congrArg some (bm row hr))⟩)).trans (by rw [tabS_map]; rfl)) ⟨_, _, _, _, _, _, _, _, _, rfl, f3, TRM.bases_step hp b i2 j2 ne, by
          rw [List.map_set]
          rfl⟩
      · exact w_nx ⟨_, _, _, _, _, _, _, _, _, rfl, f3, b, rfl⟩
    · obtain ⟨one, back, tk, s5, s6, s7, s8, s9, s10, rfl, tt, b, rfl⟩ := h'
      exact w_frz rfl (w_ret (v_tup (v_aC rfl (v_a1 rfl)) (by show 2 ≤ 100000; decide)) ⟨one, back, rfl, b, tt⟩)
  obtain ⟨⟨d, tk'⟩, k1, one, back, k2, k3, k4⟩ := key
  dsimp only at k2
  rw [k2] at k1
  exact ⟨one, back, tk', k1, k3, k4⟩
end
end TR

/-! The drawn ring. -/
namespace TR
open PySem L2
open Lean.Grind (CommRing IsCharP)
open TRM (plusL scaleL leadL Can zrs unitL unitsL invP PR Fld ledI mulV sm libSolL lawSolL lawRedL Shape Good oneRow oneRows oneGoal blk tb Row cv ci powL tF2 tU2 tC2 tC3 tC4 tV4 polyL nextP besL Bases backL rws)
theorem v_andB {c b : FB} {ρ : List SV} {T : Tn} {q1 q2 : Bool} (h1 : c ρ T = some (q1, T)) (h2 : b ρ T = some (q2, T)) : andB c b ρ T = some (q1 && q2, T) := by
  cases q1 with
  | true => exact v_andT h1 h2
  | false => exact v_andF h1
structure Rg (p n : Nat) (t : List (List (List Int))) : Prop where
  ex : ∃ (K : Type) (i : CommRing K) (_ : @IsCharP K _ p), @Fld K i p ∧ @Good K i p n t
  n1 : 1 ≤ n
  n4 : n ≤ 4
theorem rg_of {p n : Nat} {t : List (List (List Int))} (hp : PR p) (n1 : 1 ≤ n) (n4 : n ≤ 4) (h : ∀ (K : Type) [CommRing K] [IsCharP K p], Good K p n t) : Rg p n t := by
  obtain ⟨K, i, c, F⟩ := TRM.fld_fin p hp
  exact ⟨⟨K, i, c, F, @h K i c⟩, n1, n4⟩
theorem e_plain {tk : List D} (ht : Tank tk) : ∃ (p n : Nat) (t : List (List (List Int))) (tk' : List D), F_law_plain_ring tk [.int 4] = some (rgD p n t, tk') ∧ Rg p n t ∧ Tank tk' := by
  obtain ⟨dp, tk1, c1, c2, c3⟩ := e_choice (ds := [.int 2, .int 2, .int 2, .int 3, .int 3, .int 5, .int 7]) (by simp) (by decide) ht
  obtain ⟨p, rfl, hp⟩ : ∃ p : Nat, dp = .int (p : Nat) ∧ PR p := by
    simp only [List.mem_cons, List.not_mem_nil, or_false] at c2
    rcases c2 with h | h | h | h | h | h | h
    · exact ⟨2, h, .inl rfl⟩
    · exact ⟨2, h, .inl rfl⟩
    · exact ⟨2, h, .inl rfl⟩
    · exact ⟨3, h, .inr (.inl rfl)⟩
    · exact ⟨3, h, .inr (.inl rfl)⟩
    · exact ⟨5, h, .inr (.inr (.inl rfl))⟩
    · exact ⟨7, h, .inr (.inr (.inr rfl))⟩
  have hp1 : 1 < p := by rcases hp with h | h | h | h <;> omega
  have hp7 : p ≤ 7 := by rcases hp with h | h | h | h <;> omega
  obtain ⟨w, tk2, w1, w2, w3⟩ := e_drop (n := 8) (by decide) (by decide) c3
  have key : X3 (F_law_plain_ring tk [.int 4]) fun q => ∃ (n : Nat) (t : List (List (List Int))), q.1 = rgD p n t ∧ Rg p n t ∧ Tank q.2 := by
    refine w_runT rfl (w_seq (w_par (v_xV (v_tc rfl (v_a1 (v_lst (v_aC rfl (v_aC rfl (v_aC rfl (v_aC rfl (v_aC rfl (v_aC rfl (v_a1 rfl))))))) (by decide))) c1)) (v_xV (v_tc rfl (v_a1 rfl) w1)) ?_))
    refine w_seq (w_asg (d := .lst [.tup [tupL [1, 0]], .tup [tupL [1, 2, 0]], .tup [tupL [1, 2, 3, 0]], .tup [tupL [1, 0, 3, 2], tupL [2, 3, 0, 1]], .tup [tupL [1, 0, 2], tupL [1, 2, 0]], .tup [tupL [1, 2, 3, 4, 0]]]) (T' := some tk2) (by kernel_rfl) ?_)
    refine w_seq (w_asg (d := .lst [.tup [tupL [1, 0]], .tup [tupL [1, 2, 0]], .tup [tupL [1, 2, 3, 0]], .tup [tupL [1, 0, 3, 2], tupL [2, 3, 0, 1]]]) (T' := some tk2) (by kernel_rfl) ?_)
    refine w_seq (w_if (v_andB (v_tst (v_bO rfl rfl eq_int)) (v_tst (v_bO rfl rfl gt_int))) (fun z => ?_) fun z => w_nx ?_)
    · exact w_ret (v_cO (v_aC rfl (v_aC rfl (v_a1 rfl))) (e_sq0 p)) ⟨_, _, rfl, rg_of hp (by decide) (by decide) fun K _ _ => TRM.good_F2 hp1, w3⟩
    refine w_seq (w_if (v_andB (v_tst (v_bO rfl rfl eq_int)) (v_tst (v_bO rfl rfl gt_int))) (fun z => ?_) fun z => w_nx ?_)
    · exact w_ret (v_cO (v_aC rfl (v_aC rfl (v_a1 rfl))) (e_sq1 p)) ⟨_, _, rfl, rg_of hp (by decide) (by decide) fun K _ _ => TRM.good_U2 hp1, w3⟩
    refine w_seq (w_if (v_andB (v_tst (v_bO rfl rfl eq_int)) (v_tst (v_bO rfl rfl gt_int))) (fun z => ?_) fun z => w_nx ?_)
    · exact absurd (Bool.and_eq_true_iff.mp z).2 (by decide)
    refine w_seq (w_if (v_andB (v_tst (v_bO rfl (v_tup (v_aC rfl (v_a1 rfl)) (by decide)) rfl)) (v_tst (v_bO rfl rfl gt_int))) (fun z => ?_) fun z => w_nx ?_)
    · obtain ⟨d, tk3, d1, d2, d3⟩ := e_choice (ds := [.tup [tupL [1, 0]], .tup [tupL [1, 2, 0]], .tup [tupL [1, 2, 3, 0]], .tup [tupL [1, 0, 3, 2], tupL [2, 3, 0, 1]]]) (by simp) (by decide) w3
      obtain ⟨n, t, e, r⟩ : ∃ n t, F_law_moved [.int (p : Nat), d] = some (rgD p n t) ∧ Rg p n t := by
        simp only [List.mem_cons, List.not_mem_nil, or_false] at d2
        rcases d2 with h | h | h | h
        · exact ⟨2, tC2, by rw [h]; exact e_mv2 p, rg_of hp (by decide) (by decide) fun K _ _ => TRM.good_C2 hp1⟩
        · exact ⟨3, tC3, by rw [h]; exact e_mv3 p, rg_of hp (by decide) (by decide) fun K _ _ => TRM.good_C3 hp1⟩
        · exact ⟨4, tC4, by rw [h]; exact e_mv4 p, rg_of hp (by decide) (by decide) fun K _ _ => TRM.good_C4 hp1⟩
        · exact ⟨4, tV4, by rw [h]; exact e_mvV p, rg_of hp (by decide) (by decide) fun K _ _ => TRM.good_V4 hp1⟩
      exact w_ret (v_cO (v_aC rfl (v_a1 (v_tc rfl (v_a1 rfl) d1))) e) ⟨n, t, rfl, r, d3⟩
    refine w_seq (w_if (v_andB (v_tst (v_bO rfl rfl eq_int)) (v_tst (v_bO rfl rfl gt_int))) (fun z => ?_) fun z => w_nx ?_)
    · exact absurd (Bool.and_eq_true_iff.mp z).2 (by decide)
    obtain ⟨r, tk3, r1, r2, r3⟩ := e_drop (n := 4) (by decide) (by decide) w3
    have one1 : ∀ tk, Tank tk → ∃ d tk', F_law_drop tk [.int (p : Nat)] = some (d, tk') ∧ (∃ x : Int, d = .int x ∧ 0 ≤ x ∧ x < (p : Int)) ∧ Tank tk' := fun tk ht => by
      obtain ⟨r, tk', k1, k2, k3⟩ := e_drop (n := p) (by omega) (by omega) ht
      exact ⟨_, _, k1, ⟨r, rfl, by omega, by omega⟩, k3⟩
    obtain ⟨out, tk4, o1, o2, o3, o4⟩ := lc_draw (ρ := [.tnk, .val (.int 4), .val (.int (p : Nat)), .val (.int (w : Nat)), .val (.lst [.tup [tupL [1, 0]], .tup [tupL [1, 2, 0]], .tup [tupL [1, 2, 3, 0]], .tup [tupL [1, 0, 3, 2], tupL [2, 3, 0, 1]]]), .un, .un, .un, .un]) (T := some tk2) (tk := tk3) (e := tcE 0 F_law_drop (aC (vr 2) aN)) (it := itR1 (aC (bO addD (cD (.int 1)) (tcE 0 F_law_drop (aC (cO minD2 (aC (cD (.int 4)) (aC (vr 1) aN))) aN))) aN)) (tg := gN 8) (vs := [8]) (List.range (1 + r)) (fun (k : Nat) => D.int (k : Nat)) (fun d => ∃ x : Int, d = .int x ∧ 0 ≤ x ∧ x < (p : Int)) (v_itR (v_a1 (v_bO rfl (v_tc rfl (v_a1 (v_cO (v_aC rfl (v_a1 rfl)) rfl)) r1) (add_nat (a := 1)))) (by omega)) r3 (by rw [List.length_range]; omega) fun a _ => ⟨_, rfl, fun tk ht => by
        obtain ⟨d, tk', k1, k2, k3⟩ := one1 tk ht
        exact ⟨d, tk', v_tc rfl (v_a1 rfl) k1, k2, k3⟩⟩
    obtain ⟨l, l1, l2⟩ := ints_of o3
    subst l1
    have hl : (l ++ [1]).length = r + 2 := by
      rw [List.length_map, List.length_range] at o2
      rw [List.length_append, List.length_cons, List.length_nil, o2]
      omega
    have hc : Can p (l ++ [1]) := fun x hx => by
      rcases List.mem_append.mp hx with h | h
      · exact l2 x h
      · rw [List.mem_singleton.mp h]; omega
    have ep := e_poly (p := p) (n := r) (poly := l ++ [1]) (by omega) hp7 (by omega) hl hc
    refine w_seq (w_asg (d := lstI (l ++ [1])) (T' := some tk4) (v_bO (v_frz o1) (v_lst (v_a1 rfl) (by decide)) ((cat_lst (by rw [List.length_map, List.length_cons, List.length_nil]; rw [List.length_append, List.length_cons, List.length_nil] at hl; omega)).trans (by
      show _ = some (D.lst ((l ++ [1]).map D.int))
      rw [List.map_append]
      rfl))) ?_)
    refine w_seq (w_if (v_andB (v_tst (v_bO rfl rfl eq_int)) (v_tst (v_bO (v_cO (v_a1 rfl) (len_lst.trans (by rw [List.length_map, hl]))) rfl le_int))) (fun z => ?_) fun z => w_nx ?_)
    · have hr : r + 2 ≤ 4 := by
        have := of_decide_eq_true (Bool.and_eq_true_iff.mp z).2
        omega
      obtain ⟨d, tk5, d1, ⟨x, rfl, x1, x2⟩, d3⟩ := one1 tk4 o4
      have hc2 : Can p [x, 1] := fun y hy => by
        rcases List.mem_cons.mp hy with h | h
        · rw [h]; exact ⟨x1, x2⟩
        · rw [List.mem_singleton.mp h]; omega
      have e2 := e_poly (p := p) (n := 0) (poly := [x, 1]) (by omega) hp7 (by omega) rfl hc2
      obtain ⟨K, i, c, F⟩ := TRM.fld_fin p hp
      have g1 : Good K p (r + 1) (polyL p (r + 1) (l ++ [1])) := TRM.good_poly hp1 (by omega) hl
      have g2 : Good K p 1 (polyL p 1 [x, 1]) := TRM.good_poly hp1 (by omega) rfl
      have eb := e_beside (p := p) (n := r + 1) (m := 1) (by omega) (by omega) g1.sh g2.sh
      exact w_ret (v_cO (v_aC (v_cO (v_aC rfl (v_a1 rfl)) ep) (v_a1 (v_cO (v_aC rfl (v_a1 (v_lst (v_aC (v_tc rfl (v_a1 rfl) d1) (v_a1 rfl)) (by show 2 ≤ 100000; decide)))) e2))) eb) ⟨_, _, rfl, ⟨⟨K, i, c, F, TRM.good_bes hp1 g1 g2⟩, by omega, by omega⟩, d3⟩
    · exact w_ret (v_cO (v_aC rfl (v_a1 rfl)) ep) ⟨_, _, rfl, rg_of hp (by omega) (by omega) fun K _ _ => TRM.good_poly hp1 (by omega) hl, o4⟩
  obtain ⟨⟨d, tk'⟩, k1, n, t, k2, k3, k4⟩ := key
  dsimp only at k2
  rw [k2] at k1
  exact ⟨p, n, t, tk', k1, k3, k4⟩
end TR

/-! The law on data. -/
namespace TR
open PySem L2
open Lean.Grind (CommRing IsCharP)
open TRM (plusL scaleL leadL Can zrs unitL unitsL invP PR Fld ledI mulV sm libSolL lawSolL lawRedL Shape Good oneRow oneRows oneGoal blk tb Row cv ci powL Bases)
theorem e_drawn {tk : List D} (ht : Tank tk) : ∃ (p n : Nat) (t : List (List (List Int))) (tk' : List D), F_law_drawn_ring tk [.int 4] = some (rgD p n t, tk') ∧ Rg p n t ∧ Tank tk' := by
  obtain ⟨p, n, t, tk1, c1, rg, c3⟩ := e_plain ht
  obtain ⟨r, tk2, r1, r2, r3⟩ := e_drop (n := 2) (by decide) (by decide) c3
  obtain ⟨K, i, c, F, g⟩ := rg.ex
  have n1 := rg.n1
  have n4 := rg.n4
  have key : X3 (F_law_drawn_ring tk [.int 4]) fun q => ∃ (t : List (List (List Int))), q.1 = rgD p n t ∧ Rg p n t ∧ Tank q.2 := by
    refine w_runT rfl (w_seq (w_asg (v_tc rfl (v_a1 rfl) c1) ?_))
    refine w_seq (w_if (v_tst (v_bO (v_tc rfl (v_a1 rfl) r1) rfl eq_int)) (fun z => ?_) fun z => w_nx ?_)
    · exact w_ret rfl ⟨t, rfl, rg, r3⟩
    · obtain ⟨one, back, tk3, s1, s2, s3⟩ := e_shears K F n1 (by omega) r3
      exact w_seq (w_un2 (v_tc rfl (v_aC (v_dg rfl rfl) (v_a1 (v_dg rfl rfl))) s1) (w_ret (v_cO (v_aC rfl (v_aC rfl (v_a1 rfl))) (e_rebased K F n1 (by omega) g.sh s2)) ⟨_, rfl, ⟨⟨K, i, c, F, re_good K F.lt g s2⟩, n1, n4⟩, s3⟩))
  obtain ⟨⟨d, tk'⟩, k1, t', k2, k3, k4⟩ := key
  dsimp only at k2
  rw [k2] at k1
  exact ⟨p, n, t', tk', k1, k3, k4⟩
/-! ### values that are no members -/
theorem e_nt {p n : Nat} {d : D} (h : isT d = some (.bl false)) : F_is_residue_row [.int (p : Nat), .int (n : Nat), d] = some (.bl false) :=
  w_eq (w_runP rfl (w_ret (v_eF (v_uO rfl h)) rfl))
theorem e_wrong_len {p n : Nat} {ds : List D} (h : ds.length ≠ n) : F_is_residue_row [.int (p : Nat), .int (n : Nat), .tup ds] = some (.bl false) :=
  w_eq (w_runP rfl (w_ret (v_eT (v_uO rfl rfl) (v_eF (v_bO (v_cO (v_a1 rfl) len_tup) rfl (by rw [eq_int, beq_false_of_ne (by omega)])))) rfl))
theorem bls_false : ∀ n : Nat, bls? (List.replicate n (D.bl false)) = some (List.replicate n false)
  | 0 => rfl
  | n + 1 => by rw [List.replicate_succ, bls?, bls_false n]; rfl
theorem e_none_in {p n : Nat} {ds : List D} (h1 : 1 ≤ n) (hn : n ≤ 9) (h : ds.length = n) (hd : ∀ d ∈ ds, F_is_within [d, .int 0, .int ((p : Int) - 1)] = some (.bl false)) : F_is_residue_row [.int (p : Nat), .int (n : Nat), .tup ds] = some (.bl false) := by
  have e : allD [.lst (ds.map fun _ => D.bl false)] = some (.bl false) := by
    rw [map_const, h]
    show (bls? _).map _ = _
    rw [bls_false]
    obtain ⟨m, rfl⟩ : ∃ m, n = m + 1 := ⟨n - 1, by omega⟩
    rfl
  have hm : ds = ds.map id := (List.map_id _).symm
  exact w_eq (w_runP rfl (w_ret (v_eT (v_uO rfl rfl) (v_eT (v_bO (v_cO (v_a1 rfl) len_tup) rfl (eq_int.trans (by rw [h, beq_self_eq_true]))) (v_cO (v_a1 (v_frz (lc_map ds id (fun _ => .bl false) (v_itT (T1 := none) (by rw [List.map_id]; rfl)) (by omega) fun x hx => ⟨_, rfl, v_cO (v_aC rfl (v_aC rfl (v_a1 (v_bO rfl rfl sub_int)))) (hd x hx)⟩))) e))) rfl))
theorem e_high {p : Nat} : F_is_within [.int (p : Nat), .int 0, .int ((p : Int) - 1)] = some (.bl false) :=
  w_eq (w_runP rfl (w_ret (v_eT (v_cO (v_a1 rfl) (e_whole _)) (v_chT rfl rfl (by rw [le_int, decide_eq_true (by omega)]) rfl le_int)) (by
    show D.bl _ = D.bl _
    rw [decide_eq_false (by omega)])))
theorem e_bool {b : Bool} {x y : Int} : F_is_within [.bl b, .int x, .int y] = some (.bl false) :=
  w_eq (w_runP rfl (w_ret (v_eF (v_cO (v_a1 rfl) rfl)) rfl))
theorem rep_tup {x : D} {m : Nat} (h : m ≤ 1000) : mulD (.tup [x]) (.int (m : Nat)) = some (.tup (List.replicate m x)) := by
  have e : (List.replicate m [x]).flatten = List.replicate m x := by
    induction m with
    | zero => rfl
    | succ m ih => rw [List.replicate_succ, List.flatten_cons, ih (by omega)]; rfl
  show repT (.tup [x]) (.int (m : Nat)) = _
  unfold repT
  dsimp only
  rw [if_pos ⟨by omega, by omega, by show 1 ≤ 100; decide, by show 1 ≠ 0; decide⟩, Int.toNat_natCast, e]
theorem ne_self (l : List Int) : neD (tupL l) (tupL l) = some (.bl false) := (ne_row l l).trans (by rw [decide_eq_true rfl]; rfl)
section
variable (K : Type) [CommRing K] {p n : Nat} [IsCharP K p] {t : List (List (List Int))} {one : List Int}
theorem e_mem_in (hn : n ≤ 9) {x : D} {b : Bool} (h : F_is_residue_row [.int (p : Nat), .int (n : Nat), x] = some (.bl b)) : F_is_member_in [obD one p n t, x] = some (.bl b) :=
  w_eq (w_runP rfl (w_ret (v_cO (v_aC (v_uO rfl rfl) (v_aC (v_uO rfl rfl) (v_a1 rfl))) h) rfl))
theorem odd_ok (h1 : 1 ≤ n) (hn : n ≤ 9) {a : List Int} (ha : Row p n a) : ∀ d ∈ [.non, lstI a, tupL (a ++ [0]), tupL a.dropLast, .tup (List.replicate n (.int (p : Nat))), .tup (.bl true :: List.replicate (n - 1) (.bl false)), .str "1", .int 1, .tup []], F_Ring_is_unit [obD one p n t, d] = some (.bl false) := by
  intro d hd
  refine e_not_unit (e_mem_in hn ?_)
  simp only [List.mem_cons, List.not_mem_nil, or_false] at hd
  rcases hd with h | h | h | h | h | h | h | h | h
  · rw [h]; exact e_nt rfl
  · rw [h]; exact e_nt rfl
  · rw [h]
    refine e_wrong_len ?_
    rw [List.length_map, List.length_append, ha.len, List.length_cons, List.length_nil]
    omega
  · rw [h]
    refine e_wrong_len ?_
    rw [List.length_map, List.length_dropLast, ha.len]
    omega
  · rw [h]
    refine e_none_in h1 hn List.length_replicate fun d hd => ?_
    rw [(List.mem_replicate.mp hd).2]
    exact e_high
  · rw [h]
    refine e_none_in h1 hn (by rw [List.length_cons, List.length_replicate]; omega) fun d hd => ?_
    rcases List.mem_cons.mp hd with z | z
    · rw [z]; exact e_bool
    · rw [(List.mem_replicate.mp z).2]; exact e_bool
  · rw [h]; exact e_nt rfl
  · rw [h]; exact e_nt rfl
  · rw [h]
    refine e_wrong_len ?_
    rw [List.length_nil]
    omega
end
/-! ### one case -/
theorem e_right {tk : List D} (ht : Tank tk) : ∃ tk', F_law_right tk [] = some (.bl true, tk') := by
  obtain ⟨p, n, t, tk1, c1, rg, c3⟩ := e_drawn ht
  obtain ⟨K, i, c, F, g⟩ := rg.ex
  have n1 := rg.n1
  have n4 := rg.n4
  have hn : n ≤ 9 := by omega
  have hp := F.lt
  have hp7 := F.le
  have s := g.sh
  obtain ⟨one, o⟩ := one_ex K F g
  have made := e_law_made K F n1 hn g o.lib
  obtain ⟨out, tk2, m1, m2, m3, m4⟩ := lc_draw (ρ := [.tnk, .val (rgD p n t), .val (obD one p n t), .val (.int (p : Nat)), .un, .un, .un, .un, .un, .un, .un, .un, .un]) (T := some tk1) (tk := tk1) (e := tcE 0 F_law_member (aC (vr 1) aN)) (it := itR1 (aC (cD (.int 3)) aN)) (tg := gN 11) (vs := [11]) (List.range 3) (fun (k : Nat) => D.int (k : Nat)) (fun d => ∃ a : List Int, d = tupL a ∧ Row p n a) (v_itR (v_a1 rfl) (by decide)) c3 (by rw [List.length_range]; decide) fun a _ => ⟨_, rfl, fun tk ht => by
    obtain ⟨a, tk', k1, k2, k3⟩ := e_member (p := p) (n := n) (t := t) (by omega) hp7 hn ht
    exact ⟨_, _, v_tc rfl (v_a1 rfl) k1, ⟨a, rfl, k2⟩, k3⟩⟩
  obtain ⟨a, b, c', rfl, ha, hb, hc⟩ : ∃ a b c, out = [tupL a, tupL b, tupL c] ∧ Row p n a ∧ Row p n b ∧ Row p n c := by
    match out, m2, m3 with
    | [x, y, z], _, h =>
      obtain ⟨a, rfl, a1⟩ := h x (by simp)
      obtain ⟨b, rfl, b1⟩ := h y (by simp)
      obtain ⟨c, rfl, c1⟩ := h z (by simp)
      exact ⟨a, b, c, rfl, a1, b1, c1⟩
  obtain ⟨dx, tk3, x1, x2, x3⟩ := e_choice (ds := [.int 0, .int (-1), .int 5, .int (-10 ^ 59), .int (10 ^ 59 + 7)]) (by simp) (by decide) m4
  obtain ⟨x, rfl, xb⟩ : ∃ x : Int, dx = .int x ∧ x.natAbs ≤ 10 ^ 59 + 7 := by
    simp only [List.mem_cons, List.not_mem_nil, or_false] at x2
    rcases x2 with h | h | h | h | h
    · exact ⟨_, h, by decide⟩
    · exact ⟨_, h, by decide⟩
    · exact ⟨_, h, by decide⟩
    · exact ⟨_, h, by decide⟩
    · exact ⟨_, h, by decide⟩
  obtain ⟨xr, tk4, xr1, xr2, xr3⟩ := e_drop (n := 9) (by decide) (by decide) x3
  have hx : (x + (xr : Int)).natAbs < 10 ^ 60 := by
    have : (10 : Nat) ^ 59 + 7 + 9 < 10 ^ 60 := by decide
    omega
  obtain ⟨dy, tk5, y1, y2, y3⟩ := e_choice (ds := [.int 0, .int 1, .int 2, .int 3, .int (10 ^ 6)]) (by simp) (by decide) xr3
  obtain ⟨y, rfl, yb⟩ : ∃ y : Nat, dy = .int (y : Nat) ∧ y ≤ 10 ^ 6 := by
    simp only [List.mem_cons, List.not_mem_nil, or_false] at y2
    rcases y2 with h | h | h | h | h
    · exact ⟨0, h, by decide⟩
    · exact ⟨1, h, by decide⟩
    · exact ⟨2, h, by decide⟩
    · exact ⟨3, h, by decide⟩
    · exact ⟨10 ^ 6, h, by decide⟩
  obtain ⟨yr, tk6, yr1, yr2, yr3⟩ := e_drop (n := 5) (by decide) (by decide) y3
  have he : y + yr + 1 < 2 ^ 63 := by
    have : (10 : Nat) ^ 6 + 5 + 1 < 2 ^ 63 := by decide
    omega
  have pab := e_product K F (one := one) hn s ha hb
  have tab := e_law_times K F hn s ha hb
  have aab := e_added K F (t := t) (one := one) hn ha hb
  have lab := e_law_plus (p := p) (a := a) (b := b) (f := 1) (by omega) (by rw [ha.len]; omega) (row_abs hp7 hb)
  have rbc := TRM.plus_row (p := p) (n := n) (f := 1) (by omega) hb hc
  have abc := e_added K F (t := t) (one := one) hn hb hc
  have pbc := e_product K F (one := one) hn s ha rbc
  have rab := mul_row K F (t := t) (n := n) a b
  have rac := mul_row K F (t := t) (n := n) a c'
  have pac := e_product K F (one := one) hn s ha hc
  have adp := e_added K F (t := t) (one := one) hn rab rac
  have ds := TRM.distrib K (p := p) (n := n) (t := t) (by omega) (a := a) hb hc
  have pl := e_product K F (one := one) hn s rab hc
  have pbc2 := e_product K F (one := one) hn s hb hc
  have pr := e_product K F (one := one) hn s ha (mul_row K F (t := t) b c')
  have gr := TRM.grouped (K := K) (p := p) (by omega) g.asc a b c'
  have tm := e_times K F (t := t) (one := one) hn hx ha
  have lz := e_law_plus (p := p) (a := zrs n) (b := a) (f := (x + (xr : Int)) % (p : Int)) (by omega) (by rw [TRM.zrs_len]; omega) (row_abs hp7 ha)
  rw [TRM.times_plus _ ha.len] at lz
  have pw := e_power K F (one := one) hn s o.row ha (e := y + yr) (by omega)
  have gp := e_great_power K F n1 hn s o.law o.row ha (e := y + yr) (by omega)
  have pw0 := e_power K F (one := one) hn s o.row ha (e := 0) (by decide)
  have p0 : powL p n t 63 0 one a = one := by unfold powL; rw [if_pos rfl]
  rw [p0] at pw0
  have pw1 := e_power K F (one := one) hn s o.row ha (e := y + yr + 1) he
  have rpw := (TRM.pow_ok (K := K) (p := p) (by omega) o.row g.asc o.is (show y + yr < 2 ^ 63 by omega) a).1
  have ppw := e_product K F (one := one) hn s rpw ha
  have sc := TRM.pow_succ (K := K) (p := p) (by omega) o.row g.asc o.is he a
  have rz : Row p n (zrs n) := ⟨TRM.zrs_len n, TRM.zrs_can (by omega)⟩
  have un : ∀ m ∈ [a, b, one, zrs n], F_law_units_right [rgD p n t, obD one p n t, tupL m] = some (.bl true) := fun m hm => by
    simp only [List.mem_cons, List.not_mem_nil, or_false] at hm
    rcases hm with h | h | h | h
    · rw [h]; exact e_units_right K F n1 hn g o ha
    · rw [h]; exact e_units_right K F n1 hn g o hb
    · rw [h]; exact e_units_right K F n1 hn g o o.row
    · rw [h]; exact e_units_right K F n1 hn g o rz
  have odd := odd_ok (t := t) (one := one) n1 hn ha
  have key : X3 (F_law_right tk []) fun q => q.1 = .bl true := by
    refine w_runT rfl (w_seq (w_asg (v_tc rfl (v_a1 rfl) c1) ?_))
    refine w_seq (w_par (v_xV (v_cO (v_a1 rfl) made)) (v_xV (v_dg rfl rfl)) ?_)
    refine w_seq (w_ul3 (v_frz m1) ?_)
    refine w_seq (w_ifF (v_orF (v_tst (v_bO (v_mO rfl (v_aC rfl (v_a1 rfl)) pab) (v_cO (v_aC rfl (v_aC rfl (v_a1 rfl))) tab) (ne_self _))) (v_tst (v_bO (v_mO rfl (v_aC rfl (v_a1 rfl)) aab) (v_cO (v_aC rfl (v_aC rfl (v_aC rfl (v_a1 rfl)))) lab) (ne_self _)))) (w_nx ?_))
    refine w_seq (w_ifF (v_tst (v_bO (v_mO rfl (v_aC rfl (v_a1 (v_mO rfl (v_aC rfl (v_a1 rfl)) abc))) pbc) (v_mO rfl (v_aC (v_mO rfl (v_aC rfl (v_a1 rfl)) pab) (v_a1 (v_mO rfl (v_aC rfl (v_a1 rfl)) pac))) adp) (by rw [ds]; exact ne_self _))) (w_nx ?_))
    refine w_seq (w_ifF (v_tst (v_bO (v_mO rfl (v_aC (v_mO rfl (v_aC rfl (v_a1 rfl)) pab) (v_a1 rfl)) pl) (v_mO rfl (v_aC rfl (v_a1 (v_mO rfl (v_aC rfl (v_a1 rfl)) pbc2))) pr) (by rw [gr]; exact ne_self _))) (w_nx ?_))
    refine w_seq (w_asg (v_bO (v_tc rfl (v_a1 (x := .lst [.int 0, .int (-1), .int 5, .int (-10 ^ 59), .int (10 ^ 59 + 7)]) (T1 := some tk2) (by kernel_rfl)) x1) (v_tc rfl (v_a1 rfl) xr1) add_int) ?_)
    refine w_seq (w_ifF (v_tst (v_bO (v_mO rfl (v_aC rfl (v_a1 rfl)) tm) (v_cO (v_aC rfl (v_aC (v_bO (v_tup (v_a1 rfl) (by decide)) (v_dg rfl rfl) (zeros_row (n := n) (by omega))) (v_aC rfl (v_a1 (v_bO rfl rfl (mod_int (by omega))))))) lz) (ne_self _))) (w_nx ?_))
    refine w_seq (w_asg (v_bO (v_tc rfl (v_a1 (x := .lst [.int 0, .int 1, .int 2, .int 3, .int (10 ^ 6)]) (T1 := some tk4) (by kernel_rfl)) y1) (v_tc rfl (v_a1 rfl) yr1) add_nat) ?_)
    refine w_seq (w_ifF (v_orF (v_tst (v_bO (v_mO rfl (v_aC rfl (v_a1 rfl)) pw) (v_cO (v_aC rfl (v_aC rfl (v_a1 rfl))) gp) (ne_self _))) (v_tst (v_bO (v_mO rfl (v_aC rfl (v_a1 rfl)) pw0) (v_mO rfl rfl e_one) (ne_self _)))) (w_nx ?_))
    refine w_seq (w_ifF (v_tst (v_bO (v_mO rfl (v_aC (v_mO rfl (v_aC rfl (v_a1 rfl)) pw) (v_a1 rfl)) ppw) (v_mO rfl (v_aC rfl (v_a1 (v_bO rfl rfl (add_nat (b := 1))))) pw1) (by rw [sc]; exact ne_self _))) (w_nx ?_))
    refine w_seq (w_for [a, b, one, zrs n] tupL (fun k ρ T => T = some tk6 ∧ ∃ s9, ρ = [.tnk, .val (rgD p n t), .val (obD one p n t), .val (.int (p : Nat)), .val (tupL a), .val (tupL b), .val (tupL c'), .val (.int (x + (xr : Int))), .val (.int ((y + yr : Nat) : Int)), s9, .un, .un, .un]) (v_itT (v_tup (v_aC rfl (v_aC rfl (v_aC (v_mO rfl rfl e_one) (v_a1 (v_bO (v_tup (v_a1 rfl) (by decide)) (v_dg rfl rfl) (zeros_row (n := n) (by omega))))))) (by show 4 ≤ 100000; decide))) ⟨rfl, _, rfl⟩ (fun k hk ρ T h' => ?_) fun ρ T h' => ?_)
    · obtain ⟨rfl, s9, rfl⟩ := h'
      have u := un _ (List.getElem_mem hk)
      exact ⟨_, rfl, w_ifF (v_notF (v_tst (v_cO (v_aC rfl (v_aC rfl (v_a1 rfl))) u))) (w_nx ⟨rfl, _, rfl⟩)⟩
    · obtain ⟨rfl, s9, rfl⟩ := h'
      refine w_seq (w_asg (d := .lst [.non, lstI a, tupL (a ++ [0]), tupL a.dropLast, .tup (List.replicate n (.int (p : Nat))), .tup (.bl true :: List.replicate (n - 1) (.bl false)), .str "1", .int 1, .tup []]) (T' := some tk6) (v_lst (v_aC rfl (v_aC (v_cO (v_a1 rfl) rfl) (v_aC (v_bO rfl (v_tup (v_a1 rfl) (by decide)) (cat_rows (b := [0]) (by rw [ha.len, List.length_cons, List.length_nil]; omega))) (v_aC (v_sl rfl rfl (v_oS (v_uO rfl neg_int)) ?_) (v_aC (v_bO (v_tup (v_a1 rfl) (by show 1 ≤ 100000; decide)) (v_dg rfl rfl) (rep_tup (by omega))) (v_aC (v_bO (v_tup (v_a1 rfl) (by decide)) (v_bO (v_tup (v_a1 rfl) (by decide)) (v_bO (v_dg rfl rfl) rfl (z := .int ((n - 1 : Nat) : Int)) ?_) (rep_tup (by omega))) ?_) (v_aC rfl (v_aC rfl (v_a1 (v_tup rfl (by decide))))))))))) (by show 9 ≤ 100000; decide)) ?_)
      · show some (D.tup (cutL _ _ _)) = some (D.tup _)
        rw [cut_neg, List.map_dropLast]
      · rw [sub_int]
        congr 2
        omega
      · show (if [D.bl true].length + (List.replicate (n - 1) (D.bl false)).length ≤ 100000 then some (D.tup ([D.bl true] ++ List.replicate (n - 1) (D.bl false))) else none) = _
        rw [if_pos (by rw [List.length_replicate]; show 1 + (n - 1) ≤ 100000; omega)]
        rfl
      · refine w_ret (v_bO (v_frz (lc_filter [.non, lstI a, tupL (a ++ [0]), tupL a.dropLast, .tup (List.replicate n (.int (p : Nat))), .tup (.bl true :: List.replicate (n - 1) (.bl false)), .str "1", .int 1, .tup []] id id (fun _ => false) (v_itL rfl) (by show 9 ≤ 50000; decide) fun d hd => ⟨_, rfl, v_tst (v_mO rfl (v_a1 rfl) (odd d hd)), fun z => Bool.noConfusion z⟩)) (v_lst rfl (by decide)) ?_) rfl
        exact eq_tab [] []
  obtain ⟨⟨d, tk'⟩, k1, k2⟩ := key
  dsimp only at k2
  rw [k2] at k1
  exact ⟨tk', k1⟩
end TR

/-! The law on data: true at every script. -/
namespace TR
open PySem L2
theorem abs_int {x : Int} : absD [.int x] = some (.int (if x < 0 then -x else x)) := rfl
theorem int_int {x : Int} : intD [.int x] = some (.int x) := rfl
theorem e_tank {ns : List Int} {k : Nat} (hk : k < 2) : ∃ tk, F_law_tank [.scr ns, .int (k : Nat)] = some tk ∧ Tank tk := by
  have cell : ∃ x : Int, ifE (tst (bO ltD (vr 1) (cO lenD (aC (vr 0) aN)))) (cO intD (aC (bO ixD (vr 0) (vr 1)) aN)) (bO addD (bO mulD (cD (.int 277)) (vr 1)) (cD (.int 955))) [.val (.scr ns), .val (.int (k : Nat)), .un, .un] none = some (.int x, none) := by
    by_cases z : k < ns.length
    · refine ⟨ns[k], v_ifT (v_tst (v_bO rfl (v_cO (v_a1 rfl) rfl) (by rw [lt_int, decide_eq_true (by omega)]))) (v_cO (v_a1 (v_bO (z := .int ns[k]) rfl rfl ?_)) rfl)⟩
      show (atI ns (k : Int)).map D.int = _
      unfold atI
      rw [ixN_nat z, Option.bind_some, List.getElem?_eq_getElem z]
      rfl
    · exact ⟨_, v_ifF (v_tst (v_bO rfl (v_cO (v_a1 rfl) rfl) (by rw [lt_int, decide_eq_false (by omega)]))) (v_bO (v_bO rfl rfl (mul_intL (by decide))) rfl add_int)⟩
  obtain ⟨x, hx⟩ := cell
  have key : X3 (F_law_tank [.scr ns, .int (k : Nat)]) Tank := by
    refine w_runF rfl (w_seq (w_asg hx ?_))
    refine w_seq (w_asg (v_bO (v_cO (v_a1 (v_cO (v_a1 rfl) abs_int)) int_int) (v_bO (y := .int 7) (z := .int ((10 ^ 59) ^ 7)) (v_bO (z := .int (10 ^ 59)) rfl rfl (by kernel_rfl)) rfl (by kernel_rfl)) (mod_pos (by decide))) ?_)
    generalize (if x < 0 then -x else x) % (10 ^ 59) ^ 7 = g
    exact w_retF (v_len (v_aC (v_cO (v_aC rfl (v_a1 (v_bO rfl (v_bO (z := .int (10 ^ 15)) rfl rfl (by kernel_rfl)) sub_int))) rfl) (v_aC (v_bO (v_bO (v_bO (v_bO (v_bO (v_cO (v_a1 rfl) int_int) rfl (mod_pos (by decide))) rfl (mul_int (by decide))) (v_bO rfl rfl (mul_intL (by decide))) add_int) (v_bO rfl (v_cO (v_a1 (v_bO rfl rfl lt_int)) int_bl) (mul_intL (by decide))) add_int) rfl add_int) (v_a1 rfl))) (by show 3 ≤ 100000; decide)) ⟨_, _, _, rfl⟩
  exact key
theorem w_two {ρ : List SV} {i : Nat} {f : FL} {F : List D → List D → Option (D × List D)} {tk tk' : List D} {R : Out → Prop} (h1 : f ρ none = some (tk, none)) (h2 : F tk [] = some (.bl true, tk')) (h3 : i < ρ.length) (k : R (.nx (ρ.set i .un) none)) : X3 (sTwo i f F ρ none) R := by
  unfold sTwo
  rw [h1, Option.bind_some, h2, Option.bind_some]
  dsimp only
  rw [if_pos h3]
  exact ⟨_, rfl, k⟩
theorem law_true (ns : List Int) : F_law [.scr ns] = some (.bl true) := by
  obtain ⟨m, hm, hb⟩ : ∃ m : Nat, cO maxD2 (aC (cD (.int 1)) (aC (cO minD2 (aC (cD (.int 2)) (aC (cO lenD (aC (vr 0) aN)) aN))) aN)) [.val (.scr ns), .un, .un, .un, .un] none = some (.int (m : Nat), none) ∧ m ≤ 2 := by
    by_cases z : ns.length ≤ 1
    · refine ⟨1, v_cO (v_aC rfl (v_a1 (v_cO (v_aC rfl (v_a1 (v_cO (v_a1 rfl) rfl))) rfl))) ?_, by decide⟩
      show some (D.int _) = some (D.int _)
      congr 2
      split <;> split at * <;> omega
    · refine ⟨2, v_cO (v_aC rfl (v_a1 (v_cO (v_aC rfl (v_a1 (v_cO (v_a1 rfl) rfl))) rfl))) ?_, by decide⟩
      show some (D.int _) = some (D.int _)
      congr 2
      split <;> split at * <;> omega
  refine w_eq (w_runP rfl (w_seq (w_for (List.range m) (fun (k : Nat) => D.int (k : Nat)) (fun _ ρ T => T = none ∧ ∃ s1, ρ = [.val (.scr ns), s1, .un, .un, .un]) (v_itR (v_a1 hm) (by omega)) ⟨rfl, _, rfl⟩ (fun k hk ρ T h' => ?_) fun ρ T h' => ?_)))
  · obtain ⟨rfl, s1, rfl⟩ := h'
    rw [List.length_range] at hk
    rw [List.getElem_range]
    obtain ⟨tk, t1, t2⟩ := e_tank (ns := ns) (k := k) (by omega)
    obtain ⟨tk', r1⟩ := e_right t2
    exact ⟨_, rfl, w_two (v_cF (v_aC rfl (v_a1 rfl)) t1) r1 (by show 2 < 5; decide) ⟨rfl, _, rfl⟩⟩
  · obtain ⟨rfl, s1, rfl⟩ := h'
    refine ⟨.ret (.bl true) none, ?_, rfl⟩
    kernel_rfl
end TR

/-! An own exception over ArithmeticError whose __init__ says super().__init__('..'); self.reason = reason: made, raised, caught. -/
namespace TR
open PySem PySem.Spec PyProof.Rows L2
open PySem.W (excObj excTup kxs_mw KxsAt dictOf putL putN Frag)
def supArg : List Stmt → Expr
  | .Expr (.Call _ [e] _ _) _ :: _ => e
  | _ => .Constant .none 0 ⟨0, 0, 0, 0⟩
/-- what the written part says of the class at C, its __init__ at fI -/
structure RfC (P : Program) (K : Frag) (C fI : Addr) : Prop where
  fn : ∃ (cc cda D : Addr) (oc : Value) (od : Option Addr) (osl : Array (Option Value)) (kV doc pm : Value) (an : Option Addr) (ct : Value),
    K.lookup fI = some ⟨oc, od, .func (PySem.W.ksFn "__init__" "Refused.__init__" (defArgs stR) (defBody stR) (defScope stR) .none kV doc pm an (.ref cda) ct cc), osl⟩ ∧ PySem.W.codeIn K (.ref cda) "Refused.__init__" = true ∧
    (∃ ccl cdd vs ccs file tf, K.lookup cda = some ⟨ccl, cdd, .fields vs, ccs⟩ ∧ vs[2]? = some (.str file tf) ∧ ((P.main.file : Str) == file) = true) ∧
    (∃ cl cld csl, K.lookup cc = some ⟨cl, cld, .cell (some (.ref C)), csl⟩)
  cls : ∃ cd, PySem.W.clsIn K C = some cd
  sub : PySem.W.mroIn K C (.ref C) = some true
  ini : PySem.W.findIn K (.ref C) "__init__" = some (some (.ref fI))
  isf : PySem.W.isFn K (.ref fI) = true
  exi : PySem.W.excInitIn K C bmA "ArithmeticError.__new__" = true
  sup : PySem.W.nsIn K mainGlobals "super" = some none
  par : PySem.W.ks_superIn K C C "__init__" = some (some (.builtin "ArithmeticError.__init__"))
  subA : PySem.W.subIn K (.ref C) (.type "ArithmeticError") = some true
  thi : PySem.W.nsIn K cStatics "thirdparty.any" = some none
  seta : PySem.W.findIn K (.ref C) "__setattr__" = some (some (.builtin "object.__setattr__"))
  ovr : PySem.W.excOver K C bmA = true
  tak : PySem.W.takerIn K C "reason" = some none
  hdc : PySem.W.hasDictIn K C = true
  top : (P.main.scope.names.lookup ("super" : Str)).isSome = false
  exB : PySem.W.subIn K (.ref C) (.type "BaseException") = some true
  tyC : PySem.W.typeIn K (.ref C) = some (.type "type")
  kpC : PySem.W.keepIn K (.ref C) = true
section
variable {prog : Program} {w : World} {A : Around} {E : Value → Shared → Prop} {s : Shared} {h₀ : Heap} {L : Addr} {m mg mb : Str → Option Value} {news : List (Addr × Obj)} {K : Frag} {x C f cc cda : Addr} {ox : Obj} {odx : Option Obj}
open PySem.W in
/-- super() within the __init__ -/
theorem sup_node {body : List Stmt} {q : Str} {scope : Scope} {p0 p1 : Pos} {attr : Str} {whole : Sem Value} {fd : FuncData} {ar : Arg} {vs : Array Value} {file : Str} {tf : Tok} {oc ccl cl : Value} {od cdd cld : Option Addr} {osl ccs csl : Array (Option Value)} {cdD : ClassData} {Q : Value → Shared → Prop}
    (F : Fr h₀ L s.heap m) (X₀ : K.In h₀) (N : News h₀ L s.heap news) (Tg : h₀.Ns mainGlobals mg) (Tb : h₀.Ns builtinsNs mb) (Tbb : ∀ x : Str, x ≠ "__name__" → mb x = bootBuiltins x)
    (hf : K.lookup f = some ⟨oc, od, .func fd, osl⟩) (hp : (fd.params.posonlyargs ++ fd.params.args).head? = some ar) (hv : m ar.arg = some (.ref x)) (I : InstAt s.heap x ox C odx)
    (hcode : K.lookup cda = some ⟨ccl, cdd, .fields vs, ccs⟩) (hvs : vs[2]? = some (.str file tf)) (hfile : ((prog.main.file : Str) == file) = true)
    (hcell : K.lookup cc = some ⟨cl, cld, .cell (some (.ref C)), csl⟩) (hD : clsIn K C = some cdD) (hsub : mroIn K C (.ref C) = some true) (hsuper : nsIn K mainGlobals "super" = some none)
    (hat : (attr == ("__class__" : Str)) = false) (hks : scope.names.lookup ("super" : Str) = some .globalImplicit) (hkc : scope.names.lookup ("__class__" : Str) = some .free) (hka : scope.names.lookup ar.arg = some .local) (hk : scope.kind = .function)
    (htop : (prog.main.scope.names.lookup ("super" : Str)).isSome = false) (hboot : bootBuiltins "super" = some (.type "super"))
    (h : ∀ so h', Fr h₀ L h' m → News h₀ L h' ((so, ks_superObj C x C) :: news) → (∀ p ∈ news, p.1 < so) → Q (.ref so) { s with heap := h' }) :
    _root_.PySem.wpAt (model prog w) A (.func body (ksEnv q scope L f (.ref cda) cc)) (attributeBase (.Call (.Name "super" p0) [] [] p1) attr (ksEnv q scope L f (.ref cda) cc) whole) Q E s := by
  have X : K.In s.heap := X₀.keeps F.keep
  obtain ⟨hh, g, d, t, os⟩ := s
  obtain ⟨oD, hD1, hD2⟩ : ∃ oD, hh.get? C = some oD ∧ oD.data = .cls cdD := by
    unfold clsIn at hD
    split at hD
    · rename_i c d cd' sl ho
      cases hD
      exact ⟨_, X _ _ ho, rfl⟩
    · cases hD
  refine ks_wpAt_super_base (env := ksEnv q scope L f (.ref cda) cc) hks hkc hat rfl (X _ _ hf) rfl hp rfl (X _ _ hcode) rfl hvs hfile htop ?_
  refine ks_loadName_global hk hks (Calls.loadGlobal_builtin (env := ksEnv q scope L f (.ref cda) cc) (Tg.keeps F.keep) (mg_none_of X₀ Tg hsuper) (Tb.keeps F.keep) ((Tbb _ (by decide +kernel)).trans hboot) ⟨rfl, ?_⟩)
  refine wpAny_loadName_free hk hkc rfl ⟨_, X _ _ hcell, rfl⟩ ?_
  refine wpAny_loadName_local hk hka F.ns hv ?_
  refine ks_wpAny_isType_cls hD1 hD2 ⟨rfl, ?_⟩
  refine ks_wpAny_call_super hD1 hD2 I.at_ I.cls (fun c e => ?_) (looks_mroIn X hsub) (fun h' e k => ?_)
  · have := I.no
    unfold notCls at this
    rw [e] at this
    exact Bool.noConfusion this
  · obtain ⟨F', N', l'⟩ := ks_newsPush (s := ⟨hh, g, d, t, os⟩) F N rfl e k
    exact h _ _ F' N' l'
end
section
variable {prog : Program} {w : World} {A : Around} {s : Shared} {mg mb : Str → Option Value} {K : Frag} {C fI e t0 : Addr} {u : Value} {R : Result → Shared → Prop}
open PySem.W in
/-- the __init__ runs on the object at e: it gets its args anew and a dict -/
theorem init_run (T : RfC prog K C fI)
    (hbind : ∀ (kV doc pm : Value) (an : Option Addr) (cda cc : Addr) (ct : Value), BindsTo s (ksFn "__init__" "Refused.__init__" (defArgs stR) (defBody stR) (defScope stR) .none kV doc pm an (.ref cda) ct cc) ⟨[.ref e, u], []⟩ [("self", .ref e), ("reason", u)])
    (hroom : A.depth < recursionLimit) (X₀ : K.In (hideAll s.heap [e])) (Tg : s.heap.Ns mainGlobals mg) (Tb : s.heap.Ns builtinsNs mb) (Tbb : ∀ x : Str, x ≠ "__name__" → mb x = bootBuiltins x) (lim : s.heap.NoLimit)
    (ne : mainGlobals ≠ e ∧ builtinsNs ≠ e) (he : s.heap.get? e = some (excObj C t0 none .none))
    (h : ∀ h' t' dx es n tk tk2, (∀ b o, b ≠ e → s.heap.get? b = some o → h'.get? b = some o) → h'.get? e = some (excObj C t' (some dx) .none) → s.heap.get? dx = none → e < dx → h'.get? dx = some (dictOf es n) → es = [⟨PyData.keyHash w.params "reason", .str "reason" tk2, u⟩] → R (.ok (.ret .none)) { s with heap := h', toks := tk }) :
    codeAny (model prog w) A (.call (.ref fI) ⟨[.ref e, u], []⟩) R s := by
  obtain ⟨cc, cda, D, oc, od, osl, kV, doc, pm, an, ct, lk, hcd, ⟨ccl, cdd, vs, ccs, file, tf, lkc, hvs, hfile⟩, ⟨cl, cld, csl, lkcc⟩⟩ := T.fn
  obtain ⟨cd, hcl⟩ := T.cls
  have kk : ∀ b o, (hideAll s.heap [e]).get? b = some o → s.heap.get? b = some o := fun b o z => of_hideAll _ z
  have X1 : K.In s.heap := X₀.keeps kk
  refine ks_codeAny_call_defAt (fd := ksFn "__init__" "Refused.__init__" (defArgs stR) (defBody stR) (defScope stR) .none kV doc pm an (.ref cda) ct cc) (body := defBody stR) (binds := [("self", .ref e), ("reason", u)]) hroom (X1 _ _ lk) rfl lim (codeRec_of X1 hcd) rfl (hbind kV doc pm an cda cc ct) (show ∀ y ∈ (defScope stR).names, y.2 ≠ NameKind.cell from by decide +kernel) (fun y hy => ?_) (fun h₁ hns hk₁ => ?_) rfl rfl rfl
  · rcases List.mem_cons.mp hy with z | z
    · rw [z]; rfl
    · rw [List.mem_singleton.mp z]; rfl
  have F1 : Fr (hideAll s.heap [e]) s.heap.objs.size h₁ (fun y => ([("self", .ref e), ("reason", u)] : List (Str × Value)).reverse.lookup y) := ⟨hns, fun b o z => hk₁ b o (kk b o z), Nat.le_of_eq (hideAll_size _ _)⟩
  have N1 : News (hideAll s.heap [e]) s.heap.objs.size h₁ [(e, excObj C t0 none .none)] := fun p hp => by
    rw [List.mem_singleton.mp hp]
    exact ⟨hk₁ _ _ he, Nat.ne_of_lt (Heap.lt_size he), hideAll_none _ List.mem_cons_self⟩
  have keepH : ∀ b o, b ≠ e → s.heap.get? b = some o → (hideAll s.heap [e]).get? b = some o := fun b o nb z => hideAll_get _ z fun hm => nb (List.mem_singleton.mp hm)
  have Tg' : (hideAll s.heap [e]).Ns mainGlobals mg := Tg.at' fun o z => keepH _ _ ne.1 z
  have Tb' : (hideAll s.heap [e]).Ns builtinsNs mb := Tb.at' fun o z => keepH _ _ ne.2 z
  refine ks_wpAt_execs_cons (ks_wpAt_Expr_any (ks_wpAt_MethodCall (sup_node F1 X₀ N1 Tg' Tb' Tbb lk rfl (show _ = some (Value.ref e) from rfl) (InstAt.of_exc0 N1 List.mem_cons_self) lkc hvs hfile lkcc hcl T.sub T.sup (by decide +kernel) rfl rfl rfl rfl T.top (by decide +kernel) fun so h2 F2 N2 lt2 => ?_)))
  refine kxs_method kxs_ArithmeticError F2 X₀ N2 List.mem_cons_self (InstAt.of_exc0 N2 (List.mem_cons_of_mem _ List.mem_cons_self)) T.thi T.par T.subA (by decide +kernel) fun q h3 F3 N3 lt3 => ?_
  have nso : so ≠ e := fun z => absurd (lt2 _ List.mem_cons_self) (by rw [z]; exact Nat.lt_irrefl _)
  have nq : q ≠ e := fun z => absurd (lt3 _ (List.mem_cons_of_mem _ List.mem_cons_self)) (by rw [z]; exact Nat.lt_irrefl _)
  refine kxs_callWith1 (i := "ArithmeticError.__init__") (x := e) N3 List.mem_cons_self ?_
  obtain ⟨cx, ck, cp, hc⟩ : ∃ x k pos, supArg (defBody stR) = .Constant (.str x) k pos := ⟨_, _, _, rfl⟩
  show wpAny _ _ (spliced [(false, eval (supArg (defBody stR)) _)]) _ _ _
  rw [hc]
  refine Calls.spliced_cons (Calls.Constant_str (k := ck) (pos := cp) (Calls.spliced_nil ⟨kxs_at N3 List.mem_cons_self, ?_⟩))
  refine kxs_call (t := t0) (dv := none) (c2 := .none) (s := { s with heap := h3, toks := _ }) F3 X₀ N3 F.excBase_ArithmeticError T.exi List.mem_cons_self (.tail nq (.tail nso (.head fun _ h => nomatch h))) (show 1 ≤ sizeLine by decide) fun t' h4 F4 N4 lt4 => ?_
  refine wpAt_of_wpAny (wpAny_execs_cons (plainObj_wpAny_Assign_Attribute (wpAny_Name (wpAny_loadName_local rfl rfl F4.ns (show _ = some u from rfl) (wpAny_Name (wpAny_loadName_local rfl rfl F4.ns (show _ = some (.ref e) from rfl) ?_) (by decide))) (by decide)) rfl))
  have nt' : t' ≠ e := fun z => absurd (lt4 _ (List.mem_cons_of_mem _ (List.mem_cons_of_mem _ List.mem_cons_self))) (by rw [z]; exact Nat.lt_irrefl _)
  refine set_exc0 F.store_ArithmeticError F4 X₀ N4 (List.mem_cons_of_mem _ (List.mem_cons_of_mem _ (List.mem_cons_of_mem _ List.mem_cons_self))) T.seta T.ovr T.tak T.hdc rfl (.tail nt' (.tail nq (.tail nso (.head fun _ h => nomatch h)))) (show 1 ≤ 1000 by decide) fun dx h5 F5 N5 lt5 => ?_
  refine wpAny_execs_nil ?_
  have me := N5 (e, excObj C t' (some dx) .none) (by simp)
  have md := N5 _ List.mem_cons_self
  refine h h5 t' dx _ _ _ _ (fun b o nb z => F5.keep b o (keepH b o nb z)) me.1 ?_ (lt5 _ (List.mem_cons_of_mem _ (List.mem_cons_of_mem _ (List.mem_cons_of_mem _ List.mem_cons_self)))) md.1 rfl
  have nd : dx ≠ e := fun z => absurd (lt5 _ (List.mem_cons_of_mem _ (List.mem_cons_of_mem _ (List.mem_cons_of_mem _ List.mem_cons_self)))) (by rw [z]; exact Nat.lt_irrefl _)
  cases q9 : s.heap.get? dx with
  | none => rfl
  | some o => exact absurd (keepH dx o nd q9) (by rw [md.2.2]; exact (fun z => nomatch z))
end
theorem ns1_one {h : Heap} {dx : Addr} {n : Nat} {hsh : Int} {tk : Tok} {u : Value} {w : World} {x : Str} (e : h.get? dx = some (dictOf [⟨PyData.keyHash w.params x, .str x tk, u⟩] n)) : h.Ns1 dx (fun y => if y = x then some u else none) := by
  refine ⟨_, _, _, e, rfl, fun d hd => ?_, ?_, fun name => ?_⟩
  · have : d = ⟨PyData.keyHash w.params x, .str x tk, u⟩ := by simpa using hd
    rw [this]
    exact ⟨_, _, rfl⟩
  · simp [UniqKeys]
  · unfold nsFind findBy
    rw [List.find?_toArray]
    by_cases hx : name = x
    · subst hx
      simp [Value.isStr]
    · simp [Value.isStr, hx, Ne.symm hx, fun z : x = name => hx z.symm]
section
variable {X : Cx} {C fI : Addr} {e : Expr} {ta : TE} {p pos : Pos} {k : Nat}
/-- Refused(e) -/
def tMkR (C : Addr) (ta : TE) : L2.St → Hp → XK → Prop := fun σ H Q => ta σ H fun v H1 => ∀ dx, H1 dx = none → Q (.ref C) (some dx) (L2.upd H1 dx (.xd [("reason", v)]))
theorem pmk_ref (T : RfC X.prog X.K C fI) (hr : Room (k + 1) X.A) (hg : Gl X "Refused") (hm : X.mg "Refused" = some (.ref C)) (ha : PE X e ta) (he : starEach [e] X.env = (false, eval e X.env) :: starEach [] X.env := by rfl) :
    PMk X (.Call (.Name "Refused" p) [e] [] pos) (tMkR C ta) := by
  intro pins s σ H Q I h
  refine wpAny_Call_Name_kw (ld_glob I hg hm ?_ (by decide))
  refine PySem.W.callWith_K (h₀ := X.base) I.ok.mod.kin T.kpC (one_arg ha I h (fun u s1 v H1 I1 r1 q => ⟨I1.kIn, ?_⟩) he) he rfl
  obtain ⟨nm, N', qn, bs, bm, hdct, sn, sub, ab, col, dd, k0, k1, k2, k3, k5, hC, hT⟩ := PySem.W.excInit_of I1.kIn T.exi
  obtain ⟨oI, hoI, hcI⟩ : ∃ oI, s1.heap.get? fI = some oI ∧ oI.cls = .type "function" := by
    obtain ⟨o, ho, hc⟩ := Option.map_eq_some_iff.mp (show (X.K.lookup fI).map (·.cls) = some (.type "function") from beq_iff_eq.mp T.isf)
    exact ⟨o, I1.kIn _ _ ho, hc⟩
  have blt := I1.mod.blt
  obtain ⟨mb, Tb, Tbb⟩ := blt
  obtain ⟨hp, g, dr, tk, os⟩ := s1
  have kk : ∀ b o, hp.get? b = some o → ((hp.push (PySem.W.kdv_tup [u])).push (PySem.PX.excO C hp.objs.size)).get? b = some o := fun b o z => Heap.get?_push_of_some _ (Heap.get?_push_of_some _ z)
  have sz1 : (hp.push (PySem.W.kdv_tup [u])).objs.size = hp.objs.size + 1 := Heap.size_push ..
  have hget : ((hp.push (PySem.W.kdv_tup [u])).push (PySem.PX.excO C hp.objs.size)).get? (hp.objs.size + 1) = some (PySem.PX.excO C hp.objs.size) := by
    have := Heap.get?_push_size (hp.push (PySem.W.kdv_tup [u])) (o := PySem.PX.excO C hp.objs.size) rfl
    rw [sz1] at this
    exact this
  have ne : ∀ b o, hp.get? b = some o → b ≠ hp.objs.size + 1 := fun b o z => Nat.ne_of_lt (Nat.lt_succ_of_lt (Heap.lt_size z))
  refine wpAny_call (PySem.PX.call_own F.excBase_ArithmeticError hT hC (PySem.W.looks_findIn I1.kIn T.ini) (fun self => PySem.W.exc_bind hoI hcI self) (show 1 ≤ sizeLine by decide) ?_)
  have Tg0 : hp.Ns mainGlobals X.mg := I1.mod.glob.keeps I1.bk
  have Tb0 : hp.Ns builtinsNs mb := Tb.keeps I1.bk
  refine init_run T (t0 := hp.objs.size) (mg := X.mg) (mb := mb) (fun kV doc pm an cda cc ct => .of_eq rfl) (hr.make C [u] []).depth (fun b o z => ?_) (Tg0.keeps kk) (Tb0.keeps kk) Tbb (I1.nolimit.keeps kk) ⟨Nat.ne_of_lt (Nat.lt_succ_of_lt Tg0.lt), Nat.ne_of_lt (Nat.lt_succ_of_lt Tb0.lt)⟩ hget fun h' t' dx es n tk2 tk3 k1 e1 dn dlt e2 e3 => ?_
  · have z1 := I1.kIn b o z
    exact PySem.W.hideAll_get _ (kk b o z1) fun hm => ne b o z1 (List.mem_singleton.mp hm)
  · subst e3
    refine ⟨rfl, ?_⟩
    obtain ⟨G, g1, g2⟩ := restrict h' fun b => decide (b ≠ hp.objs.size + 1)
    have gk : ∀ b, b ≠ hp.objs.size + 1 → G.get? b = h'.get? b := fun b hb => g1 b (decide_eq_true hb)
    have ge : G.get? (hp.objs.size + 1) = none := g2 _ (by simp)
    have nde : dx ≠ hp.objs.size + 1 := Ne.symm (Nat.ne_of_lt dlt)
    have ns := ns1_one (hsh := 0) (w := X.w) e2
    have J : Inv X pins σ (L2.upd H1 dx (.xd [("reason", v)])) ⟨G, g, dr, tk2, os⟩ := I1.laid (t' := tk2) (a := dx) (o := .xd [("reason", v)]) (h' := G) (fun b o z => by rw [gk b (ne b o z)]; exact k1 b o (ne b o z) (kk b o z)) (Nat.le_of_lt (Nat.lt_of_succ_lt dlt)) (show ObjOk X.prog X.w _ _ _ (.xd [("reason", v)]) from ⟨_, ns.at fun o z => (gk dx nde).trans z, fun f => by
      by_cases hf : f = "reason"
      · subst hf
        rw [if_pos rfl]
        exact r1
      · rw [if_neg hf, List.lookup_cons]
        have : (f == ("reason" : Str)) = false := by simpa using hf
        rw [this]
        exact True.intro⟩)
    have H1n : H1 (hp.objs.size + 1) = none := I1.hok.fresh (Nat.le_succ _)
    exact ⟨hp.objs.size + 1, _, _, ⟨G, g, dr, tk2, os⟩, _, .ref C, some dx, rfl, J, fun b o z => by
      by_cases hb : b = hp.objs.size + 1
      · rw [hb, ge] at z; cases z
      · exact (gk b hb).symm.trans z, ge, e1, ⟨rfl, rfl⟩, rfl, rfl, by rw [upd_ne (Ne.symm nde)]; exact H1n, rfl, I1.bare, raises_own T.exB T.tyC, q dx (I1.hok.fresh (Nat.le_of_lt (Nat.lt_of_succ_lt dlt)))⟩
end
end TR

/-! Ring.inverse with its exception; _law_told_inverse. -/
namespace TR
open PySem PySem.Spec PyProof.Rows L2
def F_inv : List D → Option (Option D)
  | [r, m] => (F_require_member [r, m]).bind fun _ => (F_undone_member [r, m]).map fun d => match d with
    | .non => none
    | d => some d
  | _ => none
def spR (K : PySem.W.Frag) (C : Nat → Addr) : Sp := fun vs H Q E => ∃ G ds r, Ex G H ∧ Tb C G H ∧ Reps K C G vs ds ∧ F_inv ds = some r ∧
  (∀ d, r = some d → ∀ v G' H', Step none G H G' H' → Rep K C G' v d → Q v H') ∧
  (r = none → ∀ G' H' dx v, Step none G H G' H' → H' dx = none → Rep K C G' v (.tup [.str "no unit"]) → E (.ref (C 2)) (some dx) (L2.upd H' dx (.xd [("reason", v)])))
variable {P : Program} {w : World} {K : PySem.W.Frag} {mg : Str → Option Value} {base : Heap} {C : Nat → Addr} {fI : Addr}
theorem F_inv_len {ds : List D} {r : Option D} (h : F_inv ds = some r) : ∃ a b, ds = [a, b] := by
  unfold F_inv at h
  split at h
  · exact ⟨_, _, rfl⟩
  · cases h
def tInvX (K : PySem.W.Frag) (C : Nat → Addr) (E : XK) : TS :=
  tSeq (tDrop (tCall (spP K C F_require_member) [] E0 (tCons (tVar 0) (tCons (tVar 1) tNil)))) (tSeq (tAsg (tCall (spP K C F_undone_member) [] E0 (tCons (tVar 0) (tCons (tVar 1) tNil))) (gName 2))
    (tSeq (tIfS (tTest (tOp rIsN (tVar 2) (tC .non))) (fun _ σ H => tMkR (C 2) (tTup (tCons (tC (.str "no unit")) tNil)) σ H fun cls d H' => E cls d H') tNext) (tRet (tVar 2))))
theorem inv_run {vs : List V} {H : Hp} {Q : VK} {E : XK} (h : spR K C vs H Q E) : tInvX K C E { nx := fun _ H' => Q .non H', rt := Q } (L2.start N_Ring_inverse vs) H := by
  obtain ⟨G, ds, r, e, tb, rp, hF, q1, q2⟩ := h
  obtain ⟨d1, d2, rfl⟩ := F_inv_len hF
  have ok := ok_start (N := N_Ring_inverse) e tb rp (by rw [rp.length]; exact (show 2 ≤ 3 by decide))
  unfold F_inv at hF
  obtain ⟨d0, e1, hF⟩ := Option.bind_eq_some_iff.mp hF
  obtain ⟨d, e2, hF⟩ := Option.map_eq_some_iff.mp hF
  have c1 : cO F_require_member (aC (vr 0) (aC (vr 1) aN)) (startE N_Ring_inverse.length [d1, d2]) none = some (d0, none) := by
    show (F_require_member [d1, d2]).map (fun z => (z, (none : Tn))) = _
    rw [e1]; rfl
  have c2 : cO F_undone_member (aC (vr 0) (aC (vr 1) aN)) (startE N_Ring_inverse.length [d1, d2]) none = some (d, none) := by
    show (F_undone_member [d1, d2]).map (fun z => (z, (none : Tn))) = _
    rw [e2]; rfl
  refine (sd_callP (F := F_require_member) (sa_cons sd_var (sa_cons sd_var sa_nil))) _ _ none none G H d0 none ok c1 _ fun v0 G1 H1 s1 t1 r1 => ?_
  have ok1 := ok.step s1 t1
  refine (sd_callP (F := F_undone_member) (sa_cons sd_var (sa_cons sd_var sa_nil))) _ _ none none G1 H1 d none ok1 c2 _ fun v G2 H2 s2 t2 r2 => ?_
  have ok2 := ok1.step s2 t2
  have s12 := s1.trans s2
  have g2 : ((L2.start N_Ring_inverse vs).set 2 (some v))[2]? = some (some v) := by
    rw [List.getElem?_set_self]
    rw [← ok.len, startE_len (show 2 ≤ 3 by decide)]
    exact (show 2 < 3 by decide)
  refine ⟨v, g2, rfl, decide (v = .non), rfl, ?_⟩
  by_cases hv : v = .non
  · have hd : d = .non := by subst hv; cases r2; rfl
    subst hd
    have hr : r = none := hF.symm
    dsimp only
    rw [if_pos (decide_eq_true hv)]
    refine ⟨(show 1 ≤ sizeLine by decide), fun p hp dx hdx => ?_⟩
    have s3 : Step none G2 H2 (upd G2 p (.tup [.str "no unit"])) (upd H2 p (.tup [.str "no unit"])) := .new s2.gh hp
    exact q2 hr _ _ dx _ (s12.trans s3) hdx (.tup (.inl (.of upd_same)) (.cons (.str _) .nil))
  · have hd : d ≠ .non := fun z => by subst z; cases r2; exact hv rfl
    have hb : ¬ (decide (v = .non) = true) := by rw [decide_eq_false hv]; exact Bool.false_ne_true
    dsimp only
    rw [if_neg hb]
    have hr : r = some d := by
      rw [← hF]
      cases d <;> first | rfl | exact absurd rfl hd
    exact ⟨v, g2, q1 d hr v _ _ s12 r2⟩
theorem k_inverse_x (h : Tops P w K mg base C) (T : RfC P K (C 2) fI) (hR : mg "Refused" = some (.ref (C 2))) : ∃ g, Meth K (C 0) "inverse" g ∧ FnR P w K mg base (L2.CX P w) 8 g (spR K C) := by
  obtain ⟨f, fd, F1, g, b⟩ := h.x_Ring_inverse.ex
  have nd := S_Ring_inverse.nd
  refine ⟨f, g, ?_⟩
  have len : ∀ vs H Q E, spR K C vs H Q E → vs.length = (["self", "member"] : List Str).length := fun vs H Q E hs => by
    obtain ⟨G, ds, r, _, _, rp, hF, _⟩ := hs
    obtain ⟨a, b, rfl⟩ := F_inv_len hF
    rw [rp.length]
    rfl
  have ok : FnOk P w K mg base (L2.CX P w) 8 f fd ["self", "member"] (spR K C) := F1.okX S_Ring_inverse len fun cdv A outer s H vs Q E hr hs => by
    refine ⟨tInvX K C E, ?_, inv_run hs⟩
    have tk : Takes (cxOf (L2.CX P w) P w K mg base N_Ring_inverse "Ring.inverse" (defScope (inClass (topS 56) 17)) f cdv A outer s H E) (fun cls d _ H => E cls d H) := takes_of rfl rfl rfl rfl
    exact pss_cons (ps_expr (q_call (k_require_member h) (hr.mono (by decide)) (a_cons (q_var 0 rfl (Or.inl rfl)) (a_cons (q_var 1 rfl (Or.inl rfl)) a_nil))).pe rfl)
      (pss_cons (ps_set (i := 2) nd rfl (Or.inl rfl) (q_call (k_undone_member h) (hr.mono (by decide)) (a_cons (q_var 0 rfl (Or.inl rfl)) (a_cons (q_var 1 rfl (Or.inl rfl)) a_nil))).pe)
      (pss_cons (ps_if (t_is (C := C) (q_var 2 rfl (Or.inl rfl)) q_non).pe (pss_one (ps_raise rfl tk (pmk_ref (k := 6) T hr rfl hR (q_tup (C := C) (a_cons q_str a_nil)).pe))) pss_nil)
      (pss_one (ps_ret (q_var (C := C) 2 rfl (Or.inl rfl)).pe))))
  exact (ok.raw b .nil).imp fun vs H Q E hs => by rw [List.append_nil]; exact hs
def tTold (K : PySem.W.Frag) (C : Nat → Addr) : TS := fun D σ H =>
  tRet (SlX.tMethSl (C 0) (spR K C) (fun cls d H => ∀ σ : L2.St, σ.length = 3 → wAs K (.ref (C 2)) 2 (fun a cls d => tRet (tLst (tCons (tC (.str "refused")) (tCons (tXf a cls d (C 2) "reason" (tVar 2)) tNil)))) (fun _ _ _ _ => False) D cls d σ H) (tVar 0) (tCons (tVar 1) tNil)) D σ H
def N_told : List Str := ["_law_made_here", "_law_member_here", "error"]
theorem S_told : FnScope N_told ["_law_made_here", "_law_member_here"] (defScope (topS 91)) := ⟨rfl, rfl, rfl, by decide +kernel, rfl, by decide +kernel, by decide +kernel⟩
def unC : D → Option D
  | .non => none
  | d => some d
def caC : D → D
  | .non => .lst [.str "refused", .tup [.str "no unit"]]
  | d => d
theorem F_told_some {ds : List D} {d : D} (h : F_law_told_inverse ds = some d) : ∃ fs m d1, ds = [.obj 0 fs, m] ∧ F_inv [.obj 0 fs, m] = some (unC d1) ∧ d = caC d1 := by
  unfold F_law_told_inverse at h
  split at h
  · rename_i fs m
    obtain ⟨d0, e1, h⟩ := Option.bind_eq_some_iff.mp h
    obtain ⟨d1, e2, h⟩ := Option.map_eq_some_iff.mp h
    refine ⟨fs, m, d1, rfl, ?_, h.symm⟩
    unfold F_inv
    dsimp only
    rw [e1, Option.bind_some, e2]
    rfl
  · cases h
theorem told_run (hex : PySem.W.exmOne K (.ref (C 2)) (.ref (C 2)) = some true) {vs : List V} {H : Hp} {Q : VK} {E : XK} (h : spP K C F_law_told_inverse vs H Q E) : tTold K C { nx := fun _ H' => Q .non H', rt := Q } (L2.start N_told vs) H := by
  obtain ⟨G, ds, d, e, tb, rp, hF, q⟩ := h
  obtain ⟨fs, m, d1, rfl, hI, hd⟩ := F_told_some hF
  obtain ⟨v0, v1, rfl, r0, r1⟩ := reps2 rp
  obtain ⟨a, dx, ws, rfl, hs, _⟩ := rep_obj e r0
  refine ⟨_, rfl, a, dx, _, rfl, hs, v1, rfl, G, _, _, e, tb, rp, hI, fun d' hr v G' H' st rv => ?_, fun hr G' H' dx' v st hdx rv σ hl => ?_⟩
  · have : d = d' := by
      rw [hd]
      cases d1 <;> first | (cases hr; rfl) | cases hr
    subst this
    exact q v G' H' st rv
  · have : d = .lst [.str "refused", .tup [.str "no unit"]] := by
      rw [hd]
      cases d1 <;> first | rfl | cases hr
    subst this
    refine ⟨true, hex, fun _ a0 ha0 => ?_, fun z => Bool.noConfusion z⟩
    refine ⟨.ref a0, ?_, rfl, rfl, dx', _, v, rfl, upd_same, rfl, (show 2 ≤ sizeLine by decide), fun p hp => ?_⟩
    · rw [List.getElem?_set_self]
      rw [hl]
      exact (show 2 < 3 by decide)
    · have s2 : Step none G' H' G' (upd H' dx' (.xd [("reason", v)])) := .newH st.gh hdx
      have s3 : Step none G' (upd H' dx' (.xd [("reason", v)])) (upd G' p (.lst [.str "refused", v])) (upd (upd H' dx' (.xd [("reason", v)])) p (.lst [.str "refused", v])) := .new s2.gh hp
      exact q _ _ _ ((st.trans s2).trans s3) (.lst upd_same (.cons (.str _) (.cons (rv.mono s3.g) .nil)))
theorem k_told (h : Tops P w K mg base C) (T : RfC P K (C 2) fI) (hR : mg "Refused" = some (.ref (C 2))) (hX : XfC K (C 2)) (hno : PySem.W.findIn K (.ref (C 2)) "reason" = some none) (hex : PySem.W.exmOne K (.ref (C 2)) (.ref (C 2)) = some true) :
    Kn P w K mg base "_law_told_inverse" 9 ["_law_made_here", "_law_member_here"] (spP K C F_law_told_inverse) := by
  obtain ⟨f, fd, F1, g, b⟩ := h.x_law_told_inverse.ex
  obtain ⟨gi, hm, hf⟩ := k_inverse_x h T hR
  have sc := h.x_Ring_inverse.sc
  have nd := S_told.nd
  refine ⟨f, fd, F1.ok S_told (fun vs H Q E hs => ?_) (fun cdv A outer s H vs Q E hr hs => ⟨tTold K C, ?_, told_run hex hs⟩), g, F1.kp, b⟩
  · obtain ⟨G, ds, d, _, _, rp, hF, _⟩ := hs
    obtain ⟨fs, m, d1, rfl, _⟩ := F_told_some hF
    rw [rp.length]
    rfl
  · exact pss_one (ps_try_as (i := 2) (tb := fun W => tRet (SlX.tMethSl (C 0) (spR K C) (fun cls d H => ∀ σ : L2.St, σ.length = 3 → W cls d σ H) (tVar 0) (tCons (tVar 1) tNil)))
      (ts := fun a cls d => tRet (tLst (tCons (tC (.str "refused")) (tCons (tXf a cls d (C 2) "reason" (tVar 2)) tNil)))) (Wout := fun _ _ _ _ => False) rfl rfl nd rfl rfl ⟨rfl, by decide, Or.inl hR⟩ takes0
      (fun W pn xe tk _ => pss_one (ps_ret (SlX.pe_methSl (pv 0) sc hm hf hr (fun pins σ H s e s' I c => tk e s' (XE.of_call I (fun cls d H' hh => hh σ I.len) c)) (pa_cons (pv 1) pa_nil))))
      (fun a oe cls d pn hz hf => pss_one (ps_ret (pe_lst (pa_cons pe_str (pa_cons (pe_xf hX hno hz hf (pv 2)) pa_nil))))))
theorem mids (h : Tops P w K mg base C) (T : RfC P K (C 2) fI) (hR : mg "Refused" = some (.ref (C 2))) (hX : XfC K (C 2)) (hno : PySem.W.findIn K (.ref (C 2)) "reason" = some none) (hex : PySem.W.exmOne K (.ref (C 2)) (.ref (C 2)) = some true) : Mids P w K mg base C := ⟨k_told h T hR hX hno hex⟩
end TR

/-! The facts of the written part K that the head tells, each a Bool; Tops from them. Printed by gen/head.py. -/
namespace TR
open PySem PySem.Spec PyProof.Rows L2
open PySem.W (Frag)
open He (ga ma eqO eqO_ok ba relAll relAll_ok)
/-! ### defs -/
theorem isNone_ok {v : Value} (h : isNone v = true) : v = .none := by
  cases v with
  | none => rfl
  | _ => cases h
theorem DefA.raw {K : Frag} {d : DefA} (e : fnA K (d.path K) = d.val) (c : d.ok K = true) : ∃ (cl : List (Str × Addr)) (oc : Value) (od : Option Addr) (kV doc pm : Value) (an : Option Addr) (cdv ct : Value) (osl : Array (Option Value)),
    cl.map (·.1) = d.cl ∧ K.lookup (d.path K) = some ⟨oc, od, .func (PySem.W.fnX d.name d.qual (defArgs d.st) (defBody d.st) (defScope d.st) cl .none kV doc pm an cdv ct), osl⟩ ∧ PySem.W.codeIn K cdv d.qual = true := by
  obtain ⟨kp, c2⟩ := ba c
  unfold fnA at e
  cases q : K.lookup (d.path K) with
  | none =>
    rw [q] at c2
    cases c2
  | some o =>
    obtain ⟨oc, od, dt, osl⟩ := o
    rw [q] at c2 e
    cases dt with
    | func fd =>
      obtain ⟨n1, n2, n3, n4, n5, n6, n7, n8, n9, n10, n11, n12, n13, n14, n15⟩ := fd
      have e2 : (some (n1, n2, n3, n4, n5, n6, n7.map (·.1), n15) : FnA) = some (d.name, d.qual, defArgs d.st, .stmts (defBody d.st), defScope d.st, mainGlobals, d.cl, builtinsNs) := e
      simp only [Option.some.injEq, Prod.mk.injEq] at e2
      obtain ⟨h1, h2, h3, h4, h5, h6, h7, h8⟩ := e2
      subst h1 h2 h3 h4 h5 h6 h8
      have c3 : (PySem.W.codeIn K n13 d.qual && isNone n8) = true := c2
      obtain ⟨k1, k2⟩ := ba c3
      have k3 := isNone_ok k2
      subst k3
      exact ⟨n7, oc, od, n9, n10, n11, n12, n13, n14, osl, h7, rfl, k1⟩
    | _ => cases c2
theorem DefA.fun_ {K : Frag} {d : DefA} (e : fnA K (d.path K) = d.val) (c : d.ok K = true) (hc : d.cl = []) : ∃ fd, Fun K d.name d.qual d.st (d.path K) fd := by
  obtain ⟨cl, oc, od, kV, doc, pm, an, cdv, ct, osl, h1, h2, h3⟩ := DefA.raw e c
  rw [hc] at h1
  have h4 := List.map_eq_nil_iff.mp h1
  subst h4
  exact ⟨_, ⟨oc, od, kV, doc, pm, an, cdv, ct, osl, rfl, h2, h3⟩, (ba c).1⟩
/-! ### facts -/
/-- a tuple of ints -/
theorem tupIB_ok {K : Frag} {a : Addr} {is : List Int} (h : tupIB K a is = true) (H : Hp) : SqT K H a (is.map V.int) := by
  unfold tupIB at h
  cases q : K.lookup a with
  | none =>
    rw [q] at h
    cases h
  | some o =>
    obtain ⟨oc, od, dt, osl⟩ := o
    rw [q] at h
    cases oc with
    | type c =>
      cases dt with
      | seq its n =>
        obtain ⟨h1, h2⟩ := ba (show (decide (c = "tuple") && (decide (its.size ≤ sizeLine) && relAll (is.map V.int) its.toList)) = true from h)
        obtain ⟨h3, h4⟩ := ba h2
        exact .inr ⟨_, its, n, q, congrArg Value.type (of_decide_eq_true h1), rfl, of_decide_eq_true h3, relAll_ok h4⟩
      | _ => cases h
    | _ => cases dt <;> cases h
theorem tupI_rep {K : Frag} {C : Nat → Addr} {a : Addr} {is : List Int} (h : tupIB K a is = true) (G : Hp) : Rep K C G (.ref a) (.tup (is.map D.int)) := .tup (tupIB_ok h G) (.ints is)
/-- a dict with ints for keys -/
theorem ent_ok {K : Frag} {C : Nat → Addr} {es : Array DictEntry} {i : Int} {is : List Int} (h : entB K es i is = true) : ∃ v u, findBy Value.isInt es i = some u ∧ RelV v u ∧ ∀ G, Rep K C G v (.tup (is.map D.int)) := by
  unfold entB at h
  split at h
  · rename_i a e
    exact ⟨.ref a, _, e, rfl, tupI_rep h⟩
  · cases h
theorem kdi_ok {K : Frag} {C : Nat → Addr} {a : Addr} (h : kdiB K a = true) : ∀ i d, undT i = some d → ∃ v, KDI K a i v ∧ ∀ G, Rep K C G v d := by
  unfold kdiB at h
  cases q : K.lookup a with
  | none =>
    rw [q] at h
    cases h
  | some o =>
    obtain ⟨oc, od, dt, osl⟩ := o
    rw [q] at h
    cases oc with
    | type c =>
      cases od with
      | none =>
        cases dt with
        | dict es n =>
          obtain ⟨h1, h⟩ := ba h
          obtain ⟨h2, h⟩ := ba h
          obtain ⟨h3, h⟩ := ba h
          obtain ⟨h4, h⟩ := ba h
          obtain ⟨h5, h⟩ := ba h
          obtain ⟨h6, h7⟩ := ba h
          have e1 : c = "dict" := of_decide_eq_true h1
          have e2 : osl = #[] := Array.isEmpty_iff.mp h2
          subst e1 e2
          have keys : ∀ e ∈ es, ∃ k t, e.key = .int k t ∧ e.hash = hashInt k := fun e he => by
            have h8 := List.all_eq_true.mp h3 e (by simpa using he)
            split at h8
            · rename_i k t ek
              exact ⟨k, t, ek, of_decide_eq_true h8⟩
            · cases h8
          intro i d hd
          unfold undT at hd
          split at hd
          · cases hd
            obtain ⟨v, u, k1, k2, k3⟩ := ent_ok (C := C) h4
            exact ⟨v, ⟨es, n, u, q, keys, k1, k2⟩, k3⟩
          · cases hd
            obtain ⟨v, u, k1, k2, k3⟩ := ent_ok (C := C) h5
            exact ⟨v, ⟨es, n, u, q, keys, k1, k2⟩, k3⟩
          · cases hd
            obtain ⟨v, u, k1, k2, k3⟩ := ent_ok (C := C) h6
            exact ⟨v, ⟨es, n, u, q, keys, k1, k2⟩, k3⟩
          · cases hd
            obtain ⟨v, u, k1, k2, k3⟩ := ent_ok (C := C) h7
            exact ⟨v, ⟨es, n, u, q, keys, k1, k2⟩, k3⟩
          · cases hd
        | _ => cases h
      | some d => cases dt <;> cases h
    | _ => cases od <;> cases dt <;> cases h
/-- a class with slots -/
theorem sclsB_ok {K : Frag} {C : Addr} (h : sclsB K C = true) : SlX.SCls K C := by
  obtain ⟨h1, h⟩ := ba h
  obtain ⟨h2, h⟩ := ba h
  obtain ⟨h3, h4⟩ := ba h
  exact ⟨h1, h2, h3, eqO_ok h4⟩
theorem slotB_ok {K : Frag} {C : Addr} {f : Str} {i : Nat} (h : slotB K C f i = true) : SlX.Slot1 K C f (ma K C f) i := by
  obtain ⟨h1, h⟩ := ba h
  obtain ⟨h2, h⟩ := ba h
  obtain ⟨h3, h⟩ := ba h
  obtain ⟨h4, h⟩ := ba h
  obtain ⟨h5, h6⟩ := ba h
  exact ⟨eqO_ok h1, eqO_ok h2, of_decide_eq_true h3, of_decide_eq_true h4, of_decide_eq_true h5, of_decide_eq_true h6⟩
theorem siB_ok {K : Frag} (h1 : sclsB K (CC K 1) = true) (h : siB K (CC K 1) = true) : IsK K (CC K) := by
  obtain ⟨k1, h⟩ := ba h
  obtain ⟨k2, h⟩ := ba h
  obtain ⟨k3, h⟩ := ba h
  obtain ⟨k4, h⟩ := ba h
  obtain ⟨k5, k6⟩ := ba h
  exact ⟨sclsB_ok h1, ⟨eqO_ok k1, eqO_ok k2, of_decide_eq_true k3, of_decide_eq_true k4⟩, of_decide_eq_true k5, of_decide_eq_true k6⟩
/-- a method -/
theorem metB_ok {K : Frag} {C : Addr} {m : Str} (h : metB K C m = true) : Meth K C m (ma K C m) := by
  obtain ⟨h1, h⟩ := ba h
  obtain ⟨h2, h3⟩ := ba h
  exact ⟨eqO_ok h1, h2, h3⟩
theorem mkB_ok {K : Frag} {C : Addr} (h : mkB K C = true) : Mk K C (ma K C "__init__") := by
  obtain ⟨h1, h⟩ := ba h
  obtain ⟨h2, h⟩ := ba h
  obtain ⟨h3, h4⟩ := ba h
  exact ⟨h1, eqO_ok h2, h3, h4⟩
theorem cmB_ok {K : Frag} {C : Addr} {m : Str} (h : cmB K C m = true) : ClX.CMet K C (.type "type") m (ma K C m) (He5.wf K C "classmethod" m) := by
  obtain ⟨h1, h2⟩ := ba h
  exact He5.cmet_of h1 h2
theorem prB_ok {K : Frag} {C : Addr} {m : Str} (h : prB K C m = true) : PySem.W.findIn K (.ref C) m = some (some (.ref (ma K C m))) ∧ PySem.W.specialIn K (.ref (ma K C m)) "__get__" = some (some (.builtin "property.__get__")) ∧ PySem.W.takesIn K (.ref (ma K C m)) = some true ∧
    ∃ rest, PySem.W.recIn K (ma K C m) "property" = some (.ref (He5.wf K C "property" m) :: rest) := by
  obtain ⟨h1, h⟩ := ba h
  obtain ⟨h2, h⟩ := ba h
  obtain ⟨h3, h4⟩ := ba h
  refine ⟨eqO_ok h1, eqO_ok h2, of_decide_eq_true h3, ?_⟩
  unfold He5.wf
  split at h4
  · rename_i f r e
    exact ⟨r, by rw [e]⟩
  · cases h4
/-- Refused -/
theorem obs_fact {K : Frag} (c : obsR K = valR) (i : Nat) {b : Bool} (h : (facts K)[i]? = some b := by rfl) : b = true := by
  have c1 : exB K = true := congrArg (fun z : Bool × List FnA => z.1) c
  exact List.all_eq_true.mp (ba c1).1 b (List.mem_of_getElem? h)
theorem obs_def {K : Frag} (c : obsR K = valR) (i : Nat) {d : DefA} (h : defs[i]? = some d := by rfl) : fnA K (d.path K) = d.val ∧ d.ok K = true := by
  have c1 : exB K = true := congrArg (fun z : Bool × List FnA => z.1) c
  have e : defs.map (fun d => fnA K (d.path K)) = defs.map DefA.val := congrArg (fun z : Bool × List FnA => z.2) c
  have e2 : (defs.map fun d => fnA K (d.path K))[i]? = (defs.map DefA.val)[i]? := by rw [e]
  rw [List.getElem?_map, List.getElem?_map, h] at e2
  exact ⟨Option.some.inj e2, List.all_eq_true.mp (ba c1).2 d (List.mem_of_getElem? h)⟩
theorem obs_fun {K : Frag} (c : obsR K = valR) (i : Nat) {d : DefA} (h : defs[i]? = some d := by rfl) (hc : d.cl = [] := by rfl) : ∃ fd, Fun K d.name d.qual d.st (d.path K) fd := by
  obtain ⟨h1, h2⟩ := obs_def c i h
  exact DefA.fun_ h1 h2 hc
section
variable {P : Program} {w : World} {K : Frag} {mg : Str → Option Value} {base h : Heap}
theorem mg_int {x : Str} {i : Int} (X : K.In h) (G : h.Ns mainGlobals mg) (e : relI K x i = true) : ∃ v u, mg x = some u ∧ RelV v u ∧ ∀ G, Rep K (CC K) G v (.int i) := by
  unfold relI at e
  split at e
  · rename_i j t q
    have := of_decide_eq_true e
    subst this
    exact ⟨.int j, _, PySem.W.mg_of X G q, ⟨t, rfl⟩, fun _ => .int _⟩
  · cases e
theorem mg_str {x z : Str} (X : K.In h) (G : h.Ns mainGlobals mg) (e : relS K x z = true) : ∃ v u, mg x = some u ∧ RelV v u ∧ ∀ G, Rep K (CC K) G v (.str z) := by
  unfold relS at e
  split at e
  · rename_i j t q
    have := of_decide_eq_true e
    subst this
    exact ⟨.str j, _, PySem.W.mg_of X G q, ⟨t, rfl⟩, fun _ => .str _⟩
  · cases e
theorem mg_ref {x : Str} {a : Addr} (X : K.In h) (G : h.Ns mainGlobals mg) (e : eqO (PySem.W.nsIn K mainGlobals x) (some (some (.ref a))) = true) : mg x = some (.ref a) := PySem.W.mg_of X G (eqO_ok e)
theorem mg_no {x : Str} (X : K.In h) (G : h.Ns mainGlobals mg) (e : eqO (PySem.W.nsIn K mainGlobals x) (some none) = true) : mg x = none := PySem.W.mg_none_of X G (eqO_ok e)

theorem t_wall (X : K.In h) (G : h.Ns mainGlobals mg) (c : obsR K = valR) : Fx K mg "_wall" (topS 0) ["k"] := by
  obtain ⟨fd, F⟩ := obs_fun c 0
  exact ⟨_, fd, F, mg_ref X G (obs_fact c 16), Fun.binds F (ps := ["k"]) fun _ _ _ _ _ _ us hl => match us, hl with | [_], _ => rfl⟩
theorem t_is_whole (X : K.In h) (G : h.Ns mainGlobals mg) (c : obsR K = valR) : Fx K mg "is_whole" (topS 15) ["value"] := by
  obtain ⟨fd, F⟩ := obs_fun c 1
  exact ⟨_, fd, F, mg_ref X G (obs_fact c 17), Fun.binds F (ps := ["value"]) fun _ _ _ _ _ _ us hl => match us, hl with | [_], _ => rfl⟩
theorem t_is_integer (X : K.In h) (G : h.Ns mainGlobals mg) (c : obsR K = valR) : Fx K mg "is_integer" (topS 16) ["value"] := by
  obtain ⟨fd, F⟩ := obs_fun c 2
  exact ⟨_, fd, F, mg_ref X G (obs_fact c 18), Fun.binds F (ps := ["value"]) fun _ _ _ _ _ _ us hl => match us, hl with | [_], _ => rfl⟩
theorem t_is_within (X : K.In h) (G : h.Ns mainGlobals mg) (c : obsR K = valR) : Fx K mg "is_within" (topS 17) ["value", "least", "greatest"] := by
  obtain ⟨fd, F⟩ := obs_fun c 3
  exact ⟨_, fd, F, mg_ref X G (obs_fact c 19), Fun.binds F (ps := ["value", "least", "greatest"]) fun _ _ _ _ _ _ us hl => match us, hl with | [_, _, _], _ => rfl⟩
theorem t_is_prime (X : K.In h) (G : h.Ns mainGlobals mg) (c : obsR K = valR) : Fx K mg "is_prime" (topS 18) ["value"] := by
  obtain ⟨fd, F⟩ := obs_fun c 4
  exact ⟨_, fd, F, mg_ref X G (obs_fact c 20), Fun.binds F (ps := ["value"]) fun _ _ _ _ _ _ us hl => match us, hl with | [_], _ => rfl⟩
theorem t_is_residue_row (X : K.In h) (G : h.Ns mainGlobals mg) (c : obsR K = valR) : Fx K mg "is_residue_row" (topS 19) ["prime", "width", "value"] := by
  obtain ⟨fd, F⟩ := obs_fun c 5
  exact ⟨_, fd, F, mg_ref X G (obs_fact c 21), Fun.binds F (ps := ["prime", "width", "value"]) fun _ _ _ _ _ _ us hl => match us, hl with | [_, _, _], _ => rfl⟩
theorem t_undone_residue (X : K.In h) (G : h.Ns mainGlobals mg) (c : obsR K = valR) : Fx K mg "undone_residue" (topS 20) ["prime", "residue"] := by
  obtain ⟨fd, F⟩ := obs_fun c 6
  exact ⟨_, fd, F, mg_ref X G (obs_fact c 22), Fun.binds F (ps := ["prime", "residue"]) fun _ _ _ _ _ _ us hl => match us, hl with | [_, _], _ => rfl⟩
theorem t_require_integer (X : K.In h) (G : h.Ns mainGlobals mg) (c : obsR K = valR) : Fx K mg "require_integer" (topS 21) ["value"] := by
  obtain ⟨fd, F⟩ := obs_fun c 7
  exact ⟨_, fd, F, mg_ref X G (obs_fact c 23), Fun.binds F (ps := ["value"]) fun _ _ _ _ _ _ us hl => match us, hl with | [_], _ => rfl⟩
theorem t_require_within (X : K.In h) (G : h.Ns mainGlobals mg) (c : obsR K = valR) : Fx K mg "require_within" (topS 22) ["value", "least", "greatest"] := by
  obtain ⟨fd, F⟩ := obs_fun c 8
  exact ⟨_, fd, F, mg_ref X G (obs_fact c 24), Fun.binds F (ps := ["value", "least", "greatest"]) fun _ _ _ _ _ _ us hl => match us, hl with | [_, _, _], _ => rfl⟩
theorem t_require_prime (X : K.In h) (G : h.Ns mainGlobals mg) (c : obsR K = valR) : Fx K mg "require_prime" (topS 23) ["value"] := by
  obtain ⟨fd, F⟩ := obs_fun c 9
  exact ⟨_, fd, F, mg_ref X G (obs_fact c 25), Fun.binds F (ps := ["value"]) fun _ _ _ _ _ _ us hl => match us, hl with | [_], _ => rfl⟩
theorem t_zero_row (X : K.In h) (G : h.Ns mainGlobals mg) (c : obsR K = valR) : Fx K mg "zero_row" (topS 25) ["width"] := by
  obtain ⟨fd, F⟩ := obs_fun c 10
  exact ⟨_, fd, F, mg_ref X G (obs_fact c 26), Fun.binds F (ps := ["width"]) fun _ _ _ _ _ _ us hl => match us, hl with | [_], _ => rfl⟩
theorem t_single_row (X : K.In h) (G : h.Ns mainGlobals mg) (c : obsR K = valR) : Fx K mg "single_row" (topS 26) ["width", "place"] := by
  obtain ⟨fd, F⟩ := obs_fun c 11
  exact ⟨_, fd, F, mg_ref X G (obs_fact c 27), Fun.binds F (ps := ["width", "place"]) fun _ _ _ _ _ _ us hl => match us, hl with | [_, _], _ => rfl⟩
theorem t_scaled_row (X : K.In h) (G : h.Ns mainGlobals mg) (c : obsR K = valR) : Fx K mg "scaled_row" (topS 27) ["prime", "factor", "row"] := by
  obtain ⟨fd, F⟩ := obs_fun c 12
  exact ⟨_, fd, F, mg_ref X G (obs_fact c 28), Fun.binds F (ps := ["prime", "factor", "row"]) fun _ _ _ _ _ _ us hl => match us, hl with | [_, _, _], _ => rfl⟩
theorem t_added_row (X : K.In h) (G : h.Ns mainGlobals mg) (c : obsR K = valR) : Fx K mg "added_row" (topS 28) ["prime", "row", "other", "factor"] := by
  obtain ⟨fd, F⟩ := obs_fun c 13
  exact ⟨_, fd, F, mg_ref X G (obs_fact c 29), Fun.binds F (ps := ["prime", "row", "other", "factor"]) fun _ _ _ _ _ _ us hl => match us, hl with | [_, _, _, _], _ => rfl⟩
theorem t_led_row (X : K.In h) (G : h.Ns mainGlobals mg) (c : obsR K = valR) : Fx K mg "led_row" (topS 29) ["prime", "table", "row", "width"] := by
  obtain ⟨fd, F⟩ := obs_fun c 14
  exact ⟨_, fd, F, mg_ref X G (obs_fact c 30), Fun.binds F (ps := ["prime", "table", "row", "width"]) fun _ _ _ _ _ _ us hl => match us, hl with | [_, _, _, _], _ => rfl⟩
theorem t_rest_of (X : K.In h) (G : h.Ns mainGlobals mg) (c : obsR K = valR) : Fx K mg "rest_of" (topS 31) ["prime", "space", "row"] := by
  obtain ⟨fd, F⟩ := obs_fun c 15
  exact ⟨_, fd, F, mg_ref X G (obs_fact c 31), Fun.binds F (ps := ["prime", "space", "row"]) fun _ _ _ _ _ _ us hl => match us, hl with | [_, _, _], _ => rfl⟩
theorem t_with_row (X : K.In h) (G : h.Ns mainGlobals mg) (c : obsR K = valR) : Fx K mg "with_row" (topS 32) ["prime", "space", "row"] := by
  obtain ⟨fd, F⟩ := obs_fun c 16
  exact ⟨_, fd, F, mg_ref X G (obs_fact c 32), Fun.binds F (ps := ["prime", "space", "row"]) fun _ _ _ _ _ _ us hl => match us, hl with | [_, _, _], _ => rfl⟩
theorem t_reduced (X : K.In h) (G : h.Ns mainGlobals mg) (c : obsR K = valR) : Fx K mg "reduced" (topS 33) ["prime", "rows"] := by
  obtain ⟨fd, F⟩ := obs_fun c 17
  exact ⟨_, fd, F, mg_ref X G (obs_fact c 33), Fun.binds F (ps := ["prime", "rows"]) fun _ _ _ _ _ _ us hl => match us, hl with | [_, _], _ => rfl⟩
theorem t_solution_in (X : K.In h) (G : h.Ns mainGlobals mg) (c : obsR K = valR) : Fx K mg "solution_in" (topS 34) ["prime", "table", "row"] := by
  obtain ⟨fd, F⟩ := obs_fun c 18
  exact ⟨_, fd, F, mg_ref X G (obs_fact c 34), Fun.binds F (ps := ["prime", "table", "row"]) fun _ _ _ _ _ _ us hl => match us, hl with | [_, _, _], _ => rfl⟩
theorem t_places_table (X : K.In h) (G : h.Ns mainGlobals mg) (c : obsR K = valR) : Fx K mg "places_table" (topS 37) ["pairs"] := by
  obtain ⟨fd, F⟩ := obs_fun c 19
  exact ⟨_, fd, F, mg_ref X G (obs_fact c 35), Fun.binds F (ps := ["pairs"]) fun _ _ _ _ _ _ us hl => match us, hl with | [_], _ => rfl⟩
theorem t_full_places (X : K.In h) (G : h.Ns mainGlobals mg) (c : obsR K = valR) : Fx K mg "full_places" (topS 38) ["side"] := by
  obtain ⟨fd, F⟩ := obs_fun c 20
  exact ⟨_, fd, F, mg_ref X G (obs_fact c 36), Fun.binds F (ps := ["side"]) fun _ _ _ _ _ _ us hl => match us, hl with | [_], _ => rfl⟩
theorem t_powers_of_letter (X : K.In h) (G : h.Ns mainGlobals mg) (c : obsR K = valR) : Fx K mg "powers_of_letter" (topS 39) ["prime", "poly", "many"] := by
  obtain ⟨fd, F⟩ := obs_fun c 21
  exact ⟨_, fd, F, mg_ref X G (obs_fact c 37), Fun.binds F (ps := ["prime", "poly", "many"]) fun _ _ _ _ _ _ us hl => match us, hl with | [_, _, _], _ => rfl⟩
theorem t_poly_products (X : K.In h) (G : h.Ns mainGlobals mg) (c : obsR K = valR) : Fx K mg "poly_products" (topS 40) ["prime", "poly"] := by
  obtain ⟨fd, F⟩ := obs_fun c 22
  exact ⟨_, fd, F, mg_ref X G (obs_fact c 38), Fun.binds F (ps := ["prime", "poly"]) fun _ _ _ _ _ _ us hl => match us, hl with | [_, _], _ => rfl⟩
theorem t_pair_products (X : K.In h) (G : h.Ns mainGlobals mg) (c : obsR K = valR) : Fx K mg "pair_products" (topS 41) ["one", "other"] := by
  obtain ⟨fd, F⟩ := obs_fun c 23
  exact ⟨_, fd, F, mg_ref X G (obs_fact c 39), Fun.binds F (ps := ["one", "other"]) fun _ _ _ _ _ _ us hl => match us, hl with | [_, _], _ => rfl⟩
theorem t_members_number (X : K.In h) (G : h.Ns mainGlobals mg) (c : obsR K = valR) : Fx K mg "members_number" (topS 42) ["prime", "size"] := by
  obtain ⟨fd, F⟩ := obs_fun c 24
  exact ⟨_, fd, F, mg_ref X G (obs_fact c 40), Fun.binds F (ps := ["prime", "size"]) fun _ _ _ _ _ _ us hl => match us, hl with | [_, _], _ => rfl⟩
theorem t_is_monic_in (X : K.In h) (G : h.Ns mainGlobals mg) (c : obsR K = valR) : Fx K mg "is_monic_in" (topS 43) ["prime", "value"] := by
  obtain ⟨fd, F⟩ := obs_fun c 25
  exact ⟨_, fd, F, mg_ref X G (obs_fact c 41), Fun.binds F (ps := ["prime", "value"]) fun _ _ _ _ _ _ us hl => match us, hl with | [_, _], _ => rfl⟩
theorem t_group_fault (X : K.In h) (G : h.Ns mainGlobals mg) (c : obsR K = valR) : Fx K mg "group_fault" (topS 49) ["prime", "table"] := by
  obtain ⟨fd, F⟩ := obs_fun c 26
  exact ⟨_, fd, F, mg_ref X G (obs_fact c 42), Fun.binds F (ps := ["prime", "table"]) fun _ _ _ _ _ _ us hl => match us, hl with | [_, _], _ => rfl⟩
theorem t_one_in (X : K.In h) (G : h.Ns mainGlobals mg) (c : obsR K = valR) : Fx K mg "one_in" (topS 50) ["prime", "table"] := by
  obtain ⟨fd, F⟩ := obs_fun c 27
  exact ⟨_, fd, F, mg_ref X G (obs_fact c 43), Fun.binds F (ps := ["prime", "table"]) fun _ _ _ _ _ _ us hl => match us, hl with | [_, _], _ => rfl⟩
theorem t_fault_in (X : K.In h) (G : h.Ns mainGlobals mg) (c : obsR K = valR) : Fx K mg "fault_in" (topS 51) ["prime", "table"] := by
  obtain ⟨fd, F⟩ := obs_fun c 28
  exact ⟨_, fd, F, mg_ref X G (obs_fact c 44), Fun.binds F (ps := ["prime", "table"]) fun _ _ _ _ _ _ us hl => match us, hl with | [_, _], _ => rfl⟩
theorem t_are_products (X : K.In h) (G : h.Ns mainGlobals mg) (c : obsR K = valR) : Fx K mg "are_products" (topS 52) ["prime", "value"] := by
  obtain ⟨fd, F⟩ := obs_fun c 29
  exact ⟨_, fd, F, mg_ref X G (obs_fact c 45), Fun.binds F (ps := ["prime", "value"]) fun _ _ _ _ _ _ us hl => match us, hl with | [_, _], _ => rfl⟩
theorem t_require_products (X : K.In h) (G : h.Ns mainGlobals mg) (c : obsR K = valR) : Fx K mg "require_products" (topS 53) ["prime", "table"] := by
  obtain ⟨fd, F⟩ := obs_fun c 30
  exact ⟨_, fd, F, mg_ref X G (obs_fact c 46), Fun.binds F (ps := ["prime", "table"]) fun _ _ _ _ _ _ us hl => match us, hl with | [_, _], _ => rfl⟩
theorem t_products_told (X : K.In h) (G : h.Ns mainGlobals mg) (c : obsR K = valR) : Fx K mg "products_told" (topS 55) ["prime", "table"] := by
  obtain ⟨fd, F⟩ := obs_fun c 31
  exact ⟨_, fd, F, mg_ref X G (obs_fact c 47), Fun.binds F (ps := ["prime", "table"]) fun _ _ _ _ _ _ us hl => match us, hl with | [_, _], _ => rfl⟩
theorem t_is_member_in (X : K.In h) (G : h.Ns mainGlobals mg) (c : obsR K = valR) : Fx K mg "is_member_in" (topS 57) ["ring", "value"] := by
  obtain ⟨fd, F⟩ := obs_fun c 32
  exact ⟨_, fd, F, mg_ref X G (obs_fact c 48), Fun.binds F (ps := ["ring", "value"]) fun _ _ _ _ _ _ us hl => match us, hl with | [_, _], _ => rfl⟩
theorem t_right_table (X : K.In h) (G : h.Ns mainGlobals mg) (c : obsR K = valR) : Fx K mg "right_table" (topS 58) ["ring", "member"] := by
  obtain ⟨fd, F⟩ := obs_fun c 33
  exact ⟨_, fd, F, mg_ref X G (obs_fact c 49), Fun.binds F (ps := ["ring", "member"]) fun _ _ _ _ _ _ us hl => match us, hl with | [_, _], _ => rfl⟩
theorem t_product_in (X : K.In h) (G : h.Ns mainGlobals mg) (c : obsR K = valR) : Fx K mg "product_in" (topS 59) ["ring", "one", "other"] := by
  obtain ⟨fd, F⟩ := obs_fun c 34
  exact ⟨_, fd, F, mg_ref X G (obs_fact c 50), Fun.binds F (ps := ["ring", "one", "other"]) fun _ _ _ _ _ _ us hl => match us, hl with | [_, _, _], _ => rfl⟩
theorem t_power_in (X : K.In h) (G : h.Ns mainGlobals mg) (c : obsR K = valR) : Fx K mg "power_in" (topS 60) ["ring", "member", "number"] := by
  obtain ⟨fd, F⟩ := obs_fun c 35
  exact ⟨_, fd, F, mg_ref X G (obs_fact c 51), Fun.binds F (ps := ["ring", "member", "number"]) fun _ _ _ _ _ _ us hl => match us, hl with | [_, _, _], _ => rfl⟩
theorem t_undone_member (X : K.In h) (G : h.Ns mainGlobals mg) (c : obsR K = valR) : Fx K mg "undone_member" (topS 61) ["ring", "member"] := by
  obtain ⟨fd, F⟩ := obs_fun c 36
  exact ⟨_, fd, F, mg_ref X G (obs_fact c 52), Fun.binds F (ps := ["ring", "member"]) fun _ _ _ _ _ _ us hl => match us, hl with | [_, _], _ => rfl⟩
theorem t_require_ring (X : K.In h) (G : h.Ns mainGlobals mg) (c : obsR K = valR) : Fx K mg "require_ring" (topS 62) ["value"] := by
  obtain ⟨fd, F⟩ := obs_fun c 37
  exact ⟨_, fd, F, mg_ref X G (obs_fact c 53), Fun.binds F (ps := ["value"]) fun _ _ _ _ _ _ us hl => match us, hl with | [_], _ => rfl⟩
theorem t_require_member (X : K.In h) (G : h.Ns mainGlobals mg) (c : obsR K = valR) : Fx K mg "require_member" (topS 63) ["ring", "value"] := by
  obtain ⟨fd, F⟩ := obs_fun c 38
  exact ⟨_, fd, F, mg_ref X G (obs_fact c 54), Fun.binds F (ps := ["ring", "value"]) fun _ _ _ _ _ _ us hl => match us, hl with | [_, _], _ => rfl⟩
theorem t_law_tank (X : K.In h) (G : h.Ns mainGlobals mg) (c : obsR K = valR) : Fx K mg "_law_tank" (topS 65) ["_law_script", "_law_spot"] := by
  obtain ⟨fd, F⟩ := obs_fun c 39
  exact ⟨_, fd, F, mg_ref X G (obs_fact c 55), Fun.binds F (ps := ["_law_script", "_law_spot"]) fun _ _ _ _ _ _ us hl => match us, hl with | [_, _], _ => rfl⟩
theorem t_law_drop (X : K.In h) (G : h.Ns mainGlobals mg) (c : obsR K = valR) : Fx K mg "_law_drop" (topS 66) ["_law_tank_here", "_law_total"] := by
  obtain ⟨fd, F⟩ := obs_fun c 40
  exact ⟨_, fd, F, mg_ref X G (obs_fact c 56), Fun.binds F (ps := ["_law_tank_here", "_law_total"]) fun _ _ _ _ _ _ us hl => match us, hl with | [_, _], _ => rfl⟩
theorem t_law_choice (X : K.In h) (G : h.Ns mainGlobals mg) (c : obsR K = valR) : Fx K mg "_law_choice" (topS 67) ["_law_tank_here", "_law_items"] := by
  obtain ⟨fd, F⟩ := obs_fun c 41
  exact ⟨_, fd, F, mg_ref X G (obs_fact c 57), Fun.binds F (ps := ["_law_tank_here", "_law_items"]) fun _ _ _ _ _ _ us hl => match us, hl with | [_, _], _ => rfl⟩
theorem t_law_plus (X : K.In h) (G : h.Ns mainGlobals mg) (c : obsR K = valR) : Fx K mg "_law_plus" (topS 68) ["_law_p", "_law_one", "_law_other", "_law_factor"] := by
  obtain ⟨fd, F⟩ := obs_fun c 42
  exact ⟨_, fd, F, mg_ref X G (obs_fact c 58), Fun.binds F (ps := ["_law_p", "_law_one", "_law_other", "_law_factor"]) fun _ _ _ _ _ _ us hl => match us, hl with | [_, _, _, _], _ => rfl⟩
theorem t_law_undone (X : K.In h) (G : h.Ns mainGlobals mg) (c : obsR K = valR) : Fx K mg "_law_undone" (topS 69) ["_law_p", "_law_number"] := by
  obtain ⟨fd, F⟩ := obs_fun c 43
  exact ⟨_, fd, F, mg_ref X G (obs_fact c 59), Fun.binds F (ps := ["_law_p", "_law_number"]) fun _ _ _ _ _ _ us hl => match us, hl with | [_, _], _ => rfl⟩
theorem t_law_reduced (X : K.In h) (G : h.Ns mainGlobals mg) (c : obsR K = valR) : Fx K mg "_law_reduced" (topS 70) ["_law_p", "_law_rows"] := by
  obtain ⟨fd, F⟩ := obs_fun c 44
  exact ⟨_, fd, F, mg_ref X G (obs_fact c 60), Fun.binds F (ps := ["_law_p", "_law_rows"]) fun _ _ _ _ _ _ us hl => match us, hl with | [_, _], _ => rfl⟩
theorem t_law_rest (X : K.In h) (G : h.Ns mainGlobals mg) (c : obsR K = valR) : Fx K mg "_law_rest" (topS 71) ["_law_p", "_law_space", "_law_row"] := by
  obtain ⟨fd, F⟩ := obs_fun c 45
  exact ⟨_, fd, F, mg_ref X G (obs_fact c 61), Fun.binds F (ps := ["_law_p", "_law_space", "_law_row"]) fun _ _ _ _ _ _ us hl => match us, hl with | [_, _, _], _ => rfl⟩
theorem t_law_solved (X : K.In h) (G : h.Ns mainGlobals mg) (c : obsR K = valR) : Fx K mg "_law_solved" (topS 72) ["_law_p", "_law_rows", "_law_goal"] := by
  obtain ⟨fd, F⟩ := obs_fun c 46
  exact ⟨_, fd, F, mg_ref X G (obs_fact c 62), Fun.binds F (ps := ["_law_p", "_law_rows", "_law_goal"]) fun _ _ _ _ _ _ us hl => match us, hl with | [_, _, _], _ => rfl⟩
theorem t_law_ring (X : K.In h) (G : h.Ns mainGlobals mg) (c : obsR K = valR) : Fx K mg "_law_ring" (topS 73) ["_law_p", "_law_table"] := by
  obtain ⟨fd, F⟩ := obs_fun c 47
  exact ⟨_, fd, F, mg_ref X G (obs_fact c 63), Fun.binds F (ps := ["_law_p", "_law_table"]) fun _ _ _ _ _ _ us hl => match us, hl with | [_, _], _ => rfl⟩
theorem t_law_times (X : K.In h) (G : h.Ns mainGlobals mg) (c : obsR K = valR) : Fx K mg "_law_times" (topS 74) ["_law_ring_here", "_law_one", "_law_other"] := by
  obtain ⟨fd, F⟩ := obs_fun c 48
  exact ⟨_, fd, F, mg_ref X G (obs_fact c 64), Fun.binds F (ps := ["_law_ring_here", "_law_one", "_law_other"]) fun _ _ _ _ _ _ us hl => match us, hl with | [_, _, _], _ => rfl⟩
theorem t_law_unit (X : K.In h) (G : h.Ns mainGlobals mg) (c : obsR K = valR) : Fx K mg "_law_unit" (topS 75) ["_law_size"] := by
  obtain ⟨fd, F⟩ := obs_fun c 49
  exact ⟨_, fd, F, mg_ref X G (obs_fact c 65), Fun.binds F (ps := ["_law_size"]) fun _ _ _ _ _ _ us hl => match us, hl with | [_], _ => rfl⟩
theorem t_law_squares (X : K.In h) (G : h.Ns mainGlobals mg) (c : obsR K = valR) : Fx K mg "_law_squares" (topS 76) ["_law_p", "_law_side", "_law_upper"] := by
  obtain ⟨fd, F⟩ := obs_fun c 50
  exact ⟨_, fd, F, mg_ref X G (obs_fact c 66), Fun.binds F (ps := ["_law_p", "_law_side", "_law_upper"]) fun _ _ _ _ _ _ us hl => match us, hl with | [_, _, _], _ => rfl⟩
theorem t_law_moved (X : K.In h) (G : h.Ns mainGlobals mg) (c : obsR K = valR) : Fx K mg "_law_moved" (topS 77) ["_law_p", "_law_moves"] := by
  obtain ⟨fd, F⟩ := obs_fun c 51
  exact ⟨_, fd, F, mg_ref X G (obs_fact c 67), Fun.binds F (ps := ["_law_p", "_law_moves"]) fun _ _ _ _ _ _ us hl => match us, hl with | [_, _], _ => rfl⟩
theorem t_law_poly_ring (X : K.In h) (G : h.Ns mainGlobals mg) (c : obsR K = valR) : Fx K mg "_law_poly_ring" (topS 78) ["_law_p", "_law_poly"] := by
  obtain ⟨fd, F⟩ := obs_fun c 52
  exact ⟨_, fd, F, mg_ref X G (obs_fact c 68), Fun.binds F (ps := ["_law_p", "_law_poly"]) fun _ _ _ _ _ _ us hl => match us, hl with | [_, _], _ => rfl⟩
theorem t_law_beside (X : K.In h) (G : h.Ns mainGlobals mg) (c : obsR K = valR) : Fx K mg "_law_beside" (topS 79) ["_law_one", "_law_other"] := by
  obtain ⟨fd, F⟩ := obs_fun c 53
  exact ⟨_, fd, F, mg_ref X G (obs_fact c 69), Fun.binds F (ps := ["_law_one", "_law_other"]) fun _ _ _ _ _ _ us hl => match us, hl with | [_, _], _ => rfl⟩
theorem t_law_shears (X : K.In h) (G : h.Ns mainGlobals mg) (c : obsR K = valR) : Fx K mg "_law_shears" (topS 80) ["_law_tank_here", "_law_p", "_law_size"] := by
  obtain ⟨fd, F⟩ := obs_fun c 54
  exact ⟨_, fd, F, mg_ref X G (obs_fact c 70), Fun.binds F (ps := ["_law_tank_here", "_law_p", "_law_size"]) fun _ _ _ _ _ _ us hl => match us, hl with | [_, _, _], _ => rfl⟩
theorem t_law_led (X : K.In h) (G : h.Ns mainGlobals mg) (c : obsR K = valR) : Fx K mg "_law_led" (topS 81) ["_law_p", "_law_table", "_law_row"] := by
  obtain ⟨fd, F⟩ := obs_fun c 55
  exact ⟨_, fd, F, mg_ref X G (obs_fact c 71), Fun.binds F (ps := ["_law_p", "_law_table", "_law_row"]) fun _ _ _ _ _ _ us hl => match us, hl with | [_, _, _], _ => rfl⟩
theorem t_law_rebased (X : K.In h) (G : h.Ns mainGlobals mg) (c : obsR K = valR) : Fx K mg "_law_rebased" (topS 82) ["_law_ring_here", "_law_one", "_law_back"] := by
  obtain ⟨fd, F⟩ := obs_fun c 56
  exact ⟨_, fd, F, mg_ref X G (obs_fact c 72), Fun.binds F (ps := ["_law_ring_here", "_law_one", "_law_back"]) fun _ _ _ _ _ _ us hl => match us, hl with | [_, _, _], _ => rfl⟩
theorem t_law_turned (X : K.In h) (G : h.Ns mainGlobals mg) (c : obsR K = valR) : Fx K mg "_law_turned" (topS 83) ["_law_ring_here"] := by
  obtain ⟨fd, F⟩ := obs_fun c 57
  exact ⟨_, fd, F, mg_ref X G (obs_fact c 73), Fun.binds F (ps := ["_law_ring_here"]) fun _ _ _ _ _ _ us hl => match us, hl with | [_], _ => rfl⟩
theorem t_law_plain_ring (X : K.In h) (G : h.Ns mainGlobals mg) (c : obsR K = valR) : Fx K mg "_law_plain_ring" (topS 84) ["_law_tank_here", "_law_most"] := by
  obtain ⟨fd, F⟩ := obs_fun c 58
  exact ⟨_, fd, F, mg_ref X G (obs_fact c 74), Fun.binds F (ps := ["_law_tank_here", "_law_most"]) fun _ _ _ _ _ _ us hl => match us, hl with | [_, _], _ => rfl⟩
theorem t_law_drawn_ring (X : K.In h) (G : h.Ns mainGlobals mg) (c : obsR K = valR) : Fx K mg "_law_drawn_ring" (topS 85) ["_law_tank_here", "_law_most"] := by
  obtain ⟨fd, F⟩ := obs_fun c 59
  exact ⟨_, fd, F, mg_ref X G (obs_fact c 75), Fun.binds F (ps := ["_law_tank_here", "_law_most"]) fun _ _ _ _ _ _ us hl => match us, hl with | [_, _], _ => rfl⟩
theorem t_law_made (X : K.In h) (G : h.Ns mainGlobals mg) (c : obsR K = valR) : Fx K mg "_law_made" (topS 86) ["_law_ring_here"] := by
  obtain ⟨fd, F⟩ := obs_fun c 60
  exact ⟨_, fd, F, mg_ref X G (obs_fact c 76), Fun.binds F (ps := ["_law_ring_here"]) fun _ _ _ _ _ _ us hl => match us, hl with | [_], _ => rfl⟩
theorem t_law_member (X : K.In h) (G : h.Ns mainGlobals mg) (c : obsR K = valR) : Fx K mg "_law_member" (topS 87) ["_law_tank_here", "_law_ring_here"] := by
  obtain ⟨fd, F⟩ := obs_fun c 61
  exact ⟨_, fd, F, mg_ref X G (obs_fact c 77), Fun.binds F (ps := ["_law_tank_here", "_law_ring_here"]) fun _ _ _ _ _ _ us hl => match us, hl with | [_, _], _ => rfl⟩
theorem t_law_one_of_ring (X : K.In h) (G : h.Ns mainGlobals mg) (c : obsR K = valR) : Fx K mg "_law_one_of_ring" (topS 88) ["_law_ring_here"] := by
  obtain ⟨fd, F⟩ := obs_fun c 62
  exact ⟨_, fd, F, mg_ref X G (obs_fact c 78), Fun.binds F (ps := ["_law_ring_here"]) fun _ _ _ _ _ _ us hl => match us, hl with | [_], _ => rfl⟩
theorem t_law_great_power (X : K.In h) (G : h.Ns mainGlobals mg) (c : obsR K = valR) : Fx K mg "_law_great_power" (topS 89) ["_law_ring_here", "_law_member_here", "_law_number"] := by
  obtain ⟨fd, F⟩ := obs_fun c 63
  exact ⟨_, fd, F, mg_ref X G (obs_fact c 79), Fun.binds F (ps := ["_law_ring_here", "_law_member_here", "_law_number"]) fun _ _ _ _ _ _ us hl => match us, hl with | [_, _, _], _ => rfl⟩
theorem t_law_undoing (X : K.In h) (G : h.Ns mainGlobals mg) (c : obsR K = valR) : Fx K mg "_law_undoing" (topS 90) ["_law_ring_here", "_law_member_here"] := by
  obtain ⟨fd, F⟩ := obs_fun c 64
  exact ⟨_, fd, F, mg_ref X G (obs_fact c 80), Fun.binds F (ps := ["_law_ring_here", "_law_member_here"]) fun _ _ _ _ _ _ us hl => match us, hl with | [_, _], _ => rfl⟩
theorem t_law_told_inverse (X : K.In h) (G : h.Ns mainGlobals mg) (c : obsR K = valR) : Fx K mg "_law_told_inverse" (topS 91) ["_law_made_here", "_law_member_here"] := by
  obtain ⟨fd, F⟩ := obs_fun c 65
  exact ⟨_, fd, F, mg_ref X G (obs_fact c 81), Fun.binds F (ps := ["_law_made_here", "_law_member_here"]) fun _ _ _ _ _ _ us hl => match us, hl with | [_, _], _ => rfl⟩
theorem t_law_units_right (X : K.In h) (G : h.Ns mainGlobals mg) (c : obsR K = valR) : Fx K mg "_law_units_right" (topS 92) ["_law_ring_here", "_law_made_here", "_law_member_here"] := by
  obtain ⟨fd, F⟩ := obs_fun c 66
  exact ⟨_, fd, F, mg_ref X G (obs_fact c 82), Fun.binds F (ps := ["_law_ring_here", "_law_made_here", "_law_member_here"]) fun _ _ _ _ _ _ us hl => match us, hl with | [_, _, _], _ => rfl⟩
theorem t_law_right (X : K.In h) (G : h.Ns mainGlobals mg) (c : obsR K = valR) : Fx K mg "_law_right" (topS 93) ["_law_tank_here"] := by
  obtain ⟨fd, F⟩ := obs_fun c 67
  exact ⟨_, fd, F, mg_ref X G (obs_fact c 83), Fun.binds F (ps := ["_law_tank_here"]) fun _ _ _ _ _ _ us hl => match us, hl with | [_], _ => rfl⟩
theorem t_law (X : K.In h) (G : h.Ns mainGlobals mg) (c : obsR K = valR) : Fx K mg "law" (topS 94) ["_law_script"] := by
  obtain ⟨fd, F⟩ := obs_fun c 68
  exact ⟨_, fd, F, mg_ref X G (obs_fact c 84), Fun.binds F (ps := ["_law_script"]) fun _ _ _ _ _ _ us hl => match us, hl with | [_], _ => rfl⟩
theorem t_Ring_added (c : obsR K = valR) : FxM K (CC K) 0 "added" "Ring.added" (inClass (topS 56) 12) ["self", "one", "other"] := by
  obtain ⟨fd, F⟩ := obs_fun c 70
  exact ⟨⟨_, fd, F, metB_ok (obs_fact c 107), Fun.binds F (ps := ["self", "one", "other"]) fun _ _ _ _ _ _ us hl => match us, hl with | [_, _, _], _ => rfl⟩, sclsB_ok (obs_fact c 99)⟩
theorem t_Ring_inverse (c : obsR K = valR) : FxM K (CC K) 0 "inverse" "Ring.inverse" (inClass (topS 56) 17) ["self", "member"] := by
  obtain ⟨fd, F⟩ := obs_fun c 71
  exact ⟨⟨_, fd, F, metB_ok (obs_fact c 108), Fun.binds F (ps := ["self", "member"]) fun _ _ _ _ _ _ us hl => match us, hl with | [_, _], _ => rfl⟩, sclsB_ok (obs_fact c 99)⟩
theorem t_Ring_is_unit (c : obsR K = valR) : FxM K (CC K) 0 "is_unit" "Ring.is_unit" (inClass (topS 56) 16) ["self", "value"] := by
  obtain ⟨fd, F⟩ := obs_fun c 72
  exact ⟨⟨_, fd, F, metB_ok (obs_fact c 109), Fun.binds F (ps := ["self", "value"]) fun _ _ _ _ _ _ us hl => match us, hl with | [_, _], _ => rfl⟩, sclsB_ok (obs_fact c 99)⟩
theorem t_Ring_power (c : obsR K = valR) : FxM K (CC K) 0 "power" "Ring.power" (inClass (topS 56) 15) ["self", "member", "number"] := by
  obtain ⟨fd, F⟩ := obs_fun c 73
  exact ⟨⟨_, fd, F, metB_ok (obs_fact c 110), Fun.binds F (ps := ["self", "member", "number"]) fun _ _ _ _ _ _ us hl => match us, hl with | [_, _, _], _ => rfl⟩, sclsB_ok (obs_fact c 99)⟩
theorem t_Ring_product (c : obsR K = valR) : FxM K (CC K) 0 "product" "Ring.product" (inClass (topS 56) 13) ["self", "one", "other"] := by
  obtain ⟨fd, F⟩ := obs_fun c 74
  exact ⟨⟨_, fd, F, metB_ok (obs_fact c 111), Fun.binds F (ps := ["self", "one", "other"]) fun _ _ _ _ _ _ us hl => match us, hl with | [_, _, _], _ => rfl⟩, sclsB_ok (obs_fact c 99)⟩
theorem t_Ring_times (c : obsR K = valR) : FxM K (CC K) 0 "times" "Ring.times" (inClass (topS 56) 14) ["self", "number", "member"] := by
  obtain ⟨fd, F⟩ := obs_fun c 75
  exact ⟨⟨_, fd, F, metB_ok (obs_fact c 112), Fun.binds F (ps := ["self", "number", "member"]) fun _ _ _ _ _ _ us hl => match us, hl with | [_, _, _], _ => rfl⟩, sclsB_ok (obs_fact c 99)⟩
theorem t_Ring_full (c : obsR K = valR) : FxC K (CC K) 0 "full" "Ring.full" (inClass (topS 56) 2) ["cls", "prime", "side"] := by
  obtain ⟨fd, F⟩ := obs_fun c 76
  obtain ⟨h1, h2⟩ := ba (obs_fact c 113)
  exact ⟨_, fd, .type "type", _, F, ⟨h1, eqO_ok h2⟩, cmB_ok (obs_fact c 114), Fun.binds F (ps := ["cls", "prime", "side"]) fun _ _ _ _ _ _ us hl => match us, hl with | [_, _, _], _ => rfl⟩
theorem t_Ring_of_poly (c : obsR K = valR) : FxC K (CC K) 0 "of_poly" "Ring.of_poly" (inClass (topS 56) 5) ["cls", "prime", "poly"] := by
  obtain ⟨fd, F⟩ := obs_fun c 77
  obtain ⟨h1, h2⟩ := ba (obs_fact c 113)
  exact ⟨_, fd, .type "type", _, F, ⟨h1, eqO_ok h2⟩, cmB_ok (obs_fact c 115), Fun.binds F (ps := ["cls", "prime", "poly"]) fun _ _ _ _ _ _ us hl => match us, hl with | [_, _, _], _ => rfl⟩
theorem t_Ring_one (c : obsR K = valR) : FxP K (CC K) 0 "one" "Ring.one" (inClass (topS 56) 10) ["self"] := by
  obtain ⟨fd, F⟩ := obs_fun c 78
  obtain ⟨h1, h2, h3, h4⟩ := prB_ok (obs_fact c 116)
  exact ⟨⟨_, fd, _, F, h1, h2, h3, h4, Fun.binds F (ps := ["self"]) fun _ _ _ _ _ _ us hl => match us, hl with | [_], _ => rfl⟩, sclsB_ok (obs_fact c 99)⟩
theorem t_KeptProducts_init (c : obsR K = valR) : FxI K (CC K) 1 "KeptProducts.__init__" (inClass (topS 54) 1) ["self", "rows"] := by
  obtain ⟨fd, F⟩ := obs_fun c 79
  exact ⟨_, fd, F, mkB_ok (obs_fact c 117), Fun.binds F (ps := ["self", "rows"]) fun _ _ _ _ _ _ us hl => match us, hl with | [_, _], _ => rfl⟩
theorem t_Ring_init (c : obsR K = valR) : FxI K (CC K) 0 "Ring.__init__" (inClass (topS 56) 1) ["self", "prime", "table"] := by
  obtain ⟨fd, F⟩ := obs_fun c 80
  exact ⟨_, fd, F, mkB_ok (obs_fact c 118), Fun.binds F (ps := ["self", "prime", "table"]) fun _ _ _ _ _ _ us hl => match us, hl with | [_, _, _], _ => rfl⟩
theorem t_lead_of (X : K.In h) (G : h.Ns mainGlobals mg) (c : obsR K = valR) (tb : GxR.TabB base mg (He.codeOf K ("lead_of", none)) (CC K 9)) : FxL K mg base (CC K) "lead_of" (topS 30) ["row"] := by
  obtain ⟨fd, F⟩ := obs_fun c 69
  have b := Fun.binds F (ps := ["row"]) fun _ _ _ _ _ _ us hl => match us, hl with | [_], _ => rfl
  obtain ⟨oc, od, kV, doc, pm, an, cdv, ct, osl, rfl, lk, hcd⟩ := F.ex
  obtain ⟨c0, rfl⟩ := He.codeIn_ref hcd
  have e : He.codeOf K ("lead_of", none) = c0 := He.codeOf_eq (p := ("lead_of", none)) lk rfl
  rw [e] at tb
  exact ⟨_, c0, oc, od, kV, doc, pm, an, ct, osl, lk, hcd, F.kp, mg_ref X G (obs_fact c 85), b, tb⟩
theorem tops_of (X : K.In h) (G : h.Ns mainGlobals mg) (c : obsR K = valR) (tb : GxR.TabB base mg (He.codeOf K ("lead_of", none)) (CC K 9)) : Tops P w K mg base (CC K) where
  b_abs := mg_no X G (obs_fact c 0)
  b_all := mg_no X G (obs_fact c 1)
  b_any := mg_no X G (obs_fact c 2)
  b_bool := mg_no X G (obs_fact c 3)
  b_enumerate := mg_no X G (obs_fact c 4)
  b_int := mg_no X G (obs_fact c 5)
  b_isinstance := mg_no X G (obs_fact c 6)
  b_len := mg_no X G (obs_fact c 7)
  b_list := mg_no X G (obs_fact c 8)
  b_max := mg_no X G (obs_fact c 9)
  b_min := mg_no X G (obs_fact c 10)
  b_next := mg_no X G (obs_fact c 11)
  b_range := mg_no X G (obs_fact c 12)
  b_sorted := mg_no X G (obs_fact c 13)
  b_tuple := mg_no X G (obs_fact c 14)
  b_zip := mg_no X G (obs_fact c 15)
  x_wall := t_wall X G c
  x_is_whole := t_is_whole X G c
  x_is_integer := t_is_integer X G c
  x_is_within := t_is_within X G c
  x_is_prime := t_is_prime X G c
  x_is_residue_row := t_is_residue_row X G c
  x_undone_residue := t_undone_residue X G c
  x_require_integer := t_require_integer X G c
  x_require_within := t_require_within X G c
  x_require_prime := t_require_prime X G c
  x_zero_row := t_zero_row X G c
  x_single_row := t_single_row X G c
  x_scaled_row := t_scaled_row X G c
  x_added_row := t_added_row X G c
  x_led_row := t_led_row X G c
  x_rest_of := t_rest_of X G c
  x_with_row := t_with_row X G c
  x_reduced := t_reduced X G c
  x_solution_in := t_solution_in X G c
  x_places_table := t_places_table X G c
  x_full_places := t_full_places X G c
  x_powers_of_letter := t_powers_of_letter X G c
  x_poly_products := t_poly_products X G c
  x_pair_products := t_pair_products X G c
  x_members_number := t_members_number X G c
  x_is_monic_in := t_is_monic_in X G c
  x_group_fault := t_group_fault X G c
  x_one_in := t_one_in X G c
  x_fault_in := t_fault_in X G c
  x_are_products := t_are_products X G c
  x_require_products := t_require_products X G c
  x_products_told := t_products_told X G c
  x_is_member_in := t_is_member_in X G c
  x_right_table := t_right_table X G c
  x_product_in := t_product_in X G c
  x_power_in := t_power_in X G c
  x_undone_member := t_undone_member X G c
  x_require_ring := t_require_ring X G c
  x_require_member := t_require_member X G c
  x_law_tank := t_law_tank X G c
  x_law_drop := t_law_drop X G c
  x_law_choice := t_law_choice X G c
  x_law_plus := t_law_plus X G c
  x_law_undone := t_law_undone X G c
  x_law_reduced := t_law_reduced X G c
  x_law_rest := t_law_rest X G c
  x_law_solved := t_law_solved X G c
  x_law_ring := t_law_ring X G c
  x_law_times := t_law_times X G c
  x_law_unit := t_law_unit X G c
  x_law_squares := t_law_squares X G c
  x_law_moved := t_law_moved X G c
  x_law_poly_ring := t_law_poly_ring X G c
  x_law_beside := t_law_beside X G c
  x_law_shears := t_law_shears X G c
  x_law_led := t_law_led X G c
  x_law_rebased := t_law_rebased X G c
  x_law_turned := t_law_turned X G c
  x_law_plain_ring := t_law_plain_ring X G c
  x_law_drawn_ring := t_law_drawn_ring X G c
  x_law_made := t_law_made X G c
  x_law_member := t_law_member X G c
  x_law_one_of_ring := t_law_one_of_ring X G c
  x_law_great_power := t_law_great_power X G c
  x_law_undoing := t_law_undoing X G c
  x_law_told_inverse := t_law_told_inverse X G c
  x_law_units_right := t_law_units_right X G c
  x_law_right := t_law_right X G c
  x_law := t_law X G c
  x_lead_of := t_lead_of X G c tb
  g_SIXTY_DIGITS := mg_int X G (obs_fact c 91)
  g_MAX_SIZE := mg_int X G (obs_fact c 92)
  g_MAX_SIDE := mg_int X G (obs_fact c 93)
  g_MOST_BASE := mg_int X G (obs_fact c 94)
  g_GROUP := mg_str X G (obs_fact c 95)
  g_NO_ONE := mg_str X G (obs_fact c 96)
  g_PRIMES := ⟨.ref _, _, mg_ref X G (obs_fact c 90), rfl, tupI_rep (is := [2, 3, 5, 7]) (obs_fact c 97)⟩
  g_UNDONE := ⟨_, mg_ref X G (obs_fact c 89), kdi_ok (obs_fact c 98)⟩
  m_KeptProducts := mg_ref X G (obs_fact c 87)
  m_Ring := mg_ref X G (obs_fact c 86)
  fl_own_one := ⟨sclsB_ok (obs_fact c 99), _, slotB_ok (obs_fact c 102)⟩
  fl_own_prime := ⟨sclsB_ok (obs_fact c 99), _, slotB_ok (obs_fact c 103)⟩
  fl_own_size := ⟨sclsB_ok (obs_fact c 99), _, slotB_ok (obs_fact c 104)⟩
  fl_own_table := ⟨sclsB_ok (obs_fact c 99), _, slotB_ok (obs_fact c 105)⟩
  fl_own_rows := ⟨sclsB_ok (obs_fact c 100), _, slotB_ok (obs_fact c 106)⟩
  isk := siB_ok (obs_fact c 100) (obs_fact c 101)
  x_Ring_added := t_Ring_added c
  x_Ring_inverse := t_Ring_inverse c
  x_Ring_is_unit := t_Ring_is_unit c
  x_Ring_power := t_Ring_power c
  x_Ring_product := t_Ring_product c
  x_Ring_times := t_Ring_times c
  x_Ring_full := t_Ring_full c
  x_Ring_of_poly := t_Ring_of_poly c
  x_Ring_one := t_Ring_one c
  x_KeptProducts_init := t_KeptProducts_init c
  x_Ring_init := t_Ring_init c
theorem ref_of (c : obsR K = valR) : RfC pw K (CC K 2) (ma K (ga K "Refused") "__init__") where
  fn := by
    obtain ⟨h1, h2⟩ := obs_def c 81
    obtain ⟨cl, oc, od, kV, doc, pm, an, cdv, ct, osl, k1, k2, k3⟩ := DefA.raw h1 h2
    have hb : refB K (CC K 2) (ma K (ga K "Refused") "__init__") = true := obs_fact c 139
    unfold refB at hb
    rw [show K.lookup (ma K (ga K "Refused") "__init__") = _ from k2] at hb
    obtain ⟨hf, hb⟩ := ba hb
    obtain ⟨cda, rfl⟩ := He.codeIn_ref k3
    match cl, k1, k2, hb with
    | [(n0, cc)], k1, k2, hb =>
      have e0 : n0 = "__class__" := (List.cons.inj k1).1
      subst e0
      refine ⟨cc, cda, 0, oc, od, osl, kV, doc, pm, an, ct, k2, k3, ?_, ?_⟩
      · unfold fileB at hf
        cases q : K.lookup cda with
        | none =>
          have hf2 := hf
          dsimp only [PySem.W.fnX] at hf2
          rw [q] at hf2
          cases hf2
        | some o =>
          obtain ⟨ccl, cdd, dt, ccs⟩ := o
          have hf2 := hf
          dsimp only [PySem.W.fnX] at hf2
          rw [q] at hf2
          cases dt with
          | fields vs =>
            dsimp only at hf2
            split at hf2
            · rename_i file tf e
              exact ⟨ccl, cdd, vs, ccs, file, tf, rfl, e, hf2⟩
            · cases hf2
          | _ => cases hf2
      · have hb2 := hb
        dsimp only [PySem.W.fnX] at hb2
        cases q : K.lookup cc with
        | none =>
          rw [q] at hb2
          cases hb2
        | some o =>
          obtain ⟨ccl, cdd, dt, ccs⟩ := o
          rw [q] at hb2
          cases dt with
          | cell v =>
            cases v with
            | none => cases hb2
            | some v =>
              cases v with
              | ref D =>
                have e : D = CC K 2 := of_decide_eq_true hb2
                subst e
                exact ⟨ccl, cdd, ccs, rfl⟩
              | _ => cases hb2
          | _ => cases hb2
    | [], k1, _, _ => exact absurd (congrArg List.length k1) (show ¬ 0 = 1 by decide)
    | _ :: _ :: r, k1, _, _ => exact absurd (congrArg List.length k1) (show ¬ (List.length (List.map _ r) + 1 + 1 = 1) by omega)
  cls := Option.isSome_iff_exists.mp (show (PySem.W.clsIn K (CC K 2)).isSome = true from obs_fact c 119)
  sub := of_decide_eq_true (obs_fact c 120)
  ini := eqO_ok (obs_fact c 121)
  isf := obs_fact c 122
  exi := obs_fact c 123
  sup := eqO_ok (obs_fact c 124)
  par := eqO_ok (obs_fact c 125)
  subA := of_decide_eq_true (obs_fact c 126)
  thi := eqO_ok (obs_fact c 127)
  seta := eqO_ok (obs_fact c 128)
  ovr := obs_fact c 129
  tak := eqO_ok (obs_fact c 130)
  hdc := obs_fact c 131
  top := by decide +kernel
  exB := of_decide_eq_true (obs_fact c 132)
  tyC := of_decide_eq_true (obs_fact c 133)
  kpC := obs_fact c 134
theorem mids_of (X : K.In h) (G : h.Ns mainGlobals mg) (c : obsR K = valR) (t : Tops pw w K mg base (CC K)) : Mids pw w K mg base (CC K) :=
  mids t (ref_of c) (mg_ref X G (obs_fact c 88)) ⟨eqO_ok (obs_fact c 135), eqO_ok (obs_fact c 136), of_decide_eq_true (obs_fact c 132), obs_fact c 131⟩ (eqO_ok (obs_fact c 137)) (of_decide_eq_true (obs_fact c 138))
end
end TR

/-! The end: the row from the law's truth on data. -/
namespace TR
open PySem PySem.Spec PyProof.Rows L2
open PySem.W (Frag)
theorem end_sp {K : Frag} {a : Addr} {ns : List Int} (hl : F_law [.scr ns] = some (.bl true)) (H : Hp) (hH : ∀ p ∈ [(He.codeOf K ("lead_of", none), CC K 9)], H p.2 = some (.tbl #[])) (hS : SqL K H a (ns.map V.int)) :
    spP K (CC K) F_law [.ref a] H (fun v _ => v = .bl true) fun _ _ _ => False := by
  have h9 := hH _ List.mem_cons_self
  have h9 : H (CC K 9) = some (.tbl #[]) := h9
  refine ⟨fun x => if x = CC K 9 then none else H x, [.scr ns], .bl true, fun b o e => ?_, ⟨⟨#[], h9, by first | exact True.intro | simp [TriplesOk] | (intro z hz; cases hz)⟩, if_pos rfl⟩, .cons (.scr ?_) .nil, hl, fun v G' H' _ r => by cases r; rfl⟩
  · dsimp only at e
    by_cases z : b = CC K 9
    · rw [if_pos z] at e; cases e
    · rw [if_neg z] at e; exact e
  · have ne : ∀ u, Rd H a (.lst u) → a ≠ CC K 9 := fun u hr z => by
      rcases hr with hr | ⟨o, hr⟩ <;> (rw [z, h9] at hr; cases hr)
    rcases hS with hS | hS
    · have na := ne _ hS
      refine .inl ?_
      rcases hS with h | ⟨o, h⟩
      · exact .inl ((if_neg na).trans h)
      · exact .inr ⟨o, (if_neg na).trans h⟩
    · exact .inr hS
end TR
open PySem PySem.W PySem.Calls PyProof.Rows
theorem TR.holds_of (hl : ∀ ns : List Int, ns.length ≤ 63 → TR.F_law [.scr ns] = some (.bl true)) : PySem.Challenge.rw_tablerings_k10_whole_products_powers_and.Holds := by
  w_on; o_law
  refine HandSHeadRun.head_any (r := OpenLaw.row PySem.Challenge.rw_tablerings_k10_whole_products_powers_and) (q := TR.qv) (H := TR.hookR) (ob := TR.ob) (M := 8000) (loose := TR.names) (d := HandSHeadRun.topDef (OpenLaw.row PySem.Challenge.rw_tablerings_k10_whole_products_powers_and).prog 94) (kwd := []) TR.ob_eq
    (by kernel_rfl) (fun s => by kernel_rfl) (fun w => PySem.W.byRow2 "special-get-raises" TR.runf TR.runt w) (by kernel_rfl) (by kernel_rfl) (by kernel_rfl) (by rfl) (by first | assumption | decide +kernel) (by decide +kernel) ⟨rfl, rfl, rfl, rfl, rfl, by decide +kernel⟩ ?hw ?hc
  case hw => w_witness2
  case hc =>
    refine Att.attach_callB (l := PySem.Challenge.rw_tablerings_k10_whole_products_powers_and) (n := 63) rfl (by kernel_rfl) fun w s₀ s₁ mg mb fa o pm cd doc a vs ns G Y ho hd hcd hmg0 hobj hints hlen hbits hg => ?_
    obtain ⟨K, KX, c⟩ := Y
    have hmg : mg ("law" : PySem.Str) = some (.ref fa) := by
      have e : (HandSHeadRun.topDef (OpenLaw.row PySem.Challenge.rw_tablerings_k10_whole_products_powers_and).prog 94).name = ("law" : PySem.Str) := by kernel_rfl
      rw [← e]
      exact hmg0
    obtain ⟨f, fd, F, m, _⟩ := (TR.t_law KX G.T.g c.o).ex
    have e := hmg.symm.trans m
    cases e
    refine LamX.law_callTs (x := "_law_script") (k := 13) (CX := L2.CX0) (cs := [(He.codeOf K ("lead_of", none), TR.CC K 9)]) (fd := fd) (sp := TR.spP K (TR.CC K) TR.F_law) KX G.T.g G.T.b G.T.builtins G.T.nolimit hg ?_ ?_ ?_ G.T.bmain hobj hints (Nat.le_trans hlen (by decide)) ⟨rfl, by decide, by decide⟩ ?_ ?_ ?_ ?_
    · intro p hp
      rw [List.mem_singleton.mp hp]
      exact c.empty
    · intro p hp
      rw [List.mem_singleton.mp hp]
      exact c.out
    · intro p hp
      rw [List.mem_singleton.mp hp]
      exact PySem.W.codeHd_of_K KX c.hd
    · intro base Kb Gb tb
      have t := tb _ List.mem_cons_self
      have T : TR.Tops TR.pw w K mg base (TR.CC K) := TR.tops_of KX G.T.g c.o ⟨t.code, t.bm, t.gP⟩
      exact TR.ok_law T (TR.mids_of KX G.T.g c.o T) F
    · obtain ⟨oc, od, kV, doc, pm, an, cdv, ct, osl, rfl, _, _⟩ := F.ex
      exact fun s u => .of_eq rfl
    · exact fun H hH hS => TR.end_sp (hl ns hlen) H hH hS
    · exact fun H e s' z => z

theorem PySem.Challenge.cw_tablerings_k10_whole_products_powers_and_holds : PySem.Challenge.rw_tablerings_k10_whole_products_powers_and.Holds := by
  exact TR.holds_of fun ns _ => TR.law_true ns
