import PyProof.Rows.All
import Wide.All
import OpenK.AllK
import Wide.FinOn
import KE.KStateDown
import HandS.ForMost
import HandS.Exc
import HandS.Defaults
import HandS.Head0
import HandS.Head1
import HandS.Head2
import HandS.HeadEnd
import HandS.HeadHook1
import HandS.HeadHook2
import HandS.HeadHook3
import HandS.HeadHook4
import HandS.HeadWalk
import HandS.SlotsOwn
import PySem.Challenge.RW_ifthenbooks_k83_whole_prices
import HandS.Lambda
import HandS.Walk
import HandS.Zip
import HandS.TupAny
import HandS.Star
import HandS.IsInst
import HandS.Codes
import HandS.DictComp
import KE.DataMinMax
import KE.KEqDict
import KE.KDictOf
import KE.KDictKeyed
import HandS.SortKw
import KE.KDictList
import KE.SortKeyHeap
import HandS.ListItems
import KE.KDictCopyH
import KE.KDictPairs
import KE.GoesMore
import KE.GoesEnum
import HandS.WideBits
import HandS.TupLe
import HandS.Style
set_option Elab.async false
set_option linter.all false
set_option maxRecDepth 100000
set_option maxHeartbeats 0
namespace Pb
open PySem PySem.Spec PyProof.Rows L2
/-! ### the text by places -/
def top (i : Nat) : Stmt := PySem.Challenge.pw_ifthenbooks_k83_whole_prices.main.body.getD i (.Pass ⟨0, 0, 0, 0⟩)
abbrev sIsInteger : Stmt := top 11
abbrev sIsSet : Stmt := top 12
abbrev sIsRule : Stmt := top 13
abbrev sIsWithin : Stmt := top 14
abbrev sJoined : Stmt := top 15
abbrev sInOrder : Stmt := top 16
abbrev sSetsOf : Stmt := top 17
abbrev sClosure : Stmt := top 18
abbrev sCheckBook : Stmt := top 20
abbrev sCheckSet : Stmt := top 21
abbrev sCheckBill : Stmt := top 25
abbrev sCheckCosts : Stmt := top 26
abbrev sPaid : Stmt := top 27
abbrev sCostsFor : Stmt := top 29
abbrev sCosts : Stmt := top 30
abbrev sMarkCosts : Stmt := top 31
abbrev sBillsFor : Stmt := top 33
abbrev sBill : Stmt := top 34
abbrev sLeastBill : Stmt := top 35
abbrev sLDraw : Stmt := top 37
abbrev sLCellAt : Stmt := top 38
abbrev sLDigits : Stmt := top 39
abbrev sLTake : Stmt := top 40
abbrev sLPool : Stmt := top 41
abbrev sLPick : Stmt := top 42
abbrev sLSets : Stmt := top 43
abbrev sLWithin : Stmt := top 44
abbrev sLSet : Stmt := top 45
abbrev sLRules : Stmt := top 46
abbrev sLJoined : Stmt := top 47
abbrev sLPaid : Stmt := top 48
abbrev sLCosts : Stmt := top 49
abbrev sLCostsRight : Stmt := top 50
abbrev sLBills : Stmt := top 51
abbrev sLBillRight : Stmt := top 52
abbrev sLBillPapers : Stmt := top 53
abbrev sLCostsPapers : Stmt := top 54
abbrev sLaw : Stmt := top 55
abbrev sBookInit : Stmt := inClass (top 19) 1
abbrev sBookLen : Stmt := inClass (top 19) 3
abbrev sCostsInit : Stmt := inClass (top 28) 0
abbrev sCostsShows : Stmt := inClass (top 28) 2
abbrev sCostsIsLeast : Stmt := inClass (top 28) 3
abbrev sCostsIsPaid : Stmt := inClass (top 28) 4
abbrev sBillInit : Stmt := inClass (top 32) 0
abbrev sBillShows : Stmt := inClass (top 32) 2
abbrev sBillIsFloor : Stmt := inClass (top 32) 3
def dd_0 : He.DefD := ⟨("is_integer", none), "is_integer", "is_integer", defArgs sIsInteger, defBody sIsInteger, defScope sIsInteger, [], []⟩
def dd_1 : He.DefD := ⟨("is_set", none), "is_set", "is_set", defArgs sIsSet, defBody sIsSet, defScope sIsSet, [], []⟩
def dd_2 : He.DefD := ⟨("is_rule", none), "is_rule", "is_rule", defArgs sIsRule, defBody sIsRule, defScope sIsRule, [], []⟩
def dd_3 : He.DefD := ⟨("is_within", none), "is_within", "is_within", defArgs sIsWithin, defBody sIsWithin, defScope sIsWithin, [], []⟩
def dd_4 : He.DefD := ⟨("joined", none), "joined", "joined", defArgs sJoined, defBody sJoined, defScope sJoined, [], []⟩
def dd_5 : He.DefD := ⟨("in_order", none), "in_order", "in_order", defArgs sInOrder, defBody sInOrder, defScope sInOrder, [], []⟩
def dd_6 : He.DefD := ⟨("sets_of", none), "sets_of", "sets_of", defArgs sSetsOf, defBody sSetsOf, defScope sSetsOf, [], []⟩
def dd_7 : He.DefD := ⟨("closure", none), "closure", "closure", defArgs sClosure, defBody sClosure, defScope sClosure, [], []⟩
def dd_8 : He.DefD := ⟨("check_book", none), "check_book", "check_book", defArgs sCheckBook, defBody sCheckBook, defScope sCheckBook, [], []⟩
def dd_9 : He.DefD := ⟨("check_set", none), "check_set", "check_set", defArgs sCheckSet, defBody sCheckSet, defScope sCheckSet, [], []⟩
def dd_10 : He.DefD := ⟨("check_bill", none), "check_bill", "check_bill", defArgs sCheckBill, defBody sCheckBill, defScope sCheckBill, [], []⟩
def dd_11 : He.DefD := ⟨("check_costs", none), "check_costs", "check_costs", defArgs sCheckCosts, defBody sCheckCosts, defScope sCheckCosts, [], []⟩
def dd_12 : He.DefD := ⟨("paid", none), "paid", "paid", defArgs sPaid, defBody sPaid, defScope sPaid, [], []⟩
def dd_13 : He.DefD := ⟨("costs_for", none), "costs_for", "costs_for", defArgs sCostsFor, defBody sCostsFor, defScope sCostsFor, [], []⟩
def dd_14 : He.DefD := ⟨("costs", none), "costs", "costs", defArgs sCosts, defBody sCosts, defScope sCosts, [], []⟩
def dd_15 : He.DefD := ⟨("mark_costs", none), "mark_costs", "mark_costs", defArgs sMarkCosts, defBody sMarkCosts, defScope sMarkCosts, [], []⟩
def dd_16 : He.DefD := ⟨("bills_for", none), "bills_for", "bills_for", defArgs sBillsFor, defBody sBillsFor, defScope sBillsFor, [], []⟩
def dd_17 : He.DefD := ⟨("bill", none), "bill", "bill", defArgs sBill, defBody sBill, defScope sBill, [], []⟩
def dd_18 : He.DefD := ⟨("least_bill", none), "least_bill", "least_bill", defArgs sLeastBill, defBody sLeastBill, defScope sLeastBill, [], []⟩
def dd_19 : He.DefD := ⟨("_law_draw", none), "_law_draw", "_law_draw", defArgs sLDraw, defBody sLDraw, defScope sLDraw, [], []⟩
def dd_20 : He.DefD := ⟨("_law_cell_at", none), "_law_cell_at", "_law_cell_at", defArgs sLCellAt, defBody sLCellAt, defScope sLCellAt, [], []⟩
def dd_21 : He.DefD := ⟨("_law_digits", none), "_law_digits", "_law_digits", defArgs sLDigits, defBody sLDigits, defScope sLDigits, [], []⟩
def dd_22 : He.DefD := ⟨("_law_take", none), "_law_take", "_law_take", defArgs sLTake, defBody sLTake, defScope sLTake, [], []⟩
def dd_23 : He.DefD := ⟨("_law_pool", none), "_law_pool", "_law_pool", defArgs sLPool, defBody sLPool, defScope sLPool, [], []⟩
def dd_24 : He.DefD := ⟨("_law_pick", none), "_law_pick", "_law_pick", defArgs sLPick, defBody sLPick, defScope sLPick, [], []⟩
def dd_25 : He.DefD := ⟨("_law_sets", none), "_law_sets", "_law_sets", defArgs sLSets, defBody sLSets, defScope sLSets, [], []⟩
def dd_26 : He.DefD := ⟨("_law_within", none), "_law_within", "_law_within", defArgs sLWithin, defBody sLWithin, defScope sLWithin, [], []⟩
def dd_27 : He.DefD := ⟨("_law_set", none), "_law_set", "_law_set", defArgs sLSet, defBody sLSet, defScope sLSet, [], []⟩
def dd_28 : He.DefD := ⟨("_law_rules", none), "_law_rules", "_law_rules", defArgs sLRules, defBody sLRules, defScope sLRules, [], []⟩
def dd_29 : He.DefD := ⟨("_law_joined", none), "_law_joined", "_law_joined", defArgs sLJoined, defBody sLJoined, defScope sLJoined, [], []⟩
def dd_30 : He.DefD := ⟨("_law_paid", none), "_law_paid", "_law_paid", defArgs sLPaid, defBody sLPaid, defScope sLPaid, [], []⟩
def dd_31 : He.DefD := ⟨("_law_costs", none), "_law_costs", "_law_costs", defArgs sLCosts, defBody sLCosts, defScope sLCosts, [], []⟩
def dd_32 : He.DefD := ⟨("_law_costs_right", none), "_law_costs_right", "_law_costs_right", defArgs sLCostsRight, defBody sLCostsRight, defScope sLCostsRight, [], []⟩
def dd_33 : He.DefD := ⟨("_law_bills", none), "_law_bills", "_law_bills", defArgs sLBills, defBody sLBills, defScope sLBills, [], []⟩
def dd_34 : He.DefD := ⟨("_law_bill_right", none), "_law_bill_right", "_law_bill_right", defArgs sLBillRight, defBody sLBillRight, defScope sLBillRight, [], []⟩
def dd_35 : He.DefD := ⟨("_law_bill_papers", none), "_law_bill_papers", "_law_bill_papers", defArgs sLBillPapers, defBody sLBillPapers, defScope sLBillPapers, [], []⟩
def dd_36 : He.DefD := ⟨("_law_costs_papers", none), "_law_costs_papers", "_law_costs_papers", defArgs sLCostsPapers, defBody sLCostsPapers, defScope sLCostsPapers, [], []⟩
def dd_37 : He.DefD := ⟨("law", none), "law", "law", defArgs sLaw, defBody sLaw, defScope sLaw, [], []⟩
def dd_38 : He.DefD := ⟨("Book", some "__init__"), "__init__", "Book.__init__", defArgs sBookInit, defBody sBookInit, defScope sBookInit, [], []⟩
def dd_39 : He.DefD := ⟨("Book", some "__len__"), "__len__", "Book.__len__", defArgs sBookLen, defBody sBookLen, defScope sBookLen, [], []⟩
def dd_40 : He.DefD := ⟨("Costs", some "__init__"), "__init__", "Costs.__init__", defArgs sCostsInit, defBody sCostsInit, defScope sCostsInit, [], []⟩
def dd_41 : He.DefD := ⟨("Costs", some "shows"), "shows", "Costs.shows", defArgs sCostsShows, defBody sCostsShows, defScope sCostsShows, [], []⟩
def dd_42 : He.DefD := ⟨("Costs", some "is_least"), "is_least", "Costs.is_least", defArgs sCostsIsLeast, defBody sCostsIsLeast, defScope sCostsIsLeast, [], []⟩
def dd_43 : He.DefD := ⟨("Costs", some "is_paid"), "is_paid", "Costs.is_paid", defArgs sCostsIsPaid, defBody sCostsIsPaid, defScope sCostsIsPaid, [], []⟩
def dd_44 : He.DefD := ⟨("Bill", some "__init__"), "__init__", "Bill.__init__", defArgs sBillInit, defBody sBillInit, defScope sBillInit, [], []⟩
def dd_45 : He.DefD := ⟨("Bill", some "shows"), "shows", "Bill.shows", defArgs sBillShows, defBody sBillShows, defScope sBillShows, [], []⟩
def dd_46 : He.DefD := ⟨("Bill", some "is_floor"), "is_floor", "Bill.is_floor", defArgs sBillIsFloor, defBody sBillIsFloor, defScope sBillIsFloor, [], []⟩
def fnL0 : List He.DefD := [dd_0, dd_1, dd_2, dd_3, dd_4, dd_5, dd_6, dd_7, dd_8, dd_9, dd_10, dd_11, dd_12, dd_13, dd_14, dd_15, dd_16, dd_17, dd_18, dd_19, dd_20, dd_21, dd_22, dd_23, dd_24, dd_25, dd_26, dd_27, dd_28, dd_29]
def fnL1 : List He.DefD := [dd_30, dd_31, dd_32, dd_33, dd_34, dd_35, dd_36, dd_37, dd_38, dd_39, dd_40, dd_41, dd_42, dd_43, dd_44, dd_45, dd_46]
def fnL : List He.DefD := fnL0 ++ fnL1
def faL0 : List He.Fa := [.glo "is_integer", .glo "is_set", .glo "is_rule", .glo "is_within", .glo "joined", .glo "in_order", .glo "sets_of", .glo "closure", .glo "check_book", .glo "check_set", .glo "check_bill", .glo "check_costs", .glo "paid", .glo "costs_for", .glo "costs", .glo "mark_costs", .glo "bills_for", .glo "bill", .glo "least_bill", .glo "_law_draw", .glo "_law_cell_at", .glo "_law_digits", .glo "_law_take", .glo "_law_pool", .glo "_law_pick", .glo "_law_sets", .glo "_law_within", .glo "_law_set", .glo "_law_rules", .glo "_law_joined"]
def faL1 : List He.Fa := [.glo "_law_paid", .glo "_law_costs", .glo "_law_costs_right", .glo "_law_bills", .glo "_law_bill_right", .glo "_law_bill_papers", .glo "_law_costs_papers", .glo "law", .glo "Book", .glo "Costs", .glo "Bill", .free "isinstance", .free "int", .free "bool", .free "all", .free "zip", .free "tuple", .free "len", .free "sorted", .free "dict", .free "range", .free "max", .free "min", .free "sum", .free "any", .free "list", .free "enumerate", .free "str", .free "abs", .int "MOST_MARKS" 5]
def faL2 : List He.Fa := [.int "MOST_RULES" 16, .int "MOST_PRICE" 9, .cls "Costs", .cls "Bill", .noat "Costs" "costs", .noat "Costs" "uses", .noat "Bill" "indices", .noat "Bill" "floors", .meth "Costs" "shows", .meth "Costs" "is_least", .meth "Costs" "is_paid", .meth "Bill" "shows", .meth "Bill" "is_floor", .meth "Book" "__len__", .mkr "Book", .mkr "Costs", .mkr "Bill"]
def faL : List He.Fa := faL0 ++ faL1 ++ faL2

/-! ### the facts of Book, a class with slots -/
def slotB (K : PySem.W.Frag) (C f : Str) (i : Nat) : Bool :=
  He.eqO (PySem.W.findIn K (.ref (He.ga K C)) f) (some (some (.ref (He.ma K (He.ga K C) f)))) &&
  (He.eqO (PySem.W.specialIn K (.ref (He.ma K (He.ga K C) f)) "__get__") (some (some (.builtin "member_descriptor.__get__"))) &&
  (decide (PySem.W.takesIn K (.ref (He.ma K (He.ga K C) f)) = some true) &&
  (decide (PySem.W.typeIn K (.ref (He.ma K (He.ga K C) f)) = some (.type "member_descriptor")) &&
  decide (PySem.W.slotIn K (He.ma K (He.ga K C) f) (He.ga K C) = some i))))
def sclsB (K : PySem.W.Frag) (C : Str) : Bool :=
  PySem.W.plainGet K (He.ga K C) Str.empty && (PySem.W.isClsIn K (He.ga K C) && (PySem.W.plainOver K (He.ga K C) &&
  (He.eqO (PySem.W.findIn K (.ref (He.ga K C)) "__setattr__") (some (some (.builtin "object.__setattr__"))) &&
  (He.eqO (PySem.W.findIn K (.ref (He.ga K C)) "__class__") (some (some (.builtin "object.__class__"))) &&
  (He.eqO (PySem.W.specialIn K (.builtin "object.__class__") "__get__") (some (some (.builtin "getset_descriptor.__get__"))) &&
  (decide (PySem.W.takesIn K (.builtin "object.__class__") = some true) &&
  (decide (PySem.W.mroIn K (He.ga K C) (.type "object") = some true) &&
  decide (PySem.W.kitOne K (.ref (He.ga K C)) (.ref (He.ga K C)) = some true))))))))
def wordsB (K : PySem.W.Frag) : Bool := match PySem.W.nsIn K mainGlobals "WORDS" with
  | some (some (.ref a)) => (match K.lookup a with
    | some ⟨.type c, none, .seq its _, _⟩ => decide (c = "tuple") && He.relAll [.str "sum", .str "most"] its.toList
    | _ => false)
  | _ => false
def exB (K : PySem.W.Frag) : Bool := sclsB K "Book" && (slotB K "Book" "marks" 0 && (slotB K "Book" "rules" 1 && wordsB K))
def tfL : List He.Defn := [("in_order", none), ("_law_sets", none)]
end Pb
set_option Elab.async false
set_option linter.all false
set_option maxRecDepth 100000
set_option maxHeartbeats 1000000
namespace Pb
open PySem PySem.Spec PyProof.Rows L2
/-! ### what stays: all that is tracked but the tables; the tables stay tables -/
abbrev Tb := List (Addr × Str)
def Ex (T : Tb) (H H' : Hp) : Prop := (∀ b o, H b = some o → (∀ ps, o ≠ .tbl ps) → H' b = some o) ∧ (LamX.Tabs T H → LamX.Tabs T H')
section
variable {T : Tb} {H H1 H2 H3 : Hp} {p a : Addr} {o : HO}
theorem Ex.refl (T : Tb) (H : Hp) : Ex T H H := ⟨fun _ _ h _ => h, fun h => h⟩
theorem Ex.trans (x : Ex T H H1) (y : Ex T H1 H2) : Ex T H H2 := ⟨fun b o h n => y.1 b o (x.1 b o h n) n, fun h => y.2 (x.2 h)⟩
theorem Ex.same (e : ∀ b o, H b = some o → H' b = some o) : Ex T H H' := ⟨fun b o h _ => e b o h, fun h => h.ext e⟩
theorem Ex.new (h : H p = none) : Ex T H (upd H p o) := Ex.same fun b u e => by rw [upd_ne (ne_of_none e h)]; exact e
/-- not known, or a table -/
def NT (H : Hp) (p : Addr) : Prop := ∀ o, H p = some o → ∃ ps, o = .tbl ps
theorem NT.of (h : H p = none) : NT H p := fun o e => by rw [h] at e; cases e
theorem NT.back (x : Ex T H H1) (h : NT H1 p) : NT H p := fun o e => by
  cases o with
  | tbl ps => exact ⟨ps, rfl⟩
  | _ =>
    obtain ⟨ps, q⟩ := h _ (x.1 p _ e (by intro ps z; cases z))
    cases q
theorem NT.new (x : Ex T H H1) (h : H1 p = none) : NT H p := NT.back x (NT.of h)
/-- what may be written: no table, no code object -/
def Wr : HO → Prop
  | .lst _ => True
  | .dK _ => True
  | .dT _ => True
  | .ins _ _ _ => True
  | .own _ => True
  | .frz _ _ => True
  | _ => False
theorem Wr.ntb {o : HO} (h : Wr o) (ps : Array Value) : o ≠ .tbl ps := fun z => by rw [z] at h; exact h
theorem Ex.mut {o1 : HO} (x : Ex T H H1) (n : NT H p) (h1 : H1 p = some o1) (w : Wr o1) : Ex T H (upd H1 p o) := by
  refine ⟨fun b u e nt => ?_, fun t => ?_⟩
  · have hb : b ≠ p := fun z => by
      rw [z] at e
      obtain ⟨ps, q⟩ := n _ e
      exact nt ps q
    rw [upd_ne hb]
    exact x.1 b u e nt
  · have t1 := x.2 t
    intro q hq
    obtain ⟨ps, a1, a2, a3⟩ := t1 q hq
    refine ⟨ps, ?_, a2, fun pos cv hc => ?_⟩
    · rw [upd_ne (ne_of a1 h1 (fun z => w.ntb ps z.symm))]
      exact a1
    · obtain ⟨c, e1, e2⟩ := a3 pos cv hc
      refine ⟨c, e1, ?_⟩
      rw [upd_ne (ne_of e2 h1 (fun z => ?_))]
      · exact e2
      · rw [← z] at w
        exact w
theorem Ex.at_ (x : Ex T H H1) (h : H a = some o) (n : ∀ ps, o ≠ .tbl ps) : H1 a = some o := x.1 a o h n
theorem Ex.tup {xs : List V} (x : Ex T H H1) (h : H a = some (.tup xs)) : H1 a = some (.tup xs) := x.1 a _ h fun _ z => by cases z
theorem Ex.lst {xs : List V} (x : Ex T H H1) (h : H a = some (.lst xs)) : H1 a = some (.lst xs) := x.1 a _ h fun _ z => by cases z
theorem Ex.dK {xs : List (Key × V)} (x : Ex T H H1) (h : H a = some (.dK xs)) : H1 a = some (.dK xs) := x.1 a _ h fun _ z => by cases z
theorem Ex.dT {xs : List (List Key × V)} (x : Ex T H H1) (h : H a = some (.dT xs)) : H1 a = some (.dT xs) := x.1 a _ h fun _ z => by cases z
theorem Ex.ins {C d : Addr} {xs : List (Str × V)} (x : Ex T H H1) (h : H a = some (.ins C d xs)) : H1 a = some (.ins C d xs) := x.1 a _ h fun _ z => by cases z
theorem Ex.frz {ob : Obj} {u : HO} (x : Ex T H H1) (h : H a = some (.frz ob u)) : H1 a = some (.frz ob u) := x.1 a _ h fun _ z => by cases z
theorem Ex.rd {u : HO} (x : Ex T H H1) (h : Rd H a u) (n : ∀ ps, u ≠ .tbl ps) : Rd H1 a u := by
  rcases h with h | ⟨ob, h⟩
  · exact .inl (x.1 a _ h n)
  · exact .inr ⟨ob, x.frz h⟩
theorem Ex.sqL {K : PySem.W.Frag} {xs : List V} (x : Ex T H H1) (h : SqL K H a xs) : SqL K H1 a xs := by
  rcases h with h | h
  · exact .inl (x.rd h fun _ z => by cases z)
  · exact .inr h
theorem Ex.sqT {K : PySem.W.Frag} {xs : List V} (x : Ex T H H1) (h : SqT K H a xs) : SqT K H1 a xs := by
  rcases h with h | h
  · exact .inl (x.rd h fun _ z => by cases z)
  · exact .inr h
/-- a new object -/
theorem Ex.push (x : Ex T H H1) (h : H1 p = none) : Ex T H (upd H1 p o) := x.trans (Ex.new h)
end
/-- a statement of the heap that stays -/
def Stb (T : Tb) (P : Hp → Prop) : Prop := ∀ H H', Ex T H H' → P H → P H'
end Pb
set_option Elab.async false
set_option linter.all false
set_option maxRecDepth 100000
set_option maxHeartbeats 1000000
namespace Pb
open PySem PySem.Spec PyProof.Rows L2
/-! ### tuples stay -/
def Im (H H' : Hp) : Prop := ∀ b xs, H b = some (.tup xs) → H' b = some (.tup xs)
section
variable {T : Tb} {H H1 H2 : Hp} {p a : Addr} {o : HO}
theorem Im.refl (H : Hp) : Im H H := fun _ _ h => h
theorem Im.trans (x : Im H H1) (y : Im H1 H2) : Im H H2 := fun b xs h => y b xs (x b xs h)
theorem Ex.im (x : Ex T H H1) : Im H H1 := fun b xs h => x.tup h
def NoTup : HO → Prop
  | .tup _ => False
  | _ => True
theorem Im.mut {o1 : HO} (h : H p = some o1) (n : NoTup o1) : Im H (upd H p o) := fun b xs e => by
  rw [upd_ne]
  · exact e
  · intro z
    rw [z, h] at e
    cases e
    exact n
theorem Im.new (h : H p = none) : Im H (upd H p o) := fun b xs e => by
  rw [upd_ne (ne_of_none e h)]
  exact e
end
/-! ### what evaluates to what -/
def Ev (T : Tb) (te : TE) (σ : L2.St) (H : Hp) (P : V → Hp → Prop) : Prop := ∀ H1, Ex T H H1 → ∀ Q : VK, (∀ v H2, Ex T H1 H2 → P v H2 → Q v H2) → te σ H1 Q
def EvT (T : Tb) (tt : TT) (σ : L2.St) (H : Hp) (b : Bool) : Prop := ∀ H1, Ex T H H1 → ∀ Q : Bool → Hp → Prop, (∀ H2, Ex T H1 H2 → Q b H2) → tt σ H1 Q
theorem evt_yes {T : Tb} {σ : L2.St} {H : Hp} : EvT T tYes σ H true := fun H1 _ _ q => q H1 (Ex.refl T H1)
theorem Paired.imp {α β : Type} {F G : α → β → Prop} (f : ∀ a b, F a b → G a b) : ∀ {l : List α} {m : List β}, Paired F l m → Paired G l m
  | _, _, .nil => .nil
  | _, _, .cons h t => .cons (f _ _ h) (Paired.imp f t)
theorem take_snoc {α : Type} {ds : List α} {i : Nat} {d : α} (h : ds[i]? = some d) : ds.take (i + 1) = ds.take i ++ [d] := by
  rw [List.take_add_one, h]
  rfl
theorem filter_snoc_t {α : Type} {l : List α} {d : α} {f : α → Bool} (h : f d = true) : (l ++ [d]).filter f = l.filter f ++ [d] := by
  rw [List.filter_append, List.filter_cons, if_pos h]
  rfl
theorem filter_snoc_f {α : Type} {l : List α} {d : α} {f : α → Bool} (h : f d = false) : (l ++ [d]).filter f = l.filter f := by
  rw [List.filter_append, List.filter_cons, if_neg (by rw [h]; decide)]
  simp
section
variable {T : Tb} {J : It} {n : Nat} {G : Hp → Prop} {Y : Nat → Hp → V → Hp → Prop} {g : TG} {tt : TT} {te : TE} {vs : List Nat} {σ : L2.St} {H1 : Hp} {D : Addr} {Qd : Hp → Prop} {α : Type} {ds : List α}
/-- a list comprehension over the things ds: those with f, each as P says -/
theorem lc_ev (w : Walk J n G Y) (hn : ds.length = n) (hz : n ≤ 10000) (hD : H1 D = none) (hG : ∀ H, Ex T H1 H → G H) (hY : ∀ i H x H', i < n → Ex T H1 H → Y i H x H' → Ex T H H')
    (f : α → Bool) (P : α → V → Hp → Prop) (stP : ∀ d v H H', Im H H' → P d v H → P d v H')
    (hs : ∀ i d x H H', ds[i]? = some d → Ex T H1 H → Ex T H1 H' → Y i H x H' → ∀ R : L2.St → Hp → Prop, (∀ σ2, wipe σ2 vs = wipe σ vs → EvT T tt σ2 H' (f d) → (f d = true → Ev T te σ2 H' (P d)) → R σ2 H') → g x (wipe σ vs) H' R)
    (hq : ∀ acc H', Ex T H1 H' → H' D = some (.lst acc) → Paired (fun d v => P d v H') (ds.filter f) acc → Qd H') :
    ∃ W : Nat → Nat → Hp → Prop, (∃ m, W 0 m (upd H1 D (.lst []))) ∧ ∀ i m H, W i m H →
      (J.stop i H ∧ Qd H) ∨ (J.go i H ∧ ∃ Nx : Hp → Prop, (∀ H', Nx H' → ∃ m', m' < m ∧ W (i + 1) m' H') ∧ ∀ x H', J.yld i H x H' → g x (wipe σ vs) H' fun σ2 H2 => wipe σ2 vs = wipe σ vs ∧ tt σ2 H2 fun b H3 =>
        if b = true then te σ2 H3 fun y H4 => ∃ acc, H4 D = some (.lst acc) ∧ acc.length < sizeLine ∧ Nx (upd H4 D (.lst (acc ++ [y]))) else Nx H3) := by
  subst hn
  refine lc_it w (fun i H => Ex T H1 H ∧ ∃ acc, H D = some (.lst acc) ∧ Paired (fun d v => P d v H) ((ds.take i).filter f) acc) ⟨Ex.new hD, [], upd_same, by rw [List.take_zero]; exact .nil⟩ (fun i H _ p => hG H p.1) ?_ ?_
  · rintro i x H H' hi ⟨e, acc, hd, hp⟩ y
    have e' : Ex T H H' := hY i H x H' hi e y
    have hdi : ds[i]? = some ds[i] := List.getElem?_eq_getElem hi
    refine hs i ds[i] x H H' hdi e (e.trans e') y _ fun σ2 hw ht he => ⟨hw, ?_⟩
    refine ht H' (Ex.refl T H') _ fun H3 e3 => ?_
    have hl : acc.length ≤ i := by
      have h1 := Paired.length hp
      have h2 := List.length_filter_le f (ds.take i)
      rw [List.length_take] at h2
      omega
    cases hf : f ds[i] with
    | false =>
      refine iteF ⟨(e.trans e').trans e3, acc, e3.lst (e'.lst hd), ?_⟩
      rw [take_snoc hdi, filter_snoc_f hf]
      exact Paired.imp (fun d v h => stP d v _ _ (e'.trans e3).im h) hp
    | true =>
      refine iteT (he hf H3 e3 _ fun v H4 e4 hv => ?_)
      have hd4 := e4.lst (e3.lst (e'.lst hd))
      refine ⟨acc, hd4, Nat.lt_of_lt_of_le (by omega) (by decide : 10001 ≤ sizeLine), Ex.mut (((e.trans e').trans e3).trans e4) (NT.of hD) hd4 trivial, _, upd_same, ?_⟩
      have im : Im H4 (upd H4 D (.lst (acc ++ [v]))) := Im.mut hd4 trivial
      rw [take_snoc hdi, filter_snoc_t hf]
      exact Paired.snoc (Paired.imp (fun d v h => stP d v _ _ (((e'.trans e3).trans e4).im.trans im) h) hp) (stP _ _ _ _ im hv)
  · rintro H ⟨e, acc, hd, hp⟩
    rw [List.take_length] at hp
    exact hq acc H e hd hp
end
end Pb
set_option Elab.async false
set_option linter.all false
set_option maxRecDepth 100000
set_option maxHeartbeats 1000000
namespace Pb
open PySem PySem.Spec PyProof.Rows L2
theorem clsOf {K : PySem.W.Frag} {x : Str} (h : (He.Fa.cls x).ok K = true) : Cls K (He.ga K x) := by
  obtain ⟨h1, h2⟩ := He.ba h
  obtain ⟨h3, h4⟩ := He.ba h2
  obtain ⟨h5, h6⟩ := He.ba h4
  exact ⟨h1, h3, h5, He.eqO_ok h6⟩
theorem methOf {K : PySem.W.Frag} {x m : Str} (h : (He.Fa.meth x m).ok K = true) : Meth K (He.ga K x) m (He.ma K (He.ga K x) m) := by
  obtain ⟨h1, h2⟩ := He.ba h
  obtain ⟨h3, h4⟩ := He.ba h2
  exact ⟨He.eqO_ok h1, h3, h4⟩
theorem mkOf {K : PySem.W.Frag} {x : Str} (h : (He.Fa.mkr x).ok K = true) : Mk K (He.ga K x) (He.ma K (He.ga K x) "__init__") := by
  obtain ⟨h1, h2⟩ := He.ba h
  obtain ⟨h3, h4⟩ := He.ba h2
  obtain ⟨h5, h6⟩ := He.ba h4
  exact ⟨h1, He.eqO_ok h3, h5, h6⟩
/-- all that the head tells -/
structure Gx (K : PySem.W.Frag) (mg : Str → Option Value) : Prop where
  d : He.SaysD faL fnL K
  ex : exB K = true
  glo : ∀ (i : Nat) {x : Str}, faL[i]? = some (.glo x) → mg x = some (.ref (He.ga K x))
  free : ∀ (i : Nat) {x : Str}, faL[i]? = some (.free x) → mg x = none
  int : ∀ (i : Nat) {x : Str} {n : Int}, faL[i]? = some (.int x n) → ∃ t, mg x = some (.int n t)
  words : ∃ a, mg "WORDS" = some (.ref a) ∧ ∀ H, SqT K H a [.str "sum", .str "most"]
section
variable {w : World} {K : PySem.W.Frag} {mg : Str → Option Value}
theorem wordsOf {h : Heap} (X : K.In h) (G : h.Ns mainGlobals mg) (c : wordsB K = true) : ∃ a, mg "WORDS" = some (.ref a) ∧ ∀ H, SqT K H a [.str "sum", .str "most"] := by
  unfold wordsB at c
  cases e : PySem.W.nsIn K mainGlobals "WORDS" with
  | none => rw [e] at c; cases c
  | some r =>
    rw [e] at c
    cases r with
    | none => cases c
    | some v =>
      cases v with
      | ref a =>
        dsimp only at c
        cases q : K.lookup a with
        | none => rw [q] at c; cases c
        | some o =>
          obtain ⟨oc, od, dt, sl⟩ := o
          rw [q] at c
          cases oc with
          | type T =>
            cases od with
            | none =>
              cases dt with
              | seq its n =>
                obtain ⟨c1, c2⟩ := He.ba c
                have r := He.relAll_ok c2
                have hl := r.length
                refine ⟨a, PySem.W.mg_of X G e, fun H => .inr ⟨_, its, n, q, congrArg Value.type (of_decide_eq_true c1), rfl, ?_, r⟩⟩
                have e2 : its.size = 2 := by simpa using hl.symm
                rw [e2]
                decide
              | _ => cases c
            | some x => cases dt <;> cases c
          | _ => cases od <;> cases dt <;> cases c
      | _ => cases c
theorem gxOf {h : Heap} (X : K.In h) (G : h.Ns mainGlobals mg) (d : He.SaysD faL fnL K) (ex : exB K = true) : Gx K mg :=
  ⟨d, ex, fun i {_} e => He.glo_ok X G (d.fact i e), fun i {_} e => He.free_ok X G (d.fact i e), fun i {_ _} e => He.int_ok X G (d.fact i e),
    wordsOf X G (He.ba (He.ba (He.ba ex).2).2).2⟩
theorem Gx.g_is_integer (G : Gx K mg) : mg "is_integer" = some (.ref (He.ga K "is_integer")) := G.glo 0 rfl
theorem Gx.g_is_set (G : Gx K mg) : mg "is_set" = some (.ref (He.ga K "is_set")) := G.glo 1 rfl
theorem Gx.g_is_rule (G : Gx K mg) : mg "is_rule" = some (.ref (He.ga K "is_rule")) := G.glo 2 rfl
theorem Gx.g_is_within (G : Gx K mg) : mg "is_within" = some (.ref (He.ga K "is_within")) := G.glo 3 rfl
theorem Gx.g_joined (G : Gx K mg) : mg "joined" = some (.ref (He.ga K "joined")) := G.glo 4 rfl
theorem Gx.g_in_order (G : Gx K mg) : mg "in_order" = some (.ref (He.ga K "in_order")) := G.glo 5 rfl
theorem Gx.g_sets_of (G : Gx K mg) : mg "sets_of" = some (.ref (He.ga K "sets_of")) := G.glo 6 rfl
theorem Gx.g_closure (G : Gx K mg) : mg "closure" = some (.ref (He.ga K "closure")) := G.glo 7 rfl
theorem Gx.g_check_book (G : Gx K mg) : mg "check_book" = some (.ref (He.ga K "check_book")) := G.glo 8 rfl
theorem Gx.g_check_set (G : Gx K mg) : mg "check_set" = some (.ref (He.ga K "check_set")) := G.glo 9 rfl
theorem Gx.g_check_bill (G : Gx K mg) : mg "check_bill" = some (.ref (He.ga K "check_bill")) := G.glo 10 rfl
theorem Gx.g_check_costs (G : Gx K mg) : mg "check_costs" = some (.ref (He.ga K "check_costs")) := G.glo 11 rfl
theorem Gx.g_paid (G : Gx K mg) : mg "paid" = some (.ref (He.ga K "paid")) := G.glo 12 rfl
theorem Gx.g_costs_for (G : Gx K mg) : mg "costs_for" = some (.ref (He.ga K "costs_for")) := G.glo 13 rfl
theorem Gx.g_costs (G : Gx K mg) : mg "costs" = some (.ref (He.ga K "costs")) := G.glo 14 rfl
theorem Gx.g_mark_costs (G : Gx K mg) : mg "mark_costs" = some (.ref (He.ga K "mark_costs")) := G.glo 15 rfl
theorem Gx.g_bills_for (G : Gx K mg) : mg "bills_for" = some (.ref (He.ga K "bills_for")) := G.glo 16 rfl
theorem Gx.g_bill (G : Gx K mg) : mg "bill" = some (.ref (He.ga K "bill")) := G.glo 17 rfl
theorem Gx.g_least_bill (G : Gx K mg) : mg "least_bill" = some (.ref (He.ga K "least_bill")) := G.glo 18 rfl
theorem Gx.g_law_draw (G : Gx K mg) : mg "_law_draw" = some (.ref (He.ga K "_law_draw")) := G.glo 19 rfl
theorem Gx.g_law_cell_at (G : Gx K mg) : mg "_law_cell_at" = some (.ref (He.ga K "_law_cell_at")) := G.glo 20 rfl
theorem Gx.g_law_digits (G : Gx K mg) : mg "_law_digits" = some (.ref (He.ga K "_law_digits")) := G.glo 21 rfl
theorem Gx.g_law_take (G : Gx K mg) : mg "_law_take" = some (.ref (He.ga K "_law_take")) := G.glo 22 rfl
theorem Gx.g_law_pool (G : Gx K mg) : mg "_law_pool" = some (.ref (He.ga K "_law_pool")) := G.glo 23 rfl
theorem Gx.g_law_pick (G : Gx K mg) : mg "_law_pick" = some (.ref (He.ga K "_law_pick")) := G.glo 24 rfl
theorem Gx.g_law_sets (G : Gx K mg) : mg "_law_sets" = some (.ref (He.ga K "_law_sets")) := G.glo 25 rfl
theorem Gx.g_law_within (G : Gx K mg) : mg "_law_within" = some (.ref (He.ga K "_law_within")) := G.glo 26 rfl
theorem Gx.g_law_set (G : Gx K mg) : mg "_law_set" = some (.ref (He.ga K "_law_set")) := G.glo 27 rfl
theorem Gx.g_law_rules (G : Gx K mg) : mg "_law_rules" = some (.ref (He.ga K "_law_rules")) := G.glo 28 rfl
theorem Gx.g_law_joined (G : Gx K mg) : mg "_law_joined" = some (.ref (He.ga K "_law_joined")) := G.glo 29 rfl
theorem Gx.g_law_paid (G : Gx K mg) : mg "_law_paid" = some (.ref (He.ga K "_law_paid")) := G.glo 30 rfl
theorem Gx.g_law_costs (G : Gx K mg) : mg "_law_costs" = some (.ref (He.ga K "_law_costs")) := G.glo 31 rfl
theorem Gx.g_law_costs_right (G : Gx K mg) : mg "_law_costs_right" = some (.ref (He.ga K "_law_costs_right")) := G.glo 32 rfl
theorem Gx.g_law_bills (G : Gx K mg) : mg "_law_bills" = some (.ref (He.ga K "_law_bills")) := G.glo 33 rfl
theorem Gx.g_law_bill_right (G : Gx K mg) : mg "_law_bill_right" = some (.ref (He.ga K "_law_bill_right")) := G.glo 34 rfl
theorem Gx.g_law_bill_papers (G : Gx K mg) : mg "_law_bill_papers" = some (.ref (He.ga K "_law_bill_papers")) := G.glo 35 rfl
theorem Gx.g_law_costs_papers (G : Gx K mg) : mg "_law_costs_papers" = some (.ref (He.ga K "_law_costs_papers")) := G.glo 36 rfl
theorem Gx.g_law (G : Gx K mg) : mg "law" = some (.ref (He.ga K "law")) := G.glo 37 rfl
theorem Gx.g_Book (G : Gx K mg) : mg "Book" = some (.ref (He.ga K "Book")) := G.glo 38 rfl
theorem Gx.g_Costs (G : Gx K mg) : mg "Costs" = some (.ref (He.ga K "Costs")) := G.glo 39 rfl
theorem Gx.g_Bill (G : Gx K mg) : mg "Bill" = some (.ref (He.ga K "Bill")) := G.glo 40 rfl
theorem Gx.b_isinstance (G : Gx K mg) : mg "isinstance" = none := G.free 41 rfl
theorem Gx.b_int (G : Gx K mg) : mg "int" = none := G.free 42 rfl
theorem Gx.b_bool (G : Gx K mg) : mg "bool" = none := G.free 43 rfl
theorem Gx.b_all (G : Gx K mg) : mg "all" = none := G.free 44 rfl
theorem Gx.b_zip (G : Gx K mg) : mg "zip" = none := G.free 45 rfl
theorem Gx.b_tuple (G : Gx K mg) : mg "tuple" = none := G.free 46 rfl
theorem Gx.b_len (G : Gx K mg) : mg "len" = none := G.free 47 rfl
theorem Gx.b_sorted (G : Gx K mg) : mg "sorted" = none := G.free 48 rfl
theorem Gx.b_dict (G : Gx K mg) : mg "dict" = none := G.free 49 rfl
theorem Gx.b_range (G : Gx K mg) : mg "range" = none := G.free 50 rfl
theorem Gx.b_max (G : Gx K mg) : mg "max" = none := G.free 51 rfl
theorem Gx.b_min (G : Gx K mg) : mg "min" = none := G.free 52 rfl
theorem Gx.b_sum (G : Gx K mg) : mg "sum" = none := G.free 53 rfl
theorem Gx.b_any (G : Gx K mg) : mg "any" = none := G.free 54 rfl
theorem Gx.b_list (G : Gx K mg) : mg "list" = none := G.free 55 rfl
theorem Gx.b_enumerate (G : Gx K mg) : mg "enumerate" = none := G.free 56 rfl
theorem Gx.b_str (G : Gx K mg) : mg "str" = none := G.free 57 rfl
theorem Gx.b_abs (G : Gx K mg) : mg "abs" = none := G.free 58 rfl
theorem Gx.c_most_marks (G : Gx K mg) : ∃ t, mg "MOST_MARKS" = some (.int 5 t) := G.int 59 rfl
theorem Gx.c_most_rules (G : Gx K mg) : ∃ t, mg "MOST_RULES" = some (.int 16 t) := G.int 60 rfl
theorem Gx.c_most_price (G : Gx K mg) : ∃ t, mg "MOST_PRICE" = some (.int 9 t) := G.int 61 rfl
theorem Gx.cls_Costs (G : Gx K mg) : Cls K (He.ga K "Costs") := clsOf (G.d.fact 62 (f := .cls "Costs") rfl)
theorem Gx.cls_Bill (G : Gx K mg) : Cls K (He.ga K "Bill") := clsOf (G.d.fact 63 (f := .cls "Bill") rfl)
theorem Gx.na_costs (G : Gx K mg) : NoAttr K (He.ga K "Costs") "costs" := He.eqO_ok (G.d.fact 64 (f := .noat "Costs" "costs") rfl)
theorem Gx.na_uses (G : Gx K mg) : NoAttr K (He.ga K "Costs") "uses" := He.eqO_ok (G.d.fact 65 (f := .noat "Costs" "uses") rfl)
theorem Gx.na_indices (G : Gx K mg) : NoAttr K (He.ga K "Bill") "indices" := He.eqO_ok (G.d.fact 66 (f := .noat "Bill" "indices") rfl)
theorem Gx.na_floors (G : Gx K mg) : NoAttr K (He.ga K "Bill") "floors" := He.eqO_ok (G.d.fact 67 (f := .noat "Bill" "floors") rfl)
theorem Gx.me_Costs_shows (G : Gx K mg) : Meth K (He.ga K "Costs") "shows" (He.ma K (He.ga K "Costs") "shows") := methOf (G.d.fact 68 (f := .meth "Costs" "shows") rfl)
theorem Gx.me_Costs_is_least (G : Gx K mg) : Meth K (He.ga K "Costs") "is_least" (He.ma K (He.ga K "Costs") "is_least") := methOf (G.d.fact 69 (f := .meth "Costs" "is_least") rfl)
theorem Gx.me_Costs_is_paid (G : Gx K mg) : Meth K (He.ga K "Costs") "is_paid" (He.ma K (He.ga K "Costs") "is_paid") := methOf (G.d.fact 70 (f := .meth "Costs" "is_paid") rfl)
theorem Gx.me_Bill_shows (G : Gx K mg) : Meth K (He.ga K "Bill") "shows" (He.ma K (He.ga K "Bill") "shows") := methOf (G.d.fact 71 (f := .meth "Bill" "shows") rfl)
theorem Gx.me_Bill_is_floor (G : Gx K mg) : Meth K (He.ga K "Bill") "is_floor" (He.ma K (He.ga K "Bill") "is_floor") := methOf (G.d.fact 72 (f := .meth "Bill" "is_floor") rfl)
theorem Gx.me_Book_len (G : Gx K mg) : Meth K (He.ga K "Book") "__len__" (He.ma K (He.ga K "Book") "__len__") := methOf (G.d.fact 73 (f := .meth "Book" "__len__") rfl)
theorem Gx.mk_Book (G : Gx K mg) : Mk K (He.ga K "Book") (He.ma K (He.ga K "Book") "__init__") := mkOf (G.d.fact 74 (f := .mkr "Book") rfl)
theorem Gx.mk_Costs (G : Gx K mg) : Mk K (He.ga K "Costs") (He.ma K (He.ga K "Costs") "__init__") := mkOf (G.d.fact 75 (f := .mkr "Costs") rfl)
theorem Gx.mk_Bill (G : Gx K mg) : Mk K (He.ga K "Bill") (He.ma K (He.ga K "Bill") "__init__") := mkOf (G.d.fact 76 (f := .mkr "Bill") rfl)
/-! ### Book -/
theorem Gx.sclsB (G : Gx K mg) : SlX.SCls K (He.ga K "Book") := by
  obtain ⟨h1, h⟩ := He.ba (He.ba G.ex).1
  obtain ⟨h2, h⟩ := He.ba h
  obtain ⟨h3, h⟩ := He.ba h
  obtain ⟨h4, h⟩ := He.ba h
  exact ⟨h1, h2, h3, He.eqO_ok h4⟩
theorem Gx.sisiB (G : Gx K mg) : SlX.SIsi K (He.ga K "Book") := by
  obtain ⟨h1, h⟩ := He.ba (He.ba G.ex).1
  obtain ⟨h2, h⟩ := He.ba h
  obtain ⟨h3, h⟩ := He.ba h
  obtain ⟨h4, h⟩ := He.ba h
  obtain ⟨h5, h⟩ := He.ba h
  obtain ⟨h6, h⟩ := He.ba h
  obtain ⟨h7, h⟩ := He.ba h
  obtain ⟨h8, h⟩ := He.ba h
  exact ⟨He.eqO_ok h5, He.eqO_ok h6, of_decide_eq_true h7, of_decide_eq_true h8⟩
theorem Gx.kitB (G : Gx K mg) : PySem.W.kitOne K (.ref (He.ga K "Book")) (.ref (He.ga K "Book")) = some true := by
  obtain ⟨h1, h⟩ := He.ba (He.ba G.ex).1
  obtain ⟨h2, h⟩ := He.ba h
  obtain ⟨h3, h⟩ := He.ba h
  obtain ⟨h4, h⟩ := He.ba h
  obtain ⟨h5, h⟩ := He.ba h
  obtain ⟨h6, h⟩ := He.ba h
  obtain ⟨h7, h⟩ := He.ba h
  obtain ⟨h8, h⟩ := He.ba h
  exact of_decide_eq_true h
theorem slotOf {C f : Str} {i : Nat} (hi : i < 1000) (h : slotB K C f i = true) : SlX.Slot1 K (He.ga K C) f (He.ma K (He.ga K C) f) i := by
  obtain ⟨h1, h⟩ := He.ba h
  obtain ⟨h2, h⟩ := He.ba h
  obtain ⟨h3, h⟩ := He.ba h
  obtain ⟨h4, h⟩ := He.ba h
  exact ⟨He.eqO_ok h1, He.eqO_ok h2, of_decide_eq_true h3, of_decide_eq_true h4, of_decide_eq_true h, hi⟩
theorem Gx.slM (G : Gx K mg) : SlX.Slot1 K (He.ga K "Book") "marks" (He.ma K (He.ga K "Book") "marks") 0 := slotOf (by decide) (He.ba (He.ba G.ex).2).1
theorem Gx.slR (G : Gx K mg) : SlX.Slot1 K (He.ga K "Book") "rules" (He.ma K (He.ga K "Book") "rules") 1 := slotOf (by decide) (He.ba (He.ba (He.ba G.ex).2).2).1
end
/-! ### a def's promise from its body -/
section
variable {P : Program} {w : World} {K : PySem.W.Frag} {mg : Str → Option Value} {base : Heap}
theorem calOf (G : Gx K mg) {x : Str} {st : Stmt} {N ps : List Str} {k : Nat} {sp : Sp} (i : Nat) (hi : fnL[i]? = some ⟨(x, none), x, x, defArgs st, defBody st, defScope st, [], []⟩) (hj : faL[i]? = some (.glo x)) (S : FnScope N ps (defScope st))
    (hb : ∀ (kV doc pm : Value) (an : Option Addr) (cdv ct : Value) (us : List Value), us.length = ps.length → bindArgs (PySem.W.fnOf x x (defArgs st) (defBody st) (defScope st) .none kV doc pm an cdv ct) ⟨us, []⟩ = pure (ps.zip us)) (len : ∀ vs H Q E, sp vs H Q E → vs.length = ps.length)
    (hbody : ∀ (f : Addr) (cdv : Value) (A : Around) (outer : List Env) (s : Shared) (H : Hp) (vs : List V) (Q : VK) (E : XK), Room k (A.deeper (envOfC x (defScope st) s.heap.objs.size f cdv)) → sp vs H Q E →
      ∃ t, PSs (cxOf C8.CX0 P w K mg base N x (defScope st) f cdv A outer s H E).nox (defBody st) t ∧ t { nx := fun _ H' => Q .non H', rt := Q } (start N vs) H) : C8.Cal P w K mg base (k + 1) x sp [] := by
  obtain ⟨fd, F⟩ := G.d.def_ i hi
  exact ⟨_, fd, ps, [], F.ok S len (fun cdv A outer s H vs Q E hr h => let ⟨t, h1, h2⟩ := hbody _ cdv A outer s H vs Q E hr h; ⟨t, h1.nox, h2⟩), G.glo i hj, F.kp, F.bindsN hb, .nil⟩
/-- .. of a method, as it stands -/
theorem fnOf {C m q : Str} {st : Stmt} {N ps : List Str} {k : Nat} {sp : Sp} (G : Gx K mg) (i : Nat) (hi : fnL[i]? = some ⟨(C, some m), m, q, defArgs st, defBody st, defScope st, [], []⟩) (S : FnScope N ps (defScope st))
    (hb : ∀ (kV doc pm : Value) (an : Option Addr) (cdv ct : Value) (us : List Value), us.length = ps.length → bindArgs (PySem.W.fnOf m q (defArgs st) (defBody st) (defScope st) .none kV doc pm an cdv ct) ⟨us, []⟩ = pure (ps.zip us)) (len : ∀ vs H Q E, sp vs H Q E → vs.length = ps.length)
    (hbody : ∀ (f : Addr) (cdv : Value) (A : Around) (outer : List Env) (s : Shared) (H : Hp) (vs : List V) (Q : VK) (E : XK), Room k (A.deeper (envOfC q (defScope st) s.heap.objs.size f cdv)) → sp vs H Q E →
      ∃ t, PSs (cxOf C8.CX0 P w K mg base N q (defScope st) f cdv A outer s H E).nox (defBody st) t ∧ t { nx := fun _ H' => Q .non H', rt := Q } (start N vs) H) :
    ∃ fd, FnOk P w K mg base C8.CX0 (k + 1) (He.ma K (He.ga K C) m) fd ps sp ∧ Binds K fd ps [] := by
  obtain ⟨fd, F⟩ := G.d.def_ i hi
  exact ⟨fd, F.ok S len (fun cdv A outer s H vs Q E hr h => let ⟨t, h1, h2⟩ := hbody _ cdv A outer s H vs Q E hr h; ⟨t, h1.nox, h2⟩), F.bindsN hb⟩
end
end Pb
set_option Elab.async false
set_option linter.all false
set_option maxRecDepth 100000
set_option maxHeartbeats 4000000
namespace Pb
open PySem PySem.Spec PyProof.Rows L2
section
variable {X : Cx}
/-! ### x in a tuple, or in a dict -/
def rInA (K : PySem.W.Frag) : R2 := fun x y H Q => ∃ (a : Addr) (k : Bool), y = .ref a ∧ ((∃ xs, SqT K H a xs ∧ flatV x = true ∧ xs.all flatV = true ∧ k = inV x xs) ∨ (∃ o, DGet H a x o ∧ k = o.isSome)) ∧ Q (.bl k) H
theorem op_inA (hu : X.A.units + 1 < cLine) : OpR X (compareOp .In) (rInA X.K) := by
  intro pins s σ H x y v u Q I rx ry h
  obtain ⟨a, k, rfl, h, q⟩ := h
  rcases h with ⟨xs, h1, h2, h3, rfl⟩ | ⟨o, g, rfl⟩
  · exact op_in_seq pins s σ H x (.ref a) v u Q I rx ry ⟨a, xs, rfl, .inr h1, h2, h3, q⟩
  · cases ry
    exact d_in hu I g rx fun s' I' => ⟨.bl _, H, I', rfl, q⟩
/-! ### d.update(e), both with ints or texts as keys -/
def rUpd : V → List V → Hp → VK → Prop := fun x xs H Q => ∃ (d e : Addr) (ks ls : List (Key × V)), x = .ref d ∧ xs = [.ref e] ∧ d ≠ e ∧ H d = some (.dK ks) ∧ H e = some (.dK ls) ∧ ks.length + ls.length ≤ sizeLine ∧ Q .non (upd H d (.dK (mergeK ks ls)))
theorem mt_update : MtR X "dict.update" rUpd := by
  intro pins s σ H x xs v us Q I rx rv h
  obtain ⟨d, e, ks, ls, rfl, rfl, hne, hd, he, hz, q⟩ := h
  obtain rfl : v = Value.ref d := rx
  obtain ⟨u, rfl, ru⟩ := vals1 rv
  obtain rfl : u = Value.ref e := ru
  obtain ⟨_, yd, vd, rd, dd⟩ := dk_of I.hok hd
  obtain ⟨_, ye, ve, re, de⟩ := dk_of I.hok he
  refine call_meetsIn PySem.F.slot_dict_update dd.typeIs PySem.F.entry_dict_update (PySem.F.args_dict_update_2 _ _) (meets_dict_update (mixKind X.prog X.w) d e hne ye)
    ⟨vd, ve, dd, de, (by rw [← rd.length, ← re.length]; exact hz), fun h' dd' _ hs => ?_⟩
  have hx : ∃ o, h'.get? d = some o := let ⟨o, _, _, ho, _⟩ := dd'; ⟨o, ho⟩
  exact ⟨.non, _, d_write (t' := s.toks) I (by rw [hd]; exact True.intro) hs hx (dk_new (Nat.le_trans (length_mergeK ls ks) hz) yd (KV.merge re rd) dd'), rfl, q⟩
/-! ### max(ns, default=d), min(ns, default=d) of a list of ints -/
theorem dpInts (K : PySem.W.Frag) (H : Hp) : ∀ ns : List Int, DpAll K H (ns.map V.int) (ns.map PyData.int)
  | [] => .nil
  | n :: r => .cons (.int n) (dpInts K H r)
theorem alikeInts (ns : List Int) : PySem.W.AlikeAll (ns.map PyData.int) := by
  refine ⟨fun x hx y hy => ?_, fun x hx => ?_⟩
  · obtain ⟨a, _, rfl⟩ := List.mem_map.mp hx
    obtain ⟨b, _, rfl⟩ := List.mem_map.mp hy
    rfl
  · obtain ⟨a, _, rfl⟩ := List.mem_map.mp hx
    intro z
    cases z
theorem depthInts : ∀ ns : List Int, PyData.depthAll (ns.map PyData.int) = 0
  | [] => rfl
  | n :: r => by
    show max (PyData.depth (.int n)) (PyData.depthAll (r.map PyData.int)) = 0
    rw [depthInts r]
    rfl
theorem foldMax (n : Int) : ∀ ns : List Int, (ns.foldl max n = n ∨ ns.foldl max n ∈ ns) ∧ n ≤ ns.foldl max n ∧ ∀ y ∈ ns, y ≤ ns.foldl max n := by
  intro ns
  induction ns generalizing n with
  | nil => exact ⟨.inl rfl, Int.le_refl _, fun y hy => nomatch hy⟩
  | cons k r ih =>
    rw [List.foldl_cons]
    obtain ⟨h1, h2, h3⟩ := ih (max n k)
    refine ⟨?_, by omega, fun y hy => ?_⟩
    · rcases h1 with h1 | h1
      · rw [h1]
        rcases Int.le_total n k with q | q
        · right
          rw [Int.max_eq_right q]
          exact List.mem_cons_self
        · left
          exact Int.max_eq_left q
      · exact .inr (List.mem_cons_of_mem _ h1)
    · rcases List.mem_cons.mp hy with rfl | hy
      · omega
      · exact h3 y hy
theorem foldMin (n : Int) : ∀ ns : List Int, (ns.foldl min n = n ∨ ns.foldl min n ∈ ns) ∧ ns.foldl min n ≤ n ∧ ∀ y ∈ ns, ns.foldl min n ≤ y := by
  intro ns
  induction ns generalizing n with
  | nil => exact ⟨.inl rfl, Int.le_refl _, fun y hy => nomatch hy⟩
  | cons k r ih =>
    rw [List.foldl_cons]
    obtain ⟨h1, h2, h3⟩ := ih (min n k)
    refine ⟨?_, by omega, fun y hy => ?_⟩
    · rcases h1 with h1 | h1
      · rw [h1]
        rcases Int.le_total n k with q | q
        · left
          exact Int.min_eq_left q
        · right
          rw [Int.min_eq_right q]
          exact List.mem_cons_self
      · exact .inr (List.mem_cons_of_mem _ h1)
    · rcases List.mem_cons.mp hy with rfl | hy
      · omega
      · exact h3 y hy
def rMaxD (K : PySem.W.Frag) : List V → List V → Hp → VK → Prop := fun vs zs H Q => ∃ (a : Addr) (ns : List Int) (d : Int), vs = [.ref a] ∧ zs = [.int d] ∧ SqL K H a (ns.map V.int) ∧ (ns = [] → Q (.int d) H) ∧ ∀ m, m ∈ ns → (∀ y ∈ ns, y ≤ m) → Q (.int m) H
def rMinD (K : PySem.W.Frag) : List V → List V → Hp → VK → Prop := fun vs zs H Q => ∃ (a : Addr) (ns : List Int) (d : Int), vs = [.ref a] ∧ zs = [.int d] ∧ SqL K H a (ns.map V.int) ∧ (ns = [] → Q (.int d) H) ∧ ∀ m, m ∈ ns → (∀ y ∈ ns, m ≤ y) → Q (.int m) H
theorem reads_int {h : Heap} {v : Value} {m : Int} {as : List Addr} (r : Reads h v (.int m) as) : RelV (.int m) v := by
  cases r
  exact ⟨_, rfl⟩
theorem cr_maxD (hc : X.calm = true) (hu : X.A.units + 1 < cLine) : CallRK X (.builtin "max") ["default"] (rMaxD X.K) := by
  intro pins s σ H vs zs us ws Q I r rz h
  obtain ⟨a, ns, d, rfl, rfl, hs, h0, h1⟩ := h
  obtain ⟨its, rv, hl, _⟩ := I.list hs
  obtain ⟨w', rfl, rw'⟩ := vals1 rz
  rw [Vals.ref1 r]
  obtain ⟨as, hr⟩ := Dp.readsAll I (ns.map PyData.int) (ns.map V.int) its (dpInts X.K H ns) rv
  have hr' : ReadsAll s.heap its.toArray.toList (ns.map PyData.int) as := by simpa using hr
  refine PySem.W.max_list_default (I.ok.hd hc) hl.isList hr' (alikeInts ns) (by rw [depthInts]; exact hu) (fun e h' tk k => ?_) fun y ys i v h' tk bs e hv rd k => ?_
  · have e' : ns = [] := by simpa using e
    exact ⟨.int d, H, I.kept k, rw', h0 e'⟩
  · cases ns with
    | nil => cases e
    | cons n r' =>
      have e1 : y = .int n := (List.cons.inj e).1.symm
      have e2 : ys = r'.map PyData.int := (List.cons.inj e).2.symm
      subst e1 e2
      rw [PySem.W.maxD_ints] at rd
      obtain ⟨f1, f2, f3⟩ := foldMax n r'
      refine ⟨.int _, H, I.kept k, reads_int rd, h1 _ ?_ fun z hz => ?_⟩
      · rcases f1 with f1 | f1
        · rw [f1]
          exact List.mem_cons_self
        · exact List.mem_cons_of_mem _ f1
      · rcases List.mem_cons.mp hz with rfl | hz
        · exact f2
        · exact f3 z hz
theorem cr_minD (hc : X.calm = true) (hu : X.A.units + 1 < cLine) : CallRK X (.builtin "min") ["default"] (rMinD X.K) := by
  intro pins s σ H vs zs us ws Q I r rz h
  obtain ⟨a, ns, d, rfl, rfl, hs, h0, h1⟩ := h
  obtain ⟨its, rv, hl, _⟩ := I.list hs
  obtain ⟨w', rfl, rw'⟩ := vals1 rz
  rw [Vals.ref1 r]
  obtain ⟨as, hr⟩ := Dp.readsAll I (ns.map PyData.int) (ns.map V.int) its (dpInts X.K H ns) rv
  have hr' : ReadsAll s.heap its.toArray.toList (ns.map PyData.int) as := by simpa using hr
  refine PySem.W.min_list_default (I.ok.hd hc) hl.isList hr' (alikeInts ns) (by rw [depthInts]; exact hu) (fun e h' tk k => ?_) fun y ys i v h' tk bs e hv rd k => ?_
  · have e' : ns = [] := by simpa using e
    exact ⟨.int d, H, I.kept k, rw', h0 e'⟩
  · cases ns with
    | nil => cases e
    | cons n r' =>
      have e1 : y = .int n := (List.cons.inj e).1.symm
      have e2 : ys = r'.map PyData.int := (List.cons.inj e).2.symm
      subst e1 e2
      rw [PySem.W.minD_ints] at rd
      obtain ⟨f1, f2, f3⟩ := foldMin n r'
      refine ⟨.int _, H, I.kept k, reads_int rd, h1 _ ?_ fun z hz => ?_⟩
      · rcases f1 with f1 | f1
        · rw [f1]
          exact List.mem_cons_self
        · exact List.mem_cons_of_mem _ f1
      · rcases List.mem_cons.mp hz with rfl | hz
        · exact f2
        · exact f3 z hz
/-! ### dicts compared, keys ints or texts, values flat -/
def sameK (ks ls : List (Key × V)) : Bool := decide (ks.length = ls.length) && ks.all fun p => match valV ls p.1 with
  | some v => eqV p.2 v
  | none => false
end
end Pb
set_option Elab.async false
set_option linter.all false
set_option maxRecDepth 100000
set_option maxHeartbeats 4000000
namespace Pb
open PySem PySem.Spec PyProof.Rows L2
section
variable {X : Cx}
/-! ### list(d.values()) -/
def tListVals (te : TE) : TE := fun σ H Q => te σ H fun x H1 => ∃ (d : Addr) (kvs : List (Key × V)), x = .ref d ∧ H1 d = some (.dK kvs) ∧ ∀ p, H1 p = none → Q (.ref p) (upd H1 p (.lst (kvs.map (·.2))))
theorem vals_of_items {kvs : List (Key × V)} {vs : List (Key × Value)} (kv : KV kvs vs) : ∀ {acc : List Value}, acc.length = vs.length → (∀ (j : Nat) (v : Value), acc[j]? = some v → ∃ k : Key, vs[j]? = some (k, v)) → Vals (kvs.map (·.2)) acc := by
  unfold KV at kv
  induction kv with
  | nil =>
    intro acc hl _
    have e : acc = [] := List.eq_nil_of_length_eq_zero hl
    subst e
    exact .nil
  | @cons p q ps qs h t ih =>
    intro acc hl hj
    cases acc with
    | nil => simp at hl
    | cons a r =>
      obtain ⟨k, e⟩ := hj 0 a rfl
      have e' : q = (k, a) := Option.some.inj e
      refine .cons ?_ (ih (by simpa using hl) fun j v e2 => ?_)
      · have h2 := h.2
        rw [e'] at h2
        exact h2
      · have := hj (j + 1) v (by simpa using e2)
        simpa using this
theorem pe_listVals {e : Expr} {te : TE} {p apos cpos pos : Pos} (hc : X.calm = true) (he : PE X e te) (hg : Gl X "list") (hm : X.mg "list" = none) (hv : bootBuiltins "list" = some (.type "list")) (hbase : attributeBase e "values" X.env (eval e X.env) = eval e X.env := by rfl) (hline : (apos.endLine == cpos.line) = true := by rfl)
    (hs : starEach [.Call (.Attribute e "values" apos) [] [] cpos] X.env = (false, eval (.Call (.Attribute e "values" apos) [] [] cpos) X.env) :: starEach [] X.env := by rfl) :
    PE X (.Call (.Name "list" p) [.Call (.Attribute e "values" apos) [] [] cpos] [] pos) (tListVals te) := by
  constructor
  intro pins s σ H Q I hq
  refine wpAny_Call_Name_kw (ld_blt I hg hm hv (PyProof.Rows.callWith_type1 ?_ hs rfl))
  rw [hs]
  show wpAny _ _ (spliced ((false, eval (.Call (.Attribute e "values" apos) [] [] cpos) X.env) :: backTo pos (starEach [] X.env))) _ _ s
  refine Calls.spliced_cons (wpAny_Call_method (T := "dict") (id := "dict.values") hbase rfl hline F.plainAttrs_dict F.slot_dict_values F.type_dict_values (thn (he.run pins s σ H _ I hq) ?_))
  rintro u s1 ⟨x, H1, I1, rx, d, kvs, rfl, hd, q⟩
  obtain rfl : u = Value.ref d := rx
  obtain ⟨hz, hs0, vs, kv, hdo⟩ := dk_of I1.hok hd
  obtain ⟨ep, hat⟩ := hdo.dictAt
  have lk : kvs.length = vs.length := Paired.length kv
  refine ⟨hdo.typeIs, hdo.mapOf.noDict, ?_⟩
  show wpAny _ _ (callWith cpos (.builtin "dict.values") [.ref d] [] []) _ X.xe s1
  refine method_meetsIn F.slot_dict_values F.entry_dict_values rfl (PySem.evalArgs_none ⟨rfl, hdo.typeIs, F.args_dict_values_1 _, _, meets_dict_values (mixKind X.prog X.w) d hs0, ⟨vs, hdo⟩, ?_⟩)
  have I2 : Inv X pins σ H1 { s1 with heap := s1.heap.push { cls := .type "dict_values", data := .fields #[.ref d] } } := I1.kept (t' := s1.toks) fun b o e => Heap.get?_push_of_some _ e
  refine Calls.spliced_nil (PySem.W.kdl_call (PySem.W.kdl_values (knd := mixKind X.prog X.w) (kvs := vs) (ep := ep)) (I1.ok.hd hc) ⟨⟨_, Heap.get?_push_size _ rfl, rfl, rfl⟩, hat.push _⟩ (by omega) ?_)
  intro h' tk acc c hk hS hacc
  obtain ⟨ha1, ha2⟩ := hacc
  have rv : Vals (kvs.map (·.2)) acc.toList := vals_of_items kv (by simpa using ha1) fun j v e2 => ha2 j v (by simpa using e2)
  generalize hs2 : ({ s1 with heap := s1.heap.push { cls := .type "dict_values", data := .fields #[.ref d] } } : Shared) = s2 at I2 hk hS ⊢
  have new : ObjOk X.prog X.w (upd H1 s2.heap.objs.size (.lst (kvs.map (·.2)))) h' s2.heap.objs.size (.lst (kvs.map (·.2))) := ⟨by rw [List.length_map]; omega, acc.toList, c, rv, by rw [Array.toArray_toList]; exact hS⟩
  exact ⟨.ref s2.heap.objs.size, _, I2.laid (t' := tk) hk (Nat.le_refl _) new, rfl, q _ (I2.hok.fresh (Nat.le_refl _))⟩
/-! ### dict != dict, the values ints -/
def eqI (ks ls : List (Key × V)) : Bool := decide (ks.length = ls.length) && ks.all fun p => decide (valV ls p.1 = some p.2)
def AllI (ks : List (Key × V)) : Prop := ∀ p ∈ ks, ∃ i : Int, p.2 = .int i
theorem hits_int {A : Around} {s : Shared} {ls : List (Key × V)} {vb : List (Key × Value)} (rb : KV ls vb) (hb : AllI ls) {ks : List (Key × V)} {va : List (Key × Value)} (ra : KV ks va) : AllI ks →
    PySem.W.KeqHits A s vb va (ks.all fun p => decide (valV ls p.1 = some p.2)) := by
  unfold KV at ra
  induction ra with
  | nil => exact fun _ => .nil
  | @cons p q ps qs h t ih =>
    intro hi
    obtain ⟨h1, h2⟩ := h
    obtain ⟨pk, pv⟩ := p
    obtain ⟨k, v⟩ := q
    obtain rfl : pk = k := h1
    obtain ⟨i, ei⟩ := hi _ List.mem_cons_self
    obtain rfl : pv = .int i := ei
    obtain ⟨t1, rfl⟩ : ∃ t, v = Value.int i t := h2
    have ih' := ih fun p hp => hi p (List.mem_cons_of_mem _ hp)
    rw [List.all_cons]
    show PySem.W.KeqHits A s vb _ (decide (valV ls pk = some (V.int i)) && _)
    cases e : valV ls pk with
    | none =>
      have rr := rb.val pk
      rw [e] at rr
      have e2 := rr.none_of
      have ed : decide (none = some (V.int i)) = false := decide_eq_false (fun z => nomatch z)
      rw [ed, Bool.false_and]
      exact .miss e2
    | some y =>
      have rr : RelO (some y) (valueAt vb pk) := by rw [← e]; exact rb.val pk
      obtain ⟨u, hu, ru⟩ := rr.some_of
      have hy : ∃ j : Int, y = .int j := by
        unfold valV at e
        cases f : ls.find? (fun kv => decide (kv.1 = pk)) with
        | none => rw [f] at e; cases e
        | some z =>
          rw [f] at e
          obtain ⟨j, ej⟩ := hb z (List.mem_of_find?_eq_some f)
          exact ⟨j, (Option.some.inj e).symm.trans ej⟩
      obtain ⟨j, rfl⟩ := hy
      obtain ⟨t2, rfl⟩ : ∃ t, u = Value.int j t := ru
      have ed : decide (some (V.int j) = some (V.int i)) = (i == j) := by
        by_cases q : i = j
        · subst q
          simp
        · rw [decide_eq_false (fun z => q (by injection z with z; injection z with z; exact z.symm))]
          exact (beq_eq_false_iff_ne.mpr q).symm
      rw [ed]
      exact .hit hu (SeqAt.EqAt.int_int i t1 j t2) ih'
def rNeDict : R2 := fun x y H Q => ∃ a b ks ls, x = .ref a ∧ y = .ref b ∧ H a = some (.dK ks) ∧ H b = some (.dK ls) ∧ AllI ks ∧ AllI ls ∧ Q (.bl (!eqI ks ls)) H
theorem op_neDict (hu : X.A.units < cLine) : OpR X (compareOp .NotEq) rNeDict := by
  intro pins s σ H x y v u Q I rx ry h
  obtain ⟨a, b, ks, ls, rfl, rfl, ea, eb, ia, ib, q⟩ := h
  obtain rfl : v = Value.ref a := rx
  obtain rfl : u = Value.ref b := ry
  obtain ⟨_, ya, va, ra, da⟩ := dk_of I.hok ea
  obtain ⟨_, yb, vb, rb, db⟩ := dk_of I.hok eb
  refine PySem.W.keq_ne (knd := mixKind X.prog X.w) ya yb da db hu (fun _ => hits_int rb ib ra ia) (fin_bl I q ?_)
  unfold eqI
  rw [ra.length, rb.length]
  by_cases q : va.length = vb.length
  · simp [q]
  · simp [q]
/-! ### min of a list of triples of ints -/
theorem dataLt_int3 {a b c a' b' c' : Int} : (PySem.W.dataLt (.tuple [.int a, .int b, .int c]) (.tuple [.int a', .int b', .int c']) = true → a ≤ a') ∧ (PySem.W.dataLt (.tuple [.int a, .int b, .int c]) (.tuple [.int a', .int b', .int c']) = false → a' ≤ a) := by
  have e : PySem.W.dataLt (.tuple [.int a, .int b, .int c]) (.tuple [.int a', .int b', .int c']) = if PyData.eqv (.int a) (.int a') = true then PyProof.Rows.lexLt itemOrd (PySem.W.keyToksAll [.int b, .int c]) (PySem.W.keyToksAll [.int b', .int c']) else PySem.W.dataLt (.int a) (.int a') := by
    rw [PySem.W.dataLt_tuple, PySem.W.dataLt_cons (by simp [PySem.W.alike])]
  rw [e, PySem.W.dataLt_int]
  by_cases q : a = a'
  · subst q
    exact ⟨fun _ => Int.le_refl _, fun _ => Int.le_refl _⟩
  · have ne : PyData.eqv (.int a) (.int a') = false := by
      simp only [PyData.eqv]
      exact beq_eq_false_iff_ne.mpr q
    rw [ne, if_neg Bool.false_ne_true]
    constructor
    · intro h
      have := of_decide_eq_true h
      omega
    · intro h
      have := of_decide_eq_false h
      omega
abbrev tri (t : Int × Int × Int) : PyData := .tuple [.int t.1, .int t.2.1, .int t.2.2]
theorem minTri (x : Int × Int × Int) : ∀ xs : List (Int × Int × Int), ∃ m, PySem.W.minD (tri x) (xs.map tri) = tri m ∧ (m = x ∨ m ∈ xs) ∧ m.1 ≤ x.1 ∧ ∀ y ∈ xs, m.1 ≤ y.1 := by
  intro xs
  unfold PySem.W.minD
  induction xs generalizing x with
  | nil => exact ⟨x, rfl, .inl rfl, Int.le_refl _, fun y hy => nomatch hy⟩
  | cons k r ih =>
    rw [List.map_cons, List.foldl_cons]
    cases e : PySem.W.dataLt (tri k) (tri x) with
    | true =>
      rw [if_pos rfl]
      obtain ⟨m, h1, h2, h3, h4⟩ := ih k
      have hk := dataLt_int3.1 e
      refine ⟨m, h1, ?_, Int.le_trans h3 hk, fun y hy => ?_⟩
      · rcases h2 with rfl | h2
        · exact .inr List.mem_cons_self
        · exact .inr (List.mem_cons_of_mem _ h2)
      · rcases List.mem_cons.mp hy with rfl | hy
        · exact h3
        · exact h4 y hy
    | false =>
      rw [if_neg Bool.false_ne_true]
      obtain ⟨m, h1, h2, h3, h4⟩ := ih x
      have hk := dataLt_int3.2 e
      refine ⟨m, h1, ?_, h3, fun y hy => ?_⟩
      · rcases h2 with rfl | h2
        · exact .inl rfl
        · exact .inr (List.mem_cons_of_mem _ h2)
      · rcases List.mem_cons.mp hy with rfl | hy
        · exact Int.le_trans h3 hk
        · exact h4 y hy
theorem alikeTri (ts : List (Int × Int × Int)) : PySem.W.AlikeAll (ts.map tri) := by
  refine ⟨fun x hx y hy => ?_, fun x hx => ?_⟩
  · obtain ⟨a, _, rfl⟩ := List.mem_map.mp hx
    obtain ⟨b, _, rfl⟩ := List.mem_map.mp hy
    simp [PySem.W.alike, PySem.W.alikeAll]
  · obtain ⟨a, _, rfl⟩ := List.mem_map.mp hx
    intro z
    cases z
theorem depthTri : ∀ ts : List (Int × Int × Int), PyData.depthAll (ts.map tri) ≤ 1
  | [] => Nat.zero_le _
  | t :: r => by
    show max (PyData.depth (tri t)) (PyData.depthAll (r.map tri)) ≤ 1
    have h := depthTri r
    have h2 : PyData.depth (tri t) = 1 := by simp [tri, PyData.depth, PyData.depthAll]
    omega
def TriAt (H : Hp) (p : Addr) (t : Int × Int × Int) : Prop := H p = some (.tup [.int t.1, .int t.2.1, .int t.2.2])
theorem dpTri (K : PySem.W.Frag) {H : Hp} : ∀ {ps : List Addr} {ts : List (Int × Int × Int)}, Paired (TriAt H) ps ts → DpAll K H (ps.map V.ref) (ts.map tri)
  | _, _, .nil => .nil
  | _, _, .cons h t => .cons (.tup (SqT.of h) (.cons (.int _) (.cons (.int _) (.cons (.int _) .nil)))) (dpTri K t)
def rMinTri (K : PySem.W.Frag) : List V → Hp → VK → Prop := fun vs H Q => ∃ (a : Addr) (ps : List Addr) (ts : List (Int × Int × Int)), vs = [.ref a] ∧ SqL K H a (ps.map V.ref) ∧ Paired (TriAt H) ps ts ∧ ts ≠ [] ∧
  ∀ (i : Nat) (p : Addr) (t : Int × Int × Int), ps[i]? = some p → ts[i]? = some t → (∀ y ∈ ts, t.1 ≤ y.1) → Q (.ref p) H
theorem pair_at {α β : Type} {F : α → β → Prop} : ∀ {l : List α} {m : List β} {i : Nat} {a : α}, Paired F l m → l[i]? = some a → ∃ b, m[i]? = some b ∧ F a b
  | _, _, _, _, .nil, e => by simp at e
  | _, _, 0, _, .cons h _, e => by
    simp at e
    subst e
    exact ⟨_, rfl, h⟩
  | _, _, i + 1, _, .cons _ t, e => by
    obtain ⟨b, h1, h2⟩ := pair_at (i := i) t (by simpa using e)
    exact ⟨b, by simpa using h1, h2⟩
theorem pair_at' {α β : Type} {F : α → β → Prop} : ∀ {l : List α} {m : List β} {i : Nat} {b : β}, Paired F l m → m[i]? = some b → ∃ a, l[i]? = some a ∧ F a b
  | _, _, _, _, .nil, e => by simp at e
  | _, _, 0, _, .cons h _, e => by
    simp at e
    subst e
    exact ⟨_, rfl, h⟩
  | _, _, i + 1, _, .cons _ t, e => by
    obtain ⟨b, h1, h2⟩ := pair_at' (i := i) t (by simpa using e)
    exact ⟨b, by simpa using h1, h2⟩
theorem ints3 {h : Heap} {vs : List Value} {m t : Int × Int × Int} {as : List Addr} (r : ReadsAll h vs [.int m.1, .int m.2.1, .int m.2.2] as) (q : Vals [.int t.1, .int t.2.1, .int t.2.2] vs) : t = m := by
  obtain ⟨m1, m2, m3⟩ := m
  obtain ⟨t1, t2, t3⟩ := t
  cases q with
  | cons a q =>
    cases q with
    | cons b q =>
      cases q with
      | cons c q =>
        cases q
        obtain ⟨k1, rfl⟩ := a
        obtain ⟨k2, rfl⟩ := b
        obtain ⟨k3, rfl⟩ := c
        cases r with
        | cons r1 r =>
          cases r with
          | cons r2 r =>
            cases r with
            | cons r3 r =>
              cases r1
              cases r2
              cases r3
              rfl
theorem cr_minTri (hc : X.calm = true) (hu : X.A.units + 2 < cLine) : CallR X (.builtin "min") (rMinTri X.K) := by
  intro pins s σ H vs us Q I r h
  obtain ⟨a, ps, ts, rfl, hs, hp, hne, q⟩ := h
  obtain ⟨its, rv, hl, _⟩ := I.list hs
  rw [Vals.ref1 r]
  obtain ⟨as, hr⟩ := Dp.readsAll I (ts.map tri) (ps.map V.ref) its (dpTri X.K hp) rv
  cases ts with
  | nil => exact absurd rfl hne
  | cons t0 tr =>
    have hr' : ReadsAll s.heap its.toArray.toList (tri t0 :: tr.map tri) as := by simpa using hr
    have hd := depthTri (t0 :: tr)
    refine PySem.W.min_list_data (I.ok.hd hc) hl.isList hr' (alikeTri (t0 :: tr)) (by have h2 : PyData.depthAll (tri t0 :: tr.map tri) ≤ 1 := hd; omega) fun i v h' tk bs hv rd k => ?_
    obtain ⟨m, e1, e2, e3, e4⟩ := minTri t0 tr
    rw [e1] at rd
    have hv' : its[i]? = some v := by simpa using hv
    obtain ⟨pv, hpv, rpv⟩ := pair_at' rv hv'
    rw [List.getElem?_map] at hpv
    cases epi : ps[i]? with
    | none => rw [epi] at hpv; cases hpv
    | some p =>
      rw [epi] at hpv
      obtain rfl : V.ref p = pv := Option.some.inj hpv
      obtain rfl : v = Value.ref p := rpv
      obtain ⟨t, et, ht⟩ := pair_at hp epi
      obtain ⟨_, its2, rv2, ob, ho, hcl, n, hdat⟩ := I.hok p _ ht
      have ho' := k p ob ho
      have em : t = m := by
        cases rd with
        | tuple g1 g2 g3 g4 =>
          rw [ho'] at g1
          cases g1
          rw [hdat] at g3
          cases g3
          exact ints3 (m := m) g4 (by simpa using rv2)
      subst em
      refine ⟨.ref p, H, I.kept k, rfl, q i p t epi et fun y hy => ?_⟩
      rcases List.mem_cons.mp hy with rfl | hy
      · exact e3
      · exact e4 y hy
end
end Pb
set_option Elab.async false
set_option linter.all false
set_option maxRecDepth 100000
set_option maxHeartbeats 4000000
namespace Pb
open PySem PySem.Spec PyProof.Rows L2
/-! ### keys that are tuples of ints -/
abbrev iK (s : List Int) : List Key := s.map Sum.inl
def hS (s : List Int) : Int := reduceHash (Builtin.Tuple.tupleHashOf (s.map hashInt))
theorem hash_iK (P : Program) (w : World) (s : List Int) : (tupleKind (mixKind P w)).hash (iK s) = hS s := by
  show reduceHash (Builtin.Tuple.tupleHashOf ((s.map Sum.inl).map (keyH w))) = _
  rw [List.map_map]
  rfl
/-- the keys: tuples of ints, no two of one hash -/
def Kys (kvs : List (List Key × V)) : Prop := ∃ ss : List (List Int), kvs.map (·.1) = ss.map iK ∧ (ss.map hS).Nodup
theorem Kys.hash {kvs : List (List Key × V)} (h : Kys kvs) (P : Program) (w : World) : (kvs.map fun p => (tupleKind (mixKind P w)).hash p.1).Nodup := by
  obtain ⟨ss, e, n⟩ := h
  have e2 : (kvs.map fun p => (tupleKind (mixKind P w)).hash p.1) = (kvs.map (·.1)).map (tupleKind (mixKind P w)).hash := by rw [List.map_map]; rfl
  rw [e2, e, List.map_map]
  have e3 : ((tupleKind (mixKind P w)).hash ∘ iK) = hS := funext fun s => hash_iK P w s
  rw [e3]
  exact n
theorem KT.keys {H : Hp} {kvs : List (List Key × V)} {xs : List (List Key × Addr × Value)} (r : KT H kvs xs) : kvs.map (·.1) = xs.map (·.1) := by
  induction r with
  | nil => rfl
  | cons h t ih => rw [List.map_cons, List.map_cons, ih, h.1]
section
variable {X : Cx}
theorem room1 {A : Around} {P : Program} {w : World} (hu : A.units + 2 < cLine) : (tupleKind (mixKind P w)).room A.in1.in1 := by
  show A.in1.in1.units < cLine
  exact Nat.lt_of_le_of_lt (Nat.le_refl _) hu
def rDictT : List V → Hp → VK → Prop := fun xs H Q => ∃ (a : Addr) (kvs : List (List Key × V)), xs = [.ref a] ∧ Rd H a (.dT kvs) ∧ Kys kvs ∧ ∀ p, H p = none → Q (.ref p) (upd H p (.dT kvs))
/-- dict(d), keys tuples of ints -/
theorem call_dictT (hu : X.A.units + 2 < cLine) : CallR X (.type "dict") rDictT := by
  intro pins s σ H xs us Q I r q
  obtain ⟨a, kvs, rfl, hd, hk, q⟩ := q
  rw [Vals.ref1 r]
  obtain ⟨z, lo, more, rel, dd⟩ := dt_rd I.hok hd
  refine callType_codes (Q₁ := fun obj s₁ => obj = .ref s.heap.objs.size ∧ s₁ = { s with heap := s.heap.push { cls := .type "dict", data := .dict #[] } }) F.kt_called_dict (F.kt_typeCall_dict_1 _) F.entry_dict_init (kt_code_dict_new _ ⟨rfl, rfl⟩) ?_
  rintro obj s₁ ⟨rfl, rfl⟩
  have hnew : (s.heap.push { cls := .type "dict", data := .dict #[] }).DictOfH (tupleKind (mixKind X.prog X.w)) s.heap.objs.size [] := Heap.DictOfH.new s.heap
  have ho' : (s.heap.push { cls := .type "dict", data := .dict #[] }).DictOfH (tupleKind (mixKind X.prog X.w)) a more := dd.at' (fun o e => Heap.get?_push_of_some _ e) fun y hy => by
    obtain ⟨_, _, _, _, _, _, _, his, _⟩ := dd
    obtain ⟨o, its, n, e, c, d2, i2⟩ := his y hy
    exact ⟨o, its, n, Heap.get?_push_of_some _ e, c, d2, i2⟩
  have hty : ∀ x ∈ more, Shared.TypeIs { s with heap := s.heap.push { cls := .type "dict", data := .dict #[] } } (.ref x.2.1) "tuple" := fun x hx => by
    obtain ⟨_, _, _, _, _, _, _, his, _⟩ := ho'
    obtain ⟨o, its, n, e, c, d2, i2⟩ := his x hx
    exact ⟨o, e, c⟩
  have hap : (more.map fun x => (tupleKind (mixKind X.prog X.w)).hash x.1).Nodup := by
    have e := KT.keys rel
    have h1 := hk.hash X.prog X.w
    have e2 : (more.map fun x => (tupleKind (mixKind X.prog X.w)).hash x.1) = (kvs.map fun p => (tupleKind (mixKind X.prog X.w)).hash p.1) := by
      have := congrArg (List.map (tupleKind (mixKind X.prog X.w)).hash) e
      rw [List.map_map, List.map_map] at this
      exact this.symm
    rw [e2]
    exact h1
  have hn : (more.map (·.1)).Nodup := dd.nodup
  have hdo : s.heap.objs.size ≠ a := fun e => absurd dd.lt_size (by rw [e]; exact Nat.lt_irrefl _)
  have hl : kvs.length = more.length := Paired.length rel
  refine ⟨hnew.typeIs, F.args_dict_init_2 _ _, ?_⟩
  unfold Builtin.«dict.__init__»
  refine wpAny_bind ?_
  unfold Builtin.Dict.selfAndRest
  refine wpAny_bind (wpAny_notOrdered_dict hnew.typeIs ?_)
  show wpAny _ _ (pure (s.heap.objs.size, [Value.ref a])) _ _ _
  refine wpAny_pure ?_
  show wpAny _ _ (Builtin.Dict.updateFrom "dict.__init__" s.heap.objs.size (.ref a) [] .none) _ _ _
  refine updateFrom_dictH (A := X.A.in1) .none (room1 hu) hdo lo hnew ho' (.inr ⟨hty, hap⟩) (by rw [List.length_nil, Nat.zero_add, ← hl]; exact z) fun h' hd' _ hs' => ?_
  rw [storedAllH_nil_of_nodup more hn] at hd'
  refine ⟨rfl, ?_⟩
  have hm : (s.heap.objs.size == sysModules) = false := beq_eq_false_iff_ne.mpr (Nat.ne_of_gt I.big)
  have kk : ∀ b o, s.heap.get? b = some o → h'.get? b = some o := fun b o e => hs'.extBut b o (Nat.ne_of_lt (Heap.lt_size e)) (Heap.get?_push_of_some _ e)
  have hf : H s.heap.objs.size = none := I.hok.fresh (Nat.le_refl _)
  obtain ⟨o, es, ep, ho, hc, hdat, he, _, hn'⟩ := hd'
  exact ⟨.ref s.heap.objs.size, upd H s.heap.objs.size (.dT kvs), I.laid (t' := s.toks) kk (Nat.le_refl _)
    (show ObjOk X.prog X.w _ _ _ (.dT kvs) from ⟨z, hm, more, KT.keeps rel fun b ys e => by rw [upd_ne (ne_of_none e hf)]; exact e, o, es, ep, ho, hc, hdat, he, hn'⟩), rfl, q _ hf⟩
/-- dict(xs) of a list of pairs (tuple, value), the keys unlike -/
def rDictPT (K : PySem.W.Frag) : List V → Hp → VK → Prop := fun xs H Q => ∃ (a : Addr) (ps : List Addr) (kvs : List (List Key × V)), xs = [.ref a] ∧ SqL K H a (ps.map V.ref) ∧
  Paired (fun p kv => ∃ b, SqT K H p [.ref b, kv.2] ∧ H b = some (.tup (kv.1.map kV))) ps kvs ∧ (kvs.map (·.1)).Nodup ∧ ∀ p, H p = none → Q (.ref p) (upd H p (.dT kvs))
theorem pairsT_of {pins : List (Addr × Obj)} {σ : L2.St} {H : Hp} {s : Shared} (I : Inv X pins σ H s) : ∀ {ps : List Addr} {kvs : List (List Key × V)}, Paired (fun p kv => ∃ b, SqT X.K H p [.ref b, kv.2] ∧ H b = some (.tup (kv.1.map kV))) ps kvs →
    ∃ prs : List (List Key × Addr × Value), KT H kvs prs ∧ prs.length = ps.length ∧ ∀ (j : Nat) (q : List Key × Addr × Value), prs[j]? = some q → ∃ b : Addr, ps[j]? = some b ∧ IsTup s.heap b #[.ref q.2.1, q.2.2]
  | _, _, .nil => ⟨[], .nil, rfl, fun j q e => by simp at e⟩
  | _, _, .cons (a := p) (b := kv) h t => by
    obtain ⟨prs, r, hl, hp⟩ := pairsT_of I t
    obtain ⟨b, h1, h2⟩ := h
    obtain ⟨its, rv, ht, _⟩ := I.tuple h1
    obtain ⟨u, y, ei, ru, ry⟩ := vals2 rv
    obtain rfl : u = Value.ref b := ru
    subst ei
    refine ⟨(kv.1, b, y) :: prs, .cons ⟨rfl, h2, ry⟩ r, by rw [List.length_cons, List.length_cons, hl], fun j q e => ?_⟩
    cases j with
    | zero =>
      have e' : (kv.1, b, y) = q := Option.some.inj e
      subst e'
      exact ⟨p, rfl, ht⟩
    | succ j =>
      obtain ⟨b, e1, e2⟩ := hp j q (by simpa using e)
      exact ⟨b, by simpa using e1, e2⟩
theorem call_dictPT (hc : X.calm = true) (hu : X.A.units + 2 < cLine) : CallR X (.type "dict") (rDictPT X.K) := by
  intro pins s σ H xs us Q I r q
  obtain ⟨a, ps, kvs, rfl, hq, hp, hn, q⟩ := q
  rw [Vals.ref1 r]
  obtain ⟨its, rv, pl, hz⟩ := I.list hq
  have ei := refs_at rv
  subst ei
  rw [List.length_map] at hz
  obtain ⟨prs, rel, hl, hpr⟩ := pairsT_of I hp
  have hn' : (prs.map (·.1)).Nodup := by rw [← KT.keys rel]; exact hn
  obtain ⟨o, n, ho, hcl, hd, hdat⟩ := pl
  have hkey : ∀ x ∈ prs, H x.2.1 = some (.tup (x.1.map kV)) := by
    have all : ∀ {l : List (List Key × V)} {m : List (List Key × Addr × Value)}, KT H l m → ∀ x ∈ m, H x.2.1 = some (.tup (x.1.map kV)) := by
      intro l m q
      induction q with
      | nil => intro x hx; exact nomatch hx
      | cons hq t ih =>
        intro x hx
        rcases List.mem_cons.mp hx with e | hx
        · subst e
          rw [← hq.1]
          exact hq.2.1
        · exact ih x hx
    exact all rel
  refine call_dict_pairsH (knd := tupleKind (mixKind X.prog X.w)) (ps := prs) (PairArg.list a (ps.map Value.ref).toArray (fun j => (ps[j]?).getD 0) (prs.map fun q => (.ref q.2.1, q.2.2))) (I.ok.hd hc) (room1 hu)
    ⟨⟨o, n, ho, hcl, hd, hdat⟩, by simp [hl], fun j k v e => ?_⟩ ⟨by simp, fun i key v e => ?_⟩ (fun h' hk x hx => ?_) (by rw [List.length_map, hl]; exact hz) fun h' tk hd' k => ?_
  · rw [List.getElem?_map] at e
    cases e2 : prs[j]? with
    | none => rw [e2] at e; cases e
    | some q' =>
      rw [e2] at e
      have e3 := Option.some.inj e
      obtain ⟨b, e4, e5⟩ := hpr j q' e2
      have e6 : (Value.ref q'.2.1, q'.2.2) = (k, v) := e3
      injection e6 with e7 e8
      subst e7 e8
      refine ⟨by simp [e4], .inl ?_⟩
      simp only [e4, Option.getD_some]
      obtain ⟨o2, g1, g2, g3⟩ := e5
      exact ⟨o2, g1, g2, g3⟩
  · have e : (prs.map fun q => ((.ref q.2.1, q.2.2) : Value × Value))[i]? = some (key, v) := e
    rw [List.getElem?_map] at e
    cases e2 : prs[i]? with
    | none => rw [e2] at e; cases e
    | some q' =>
      rw [e2] at e
      have e6 : (Value.ref q'.2.1, q'.2.2) = (key, v) := Option.some.inj e
      injection e6 with e7 e8
      subst e7 e8
      exact ⟨q'.1, q'.2.1, rfl, rfl⟩
  · obtain ⟨o2, its2, n2, e, c, d2, i2⟩ := key_of I.hok (hkey x hx)
    exact ⟨o2, its2, n2, hk _ _ (Nat.ne_of_lt (Heap.lt_size e)) (by simp) e, c, d2, i2⟩
  · rw [storedAllH_nil_of_nodup prs hn'] at hd'
    have hm : (s.heap.objs.size == sysModules) = false := beq_eq_false_iff_ne.mpr (Nat.ne_of_gt I.big)
    have hf : H s.heap.objs.size = none := I.hok.fresh (Nat.le_refl _)
    have hlen : kvs.length ≤ sizeLine := by rw [Paired.length rel, hl]; exact hz
    obtain ⟨o, es, ep, ho, hc, hdat, he, _, hn2⟩ := hd'
    exact ⟨.ref s.heap.objs.size, upd H s.heap.objs.size (.dT kvs), I.laid (t' := tk) (fun b o e => k b o (by simp) e) (Nat.le_refl _)
      (show ObjOk X.prog X.w _ _ _ (.dT kvs) from ⟨hlen, hm, prs, KT.keeps rel fun b ys e => by rw [upd_ne (ne_of_none e hf)]; exact e, o, es, ep, ho, hc, hdat, he, hn2⟩), rfl, q _ hf⟩
end
end Pb
set_option Elab.async false
set_option linter.all false
set_option maxRecDepth 100000
set_option maxHeartbeats 4000000
namespace Pb
open PySem PySem.Spec PyProof.Rows L2
/-- d[y] = v by a comprehension, y a tuple -/
def DPutT (H : Hp) (a : Addr) (y v : V) (H' : Hp) : Prop := ∃ kvs k b, H a = some (.dT kvs) ∧ y = .ref b ∧ H b = some (.tup (k.map kV)) ∧ kvs.length < sizeLine ∧ H' = upd H a (.dT (putK kvs k v))
theorem d_dictSetT {X : Cx} {pins : List (Addr × Obj)} {σ : L2.St} {H H' : Hp} {s : Shared} {E : Value → Shared → Prop} {D : Addr} {y v : V} {u r : Value} {Q : Unit → Shared → Prop} (hu : X.A.units + 1 < cLine) (I : Inv X pins σ H s) (g : DPutT H D y v H')
    (ry : RelV y u) (rv : RelV v r) (h : ∀ s', Inv X pins σ H' s' → Q () s') : wpAny (model X.prog X.w) X.A (dictSet D u r) Q E s := by
  obtain ⟨kvs, k, b, e, rfl, eb, l, rfl⟩ := g
  cases (show u = Value.ref b from ry)
  obtain ⟨z, hd, xs, rel, dd⟩ := dt_of I.hok e
  have l2 : (putK kvs k v).length ≤ sizeLine := by
    have := length_putK kvs k v
    omega
  refine wpAny_dictSet_heap (hsz := by rw [← Paired.length rel]; exact z) (Nat.lt_of_succ_lt hu) (key_of I.hok eb) dd fun h' dd' hs => h _ ?_
  obtain ⟨q, es, ep, hq, h2, h3, h4, _, h5⟩ := dd'
  have rel2 : KT (upd H D (.dT (putK kvs k v))) (putK kvs k v) (storedH xs k b r) := (rel.put k eb rv).keeps fun c ys ec => by
    rw [upd_ne (ne_of ec e (fun z => nomatch z))]
    exact ec
  exact d_write I (by rw [e]; exact True.intro) hs ⟨q, hq⟩ ⟨l2, hd, _, rel2, q, es, ep, hq, h2, h3, h4, h5⟩
section
variable {X : Cx}
/-- {k: v for target in iter if ..}, the keys tuples: D the new dict -/
def tDcT (wi : TI) (g : TG) (tt : TT) (tk tv : TE) (vs : List Nat) : TE := fun σ H Q => wi σ H fun J H1 => ∀ D, H1 D = none → ∃ W : Nat → Nat → Hp → Prop, (∃ m, W 0 m (upd H1 D (.dT []))) ∧ ∀ i m H, W i m H →
  (J.stop i H ∧ Q (.ref D) H) ∨ (J.go i H ∧ ∃ Nx : Hp → Prop, (∀ H', Nx H' → ∃ m', m' < m ∧ W (i + 1) m' H') ∧ ∀ x H', J.yld i H x H' → g x (wipe σ vs) H' fun σ2 H2 => wipe σ2 vs = wipe σ vs ∧ tt σ2 H2 fun b H3 =>
    if b = true then tk σ2 H3 fun y H4 => tv σ2 H4 fun z H5 => ∃ H6, DPutT H5 D y z H6 ∧ Nx H6 else Nx H3)
theorem dcT_core {pins : List (Addr × Obj)} {s : Shared} {σ : L2.St} {H : Hp} {Q : VK} {kx vx tg iter : Expr} {ifs : List Expr} {scope : Scope} {own : List (Str × Nat)} {pos pos' : Pos} {wi : TI} {g : TG} {tt : TT} {tk tv : TE} {use : Option (Value → Sem Unit)} {Qf : Value → Shared → Prop}
    (hc : X.calm = true) (hu : X.A.units + 1 < cLine) (hN : X.N.Nodup) (I : Inv X pins σ H s) (hi : PI X tg iter wi) (ok : BlkOk X.N X.env.scope scope own)
    (hg : ∀ (s : Shared) (H : Hp) (C : Addr) (cl : List (Str × Addr)) (fp : List Addr), PG (X.blk s H scope (compEnvC scope cl C X.env) fp) tg g) (ht : ∀ (s : Shared) (H : Hp) (C : Addr) (cl : List (Str × Addr)) (fp : List Addr), PTs (X.blk s H scope (compEnvC scope cl C X.env) fp) ifs tt)
    (hk : ∀ (s : Shared) (H : Hp) (C : Addr) (cl : List (Str × Addr)) (fp : List Addr), PE (X.blk s H scope (compEnvC scope cl C X.env) fp) kx tk)
    (he : ∀ (s : Shared) (H : Hp) (C : Addr) (cl : List (Str × Addr)) (fp : List Addr), PE (X.blk s H scope (compEnvC scope cl C X.env) fp) vx tv) (hs : ∀ x, foldedSetIterable iter X.env x = pure x)
    (h : tDcT wi g tt tk tv (own.map (·.2)) σ H Q)
    (hRR : ∀ D C s' m H', Inv X pins σ H' s' → Q (.ref D) H' → s'.heap.Ns C m → FpOk X pins H' C → compPost (model X.prog X.w) X.A X.xe use Qf (.ref D) C (.ok .next) s') :
    wpAny (model X.prog X.w) X.A (comprehension (.DictComp kx vx [⟨tg, iter, ifs, 0⟩] scope pos) scope X.env pos' newDict false (eval iter X.env) use) Qf X.xe s := by
  have hfree : ∀ y ∈ scope.names, y.2 = .free → ∃ c, X.env.cells.lookup y.1 = some c := fun y hy e => by
    rcases ok.free y hy e with k | k
    · exact I.ok.has _ (.inl k)
    · exact I.ok.has _ (.inr k)
  refine wpAny_comprehension_free (use := use) rfl hs (closure_ok hfree) ok.kind (fun y hy e => by rw [ok.uniq y hy, e])
    (thn (hi.run pins s σ H _ I h) fun xv s1 hx => thn hx fun itv s2 h2 => ?_)
  obtain ⟨it, fp, tn, J, H2, e, I2, T, st2, f2, q⟩ := h2
  subst e
  refine wpAny_newObj_type (newEnv_comp ?_)
  generalize hD : s2.heap.objs.size = D
  have hDn : H2 D = none := I2.hok.fresh (Nat.le_of_eq hD)
  obtain ⟨W, ⟨m0, w0⟩, turn⟩ := q D hDn
  -- the new list
  generalize hs3 : ({ s2 with heap := s2.heap.push { cls := .type "dict", data := .dict #[] } } : Shared) = s3
  have I3 : Inv X pins σ (upd H2 D (.dT [])) s3 := by
    rw [← hs3]
    refine I2.laid (t' := s2.toks) (fun b o e => Heap.get?_push_of_some _ e) (Nat.le_of_eq hD) ?_
    rw [← hD]
    exact dt_empty s2.heap I2.big
  have h3 : s3.heap = s2.heap.push { cls := .type "dict", data := .dict #[] } := by rw [← hs3]
  have sz : ∀ b ∈ fp, b < s2.heap.objs.size := fun b hb => by
    obtain ⟨o, e, _⟩ := T.obj _ _ st2 b hb
    exact Heap.lt_size e
  have f3 : ∀ b ∈ fp, FpOk X pins (upd H2 D (.dT [])) b ∧ b < s3.heap.objs.size := fun b hb => by
    have hlt := sz b hb
    refine ⟨⟨?_, (f2 b hb).2⟩, by rw [h3, Heap.size_push]; exact Nat.lt_succ_of_lt hlt⟩
    rw [upd_ne (by rw [← hD]; exact Nat.ne_of_lt hlt)]
    exact (f2 b hb).1
  have st3 : tn 0 s3.heap := T.keep _ _ _ st2 fun b _ o e => by rw [h3]; exact Heap.get?_push_of_some _ e
  have I4 := block_start I3 ok hN f3
  have pg := hg s3 (upd H2 D (.dT [])) s3.heap.objs.size (cellsFrom (s3.heap.objs.size + 1) scope.names (cloFrom X.env.cells scope.names [])) fp
  have pt := ht s3 (upd H2 D (.dT [])) s3.heap.objs.size (cellsFrom (s3.heap.objs.size + 1) scope.names (cloFrom X.env.cells scope.names [])) fp
  have pk := hk s3 (upd H2 D (.dT [])) s3.heap.objs.size (cellsFrom (s3.heap.objs.size + 1) scope.names (cloFrom X.env.cells scope.names [])) fp
  have pe := he s3 (upd H2 D (.dT [])) s3.heap.objs.size (cellsFrom (s3.heap.objs.size + 1) scope.names (cloFrom X.env.cells scope.names [])) fp
  show codeAny _ _ (.compStart (.DictComp kx vx [⟨tg, iter, ifs, 0⟩] scope pos) 0 (.ref it) (.ref D) (compEnvC scope (cellsFrom (s3.heap.objs.size + 1) scope.names (cloFrom X.env.cells scope.names [])) s3.heap.objs.size X.env)) (compPost (model X.prog X.w) X.A X.xe use Qf (.ref D) s3.heap.objs.size) { s3 with heap := pushCells (s3.heap.push { cls := .type "dict", data := .dict #[] }) scope.names }
  have nfp : ∀ b ∈ fp, (upd H2 D (.dT [])) b = none := fun b hb => (f3 b hb).1.1
  generalize hce : compEnvC scope (cellsFrom (s3.heap.objs.size + 1) scope.names (cloFrom X.env.cells scope.names [])) s3.heap.objs.size X.env = ce at I4 pg pt pk pe ⊢
  have cL : ce.locals = s3.heap.objs.size := by subst hce; rfl
  generalize hH3 : upd H2 D (.dT []) = H3 at I3 I4 pg pt pk pe w0 nfp f3
  generalize hs4 : ({ s3 with heap := pushCells (s3.heap.push { cls := .type "dict", data := .dict #[] }) scope.names } : Shared) = s4 at I4 ⊢
  have st4 : tn 0 s4.heap := T.keep _ _ _ st3 fun b _ o e => by rw [← hs4]; exact pushCells_keeps _ _ _ _ (Heap.get?_push_of_some _ e)
  have stat : ∀ {σ' : L2.St} {H' : Hp} {s' : Shared}, Inv (X.blk s3 H3 scope ce fp) [] σ' H' s' → (∀ b ∈ fp, H' b = none) → ∀ b ∈ fp, FpOk (X.blk s3 H3 scope ce fp) [] H' b := fun {σ' H' s'} I' hn b hb =>
    ⟨hn b hb, (I'.ok.exf b hb).1, I'.ok.exfs b hb, .inl hb, fun x c e => (I'.ok.exf b hb).2 x c e, fun p hp => absurd (show p ∈ ([] : List (Addr × Obj)) ++ [] from hp) (by simp)⟩
  have loop : codeAny (model X.prog X.w) X.A (.compLoop (.DictComp kx vx [⟨tg, iter, ifs, 0⟩] scope pos) 0 (.ref it) (.ref D) ce) (compPost (model X.prog X.w) X.A X.xe use Qf (.ref D) s3.heap.objs.size) s4 := by
    refine compLoop_anyD (fun n s' => ∃ i H', Inv (X.blk s3 H3 scope ce fp) [] (wipe σ (own.map (·.2))) H' s' ∧ tn i s'.heap ∧ (∀ b ∈ fp, H' b = none) ∧ W i n H') ?_ m0 ⟨0, H3, I4, st4, nfp, w0⟩
    rintro n s5 ⟨i, H5, I5, st5, n5, w5⟩
    rcases turn i n H5 w5 with ⟨stop, qq⟩ | ⟨go, Nx, hNx, step⟩
    · have td := T.done (X.blk s3 H3 scope ce fp) rfl rfl rfl hc i [] s5 _ H5 (fun _ _ => False) I5 (stat I5 n5) st5 stop
      refine thnF td fun r s6 ⟨hr, I6⟩ => ?_
      subst hr
      -- back in the def's context
      have I7 : Inv X pins σ H5 s6 := I3.call' (ch := fp) I6.os I6.base I6.hok I6.bare fun b hb => ⟨(f3 b hb).1.2.2.2.1, (f3 b hb).1.2.1, (f3 b hb).1.2.2.2.2.1, (f3 b hb).1.2.2.2.2.2⟩
      have nC : H5 s3.heap.objs.size = none := by
        have z : H5 ce.locals = none := I6.free
        rw [cL] at z
        exact z
      obtain ⟨m, hn, _⟩ := I6.loc
      have hn : s6.heap.Ns ce.locals m := hn
      rw [cL] at hn
      exact hRR D s3.heap.objs.size s6 m H5 I7 qq hn (I3.fpOk (Nat.le_refl _) nC)
    · have ti := T.item (X.blk s3 H3 scope ce fp) rfl rfl rfl hc i [] s5 _ H5 (fun _ _ => False) I5 (stat I5 n5) st5 go
      refine thnF ti fun r s6 ⟨u, hr, h6⟩ => ?_
      subst hr
      refine thnF h6 fun _ s7 ⟨x, H7, I7, r7, y7, st7, n7⟩ => ?_
      have I7' := I7.pinned (stat I7 n7) (T.obj _ _ st7)
      refine thnF (pg.run _ s7 _ H7 x u _ I7' r7 (step x H7 y7)) fun _ s8 ⟨σ8, H8, I8, hw8, q8⟩ => ?_
      refine thnF (pt.run _ s8 σ8 H8 _ I8 q8) fun b s9 ⟨H9, I9, q9⟩ => ?_
      -- the turn's end
      have fin : ∀ {s' : Shared} {H' : Hp}, Inv (X.blk s3 H3 scope ce fp) ([] ++ pinsAt fp s7.heap) σ8 H' s' → Nx H' → ∃ m, m < n ∧ ∃ i H', Inv (X.blk s3 H3 scope ce fp) [] (wipe σ (own.map (·.2))) H' s' ∧ tn i s'.heap ∧ (∀ b ∈ fp, H' b = none) ∧ W i m H' := fun {s' H'} I' nx => by
        obtain ⟨m', hm, w'⟩ := hNx H' nx
        have pin' : ∀ b ∈ fp, ∀ o, s7.heap.get? b = some o → s'.heap.get? b = some o ∧ H' b = none := fun b hb o e =>
          let z := I'.pin (b, o) (List.mem_append_right _ (List.mem_append_right _ (mem_pinsAt hb e)))
          ⟨z.1, z.2.1⟩
        have hl : (wipe σ (own.map (·.2))).length = σ8.length := by rw [← hw8, wipe_length]
        refine ⟨m', hm, i + 1, H', (I'.unpinned (pins := [])).weak hl (fun j v e => ?_), T.keep _ _ _ st7 fun b hb o e => (pin' b hb o e).1, fun b hb => ?_, w'⟩
        · rw [← hw8] at e
          exact (wipe_some e).1
        · obtain ⟨o, e, _⟩ := T.obj _ _ st7 b hb
          exact (pin' b hb o e).2
      cases b with
      | false =>
        simp only [Bool.false_eq_true, if_false] at q9 ⊢
        exact fin I9 q9
      | true =>
        simp only [if_true] at q9 ⊢
        refine thnF (pk.run _ s9 σ8 H9 _ I9 q9) fun z s10 ⟨yk, H10, I10, r10, q10⟩ => ?_
        refine thnF (pe.run _ s10 σ8 H10 _ I10 q10) fun z2 s11 ⟨yv, H11, I11, r11, H12, pt12, nx⟩ => ?_
        exact d_dictSetT (X := X.blk s3 H3 scope ce fp) hu I11 pt12 r10 r11 fun s12 I12 => fin I12 nx
  exact codeAny_compStart_dict loop (T.self X.A 0 _ _ _ st4 loop)
theorem pe_dcT {kx vx tg iter : Expr} {ifs : List Expr} {scope : Scope} {own : List (Str × Nat)} {pos : Pos} {wi : TI} {g : TG} {tt : TT} {tk tv : TE} (hc : X.calm = true) (hu : X.A.units + 1 < cLine) (hN : X.N.Nodup) (hi : PI X tg iter wi) (ok : BlkOk X.N X.env.scope scope own)
    (hg : ∀ (s : Shared) (H : Hp) (C : Addr) (cl : List (Str × Addr)) (fp : List Addr), PG (X.blk s H scope (compEnvC scope cl C X.env) fp) tg g) (ht : ∀ (s : Shared) (H : Hp) (C : Addr) (cl : List (Str × Addr)) (fp : List Addr), PTs (X.blk s H scope (compEnvC scope cl C X.env) fp) ifs tt)
    (hk : ∀ (s : Shared) (H : Hp) (C : Addr) (cl : List (Str × Addr)) (fp : List Addr), PE (X.blk s H scope (compEnvC scope cl C X.env) fp) kx tk)
    (he : ∀ (s : Shared) (H : Hp) (C : Addr) (cl : List (Str × Addr)) (fp : List Addr), PE (X.blk s H scope (compEnvC scope cl C X.env) fp) vx tv) (hs : ∀ x, foldedSetIterable iter X.env x = pure x := by intro _; rfl) :
    PE X (.DictComp kx vx [⟨tg, iter, ifs, 0⟩] scope pos) (tDcT wi g tt tk tv (own.map (·.2))) := by
  refine ⟨fun pins s σ H Q I h => ?_⟩
  rw [arm_eval_DictComp]
  refine dcT_core hc hu hN I hi ok hg ht hk he hs h fun D C s' m H' I' q hn f => ⟨m, hn, fun h'' sb => ?_⟩
  obtain ⟨f0, f1, f2, f3, f4, f5⟩ := f
  exact ⟨.ref D, H', I'.turned (t' := s'.toks) (fun b o hb e => (sb.2 b hb).trans e) f0 f1 f3 f4 f5, rfl, q⟩
end
end Pb
set_option Elab.async false
set_option linter.all false
set_option maxRecDepth 100000
set_option maxHeartbeats 4000000
namespace Pb
open PySem PySem.Spec PyProof.Rows L2
/-! ### for i, x in enumerate(t), t a tuple -/
theorem enumNewT {v : Value} {o : Obj} {H : Heap → Prop} (B : Begins v o H) :
    Meets (Builtin.«enumerate.__new__» ⟨[.type "enumerate", v], []⟩) (fun _ R s => H s.heap ∧
      R (.ok (.ret (.ref (s.heap.push o).objs.size))) { s with heap := (s.heap.push o).push { cls := .type "enumerate", data := .fields #[.none, .bool false, .ref s.heap.objs.size, rawInt 0, .none, .none] } }) :=
  .of_wp fun prog w A R s h => by
    obtain ⟨hp, g, d, tk, os⟩ := s
    obtain ⟨h1, h⟩ := h
    have hsub := sub_enumerate
    have q1 : ∀ {A' : Around} {E : Value → Shared → Prop} {Q : Value → Shared → Prop}, Q (.ref hp.objs.size) ⟨hp.push o, g, d, tk, os⟩ → wpAny (model prog w) A' (pyIter v) Q E ⟨hp, g, d, tk, os⟩ :=
      fun q => B.iter prog w _ _ ⟨hp, g, d, tk, os⟩ _ h1 q
    wp_walk using q1
    refine wpAny_stack_any fun st => wpAny_pure ?_
    split
    · rename_i c _ _ _ _ _
      cases (c == Value.type "enumerate")
      all_goals
        wp_walk using q1
        exact ⟨_, rfl, h⟩
    · wp_walk using q1
      exact ⟨_, rfl, h⟩
theorem callEnumT {prog : Program} {w : World} {A : Around} {E : Value → Shared → Prop} {s : Shared} {a : Addr} {items : Array Value} {Q : Value → Shared → Prop} (h1 : s.heap.IsTuple a items)
    (h : ∀ h', IsEnum h' (s.heap.objs.size + 1) s.heap.objs.size 0 .none → h'.IsTupleIter s.heap.objs.size a 0 → h'.objs.size = s.heap.objs.size + 2 →
      (∀ b o, s.heap.get? b = some o → h'.get? b = some o) → Q (.ref (s.heap.objs.size + 1)) { s with heap := h' }) :
    wpAny (model prog w) A (call (.type "enumerate") [.ref a]) Q E s := by
  refine callType_new F.called_enumerate (by decide) (F.typeCall_enumerate_1 _) (F.newCall_enumerate_1 _) (fun obj => F.args_object_init_2 obj _) F.entry_enumerate_new
    (enumNewT (begins_tuple a items)) ⟨h1, ?_⟩
  have hz : (s.heap.push { cls := .type "tuple_iterator", data := .fields #[.ref a, .int 0 0] }).objs.size = s.heap.objs.size + 1 := Heap.size_push ..
  show _ ∧ _
  rw [hz]
  have he : IsEnum ((s.heap.push { cls := .type "tuple_iterator", data := .fields #[.ref a, .int 0 0] }).push { cls := .type "enumerate", data := .fields #[.none, .bool false, .ref s.heap.objs.size, rawInt 0, .none, .none] }) (s.heap.objs.size + 1) s.heap.objs.size 0 .none := by
    have := Heap.get?_push_size (s.heap.push { cls := .type "tuple_iterator", data := .fields #[.ref a, .int 0 0] }) (o := { cls := .type "enumerate", data := .fields #[.none, .bool false, .ref s.heap.objs.size, rawInt 0, .none, .none] }) rfl
    rw [hz] at this
    exact this
  exact ⟨⟨_, he, rfl⟩, h _ he ⟨_, Heap.get?_push_of_some _ (Heap.get?_push_size _ rfl), rfl, rfl⟩ (by rw [Heap.size_push, hz]) fun b o x => Heap.get?_push_of_some _ (Heap.get?_push_of_some _ x)⟩
/-- the tuple at a, each item in a new pair with its index -/
def IteT (K : PySem.W.Frag) (a : Addr) : It :=
  ⟨fun i H => ∃ (xs : List V) (x : V), SqT K H a xs ∧ xs[i]? = some x, fun i H v H' => ∃ T x, v = .ref T ∧ H T = none ∧ H' = upd H T (.tup [.int (i : Nat), x]) ∧ ∀ xs, SqT K H a xs → xs[i]? = some x, fun i H => ∃ xs : List V, SqT K H a xs ∧ xs.length = i⟩
theorem walk_enumT {K : PySem.W.Frag} {a : Addr} {xs : List V} : Walk (IteT K a) xs.length (fun H => SqT K H a xs) (YPair (fun i => some (.int (i : Nat))) (fun i => xs[i]?)) := by
  refine ⟨fun i _ hi q => ⟨xs, xs[i], q, by simp [hi]⟩, fun _ q => ⟨xs, q, rfl⟩, fun i H v H' _ q y => ?_⟩
  obtain ⟨T, x, h1, h2, h3, h4⟩ := y
  exact ⟨T, .int (i : Nat), x, h1, h2, h3, rfl, h4 xs q⟩
theorem walk_zipA {K : PySem.W.Frag} {a b : Addr} {xs ys : List V} {n : Nat} (hn : n = min xs.length ys.length) : Walk (RZ.ItzT K a b) n (fun H => SqT K H a xs ∧ SqT K H b ys) (YPair (fun i => xs[i]?) (fun i => ys[i]?)) := by
  subst hn
  refine ⟨fun i _ hi q => ?_, fun _ q => ⟨xs, ys, q.1, q.2, by omega⟩, fun i H v H' _ q y => ?_⟩
  · have h1 : i < xs.length := by omega
    have h2 : i < ys.length := by omega
    exact ⟨xs, ys, xs[i], ys[i], q.1, q.2, by simp [h1], by simp [h2]⟩
  · obtain ⟨T, x, z, h1, h2, h3, h4, h5⟩ := y
    exact ⟨T, x, z, h1, h2, h3, h4 xs q.1, h5 ys q.2⟩
theorem turn_enumT {P : Program} {w : World} {K : PySem.W.Frag} {elts : List Expr} {kk : Nat} {tpos : Pos} (a e it : Addr) :
    Turn P w K (.Tuple elts kk tpos) (IteT K a) [e, it] e (fun i h => (∃ old, IsEnum h e it ((i : Nat) : Int) old) ∧ h.IsTupleIter it a i ∧ e ≠ it ∧ a ≠ it ∧ a ≠ e) where
  mem := by simp
  obj := fun i h st b hb => by
    obtain ⟨⟨old, he⟩, ⟨o, ho, hc, hd⟩, _⟩ := st
    rcases (show b = e ∨ b = it by simpa using hb) with z | z
    · rw [z]
      exact ⟨_, he, fun v q => nomatch q⟩
    · rw [z]
      exact ⟨o, ho, fun v q => by rw [hd] at q; cases q⟩
  keep := fun i h h' st k => let ⟨⟨old, he⟩, hi, hne⟩ := st; ⟨⟨old, k e (by simp) _ he⟩, hi.at fun o q => k it (by simp) o q, hne⟩
  item := by
    intro X hP hw hK hc i pins s σ H E I hf st hg
    subst hP hw hK
    obtain ⟨⟨old, he⟩, hit, hne, ha1, ha2⟩ := st
    obtain ⟨xs, x, hq, hx⟩ := hg
    obtain ⟨its, rv, p, hz⟩ := I.tuple hq
    have hlt : i < its.toArray.size := by
      have hl := rv.length
      have := (List.getElem?_eq_some_iff.mp hx).1
      simp only [List.size_toArray]
      omega
    have hel : e < s.heap.objs.size := Heap.lt_size he
    have hil : it < s.heap.objs.size := by
      obtain ⟨_, q, _⟩ := hit
      exact Heap.lt_size q
    have pt : s.heap.IsTuple a its.toArray := by
      obtain ⟨o, g1, g2, g3⟩ := p
      exact ⟨o, g1, g2, g3⟩
    refine wpAny_pyNext_enum_itemD (Draws.tuple (prog := X.prog) (w := X.w) (A := X.A.in1) (I.ok.hd hc) it a ha1 its.toArray) he ⟨hit, pt⟩ hlt hne (by simp [hne, Ne.symm ha2]) fun u h' tk hu ho hst' hT hsz hk => ?_
    have hu' : its[i]? = some u := by simpa using hu
    obtain ⟨y, hy, ru⟩ := pair_at' rv hu'
    rw [hx] at hy
    obtain rfl : x = y := Option.some.inj hy
    refine ⟨_, rfl, wpAny_letOwnedTupleGo_enum (s := { s with heap := h', toks := tk + 1 }) ho fun h'' he' sb => ?_⟩
    have hT2 : h''.get? s.heap.objs.size = some { cls := .type "tuple", data := .seq #[.int i tk, u] } := (sb.2 _ (Nat.ne_of_gt hel)).trans hT
    have new : ObjOk X.prog X.w (upd H s.heap.objs.size (.tup [.int (i : Nat), x])) h'' s.heap.objs.size (.tup [.int (i : Nat), x]) :=
      ⟨by show 2 ≤ sizeLine; decide, [.int i tk, u], .cons ⟨_, rfl⟩ (.cons ru .nil), ⟨_, hT2, rfl, _, rfl⟩⟩
    have I1 : Inv X pins σ (upd H s.heap.objs.size (.tup [.int (i : Nat), x])) { s with heap := h'', toks := tk + 1 } :=
      I.turnedNew (ch := [e, it]) (fun b ob hb q => (sb.2 b (fun z => hb (by simp [z]))).trans (hk b ob (fun z => hb (by simp [z])) (fun z => hb (by simp [z])) q)) hf (Nat.le_refl _) new
    refine ⟨.ref s.heap.objs.size, _, I1, rfl, ⟨_, x, rfl, I.hok.fresh (Nat.le_refl _), rfl, fun ys hy => by rw [I.tuple_inj hy hq]; exact hx⟩, ⟨⟨u, ?_⟩, hst'.1.at fun o q => (sb.2 it (Ne.symm hne)).trans q, hne, ha1, ha2⟩, fun b hb => ?_⟩
    · rw [show ((i + 1 : Nat) : Int) = (i : Int) + 1 by omega]
      exact he'
    · have hb' : b < s.heap.objs.size := by
        rcases (show b = e ∨ b = it by simpa using hb) with z | z
        · rw [z]
          exact hel
        · rw [z]
          exact hil
      rw [upd_ne (Nat.ne_of_lt hb')]
      exact (hf b hb).1
  done := by
    intro X hP hw hK hc i pins s σ H E I hf st hg
    subst hP hw hK
    obtain ⟨⟨old, he⟩, hit, hne, ha1, ha2⟩ := st
    obtain ⟨xs, hq, hx⟩ := hg
    obtain ⟨its, rv, p, hz⟩ := I.tuple hq
    obtain ⟨f0, f1, f2, f3, f4, f5⟩ := hf it (by simp)
    have hl := rv.length
    have pt : s.heap.IsTuple a its.toArray := by
      obtain ⟨o, g1, g2, g3⟩ := p
      exact ⟨o, g1, g2, g3⟩
    have hi : i = its.toArray.size := by
      simp only [List.size_toArray]
      omega
    subst hi
    exact wpAny_pyNext_enum_endD (Draws.tuple (prog := X.prog) (w := X.w) (A := X.A.in1) (I.ok.hd hc) it a ha1 its.toArray) he ⟨hit, pt⟩ fun h' eb => ⟨rfl, I.turned (t' := s.toks) (fun b o hb q => eb b o hb q) f0 f1 f3 f4 f5⟩
  self := fun A i s Q E st h => let ⟨⟨_, he⟩, _⟩ := st; wpAny_pyIter_enum he h
def iEnumT (K : PySem.W.Frag) (ta : TA) : TI := fun σ H R => ta σ H fun vs H1 => ∃ a xs, vs = [.ref a] ∧ SqT K H1 a xs ∧ R (IteT K a) H1
theorem pi_enumT {X : Cx} {e : Expr} {ta : TA} {p pos tpos : Pos} {elts : List Expr} {kk : Nat} (hg : Gl X "enumerate") (hm : X.mg "enumerate" = none) (ha : PA X [e] ta) (hs : starEach [e] X.env = [(false, eval e X.env)] := by rfl) :
    PI X (.Tuple elts kk tpos) (.Call (.Name "enumerate" p) [e] [] pos) (iEnumT X.K ta) := by
  refine ⟨fun pins s σ H R I h => ?_⟩
  refine Call_ (ld_blt I hg hm boot_enumerate (PyProof.Rows.callWith_type1 (thn (ha.run pos pins s σ H _ I h) fun us s1 ⟨vs, H1, I1, r1, q1⟩ => ?_) hs rfl))
  obtain ⟨a, xs, rfl, hq, q⟩ := q1
  rw [Vals.ref1 r1]
  obtain ⟨its, rv, p', hz⟩ := I1.tuple hq
  have pt : s1.heap.IsTuple a its.toArray := by
    obtain ⟨o, g1, g2, g3⟩ := p'
    exact ⟨o, g1, g2, g3⟩
  have hal : a < s1.heap.objs.size := p'.lt
  refine callEnumT pt fun h' he hit hsz hk => wpAny_pyIter_enum he ?_
  have I2 : Inv X pins σ H1 { s1 with heap := h' } := I1.kept (t' := s1.toks) hk
  refine ⟨s1.heap.objs.size + 1, [s1.heap.objs.size + 1, s1.heap.objs.size], _, _, H1, rfl, I2, turn_enumT a (s1.heap.objs.size + 1) s1.heap.objs.size, ⟨⟨.none, he⟩, hit, Nat.succ_ne_self _, Nat.ne_of_lt hal, Nat.ne_of_lt (Nat.lt_succ_of_lt hal)⟩, fun b hb => ?_, q⟩
  have hle : s1.heap.objs.size ≤ b := by
    rcases (show b = s1.heap.objs.size + 1 ∨ b = s1.heap.objs.size by simpa using hb) with z | z
    · rw [z]
      exact Nat.le_add_right _ _
    · rw [z]
      exact Nat.le_refl _
  exact I1.fpOk hle (I1.hok.fresh hle)
end Pb
set_option Elab.async false
set_option linter.all false
set_option maxRecDepth 100000
set_option maxHeartbeats 4000000
namespace Pb
open PySem PySem.Spec PyProof.Rows L2
/-! ### sorted(xs, key=lambda x: (len(x), x)), xs a list of tuples of ints -/
abbrev kArgs (x : Str) (p : Pos) : Arguments := { posonlyargs := [], args := [{ arg := x, annotation := none, pos := p : PySem.Arg }], vararg := none, kwonlyargs := [], kw_defaults := [], kwarg := none, defaults := [] }
abbrev kBody (x : Str) (p1 p2 p3 p4 p5 : Pos) (j : Nat) : Expr := .Tuple [.Call (.Name "len" p1) [.Name x p2] [] p3, .Name x p4] j p5
abbrev kSc (x : Str) : Scope := { kind := .function, names := [(x, .local), ("len", .globalImplicit)], isGenerator := false, isCoroutine := false, more := [] }
def KeyCalled (s : Shared) (a : Addr) (n : Nat) (v : Value) (s2 : Shared) : Prop :=
  ∃ h' tk, s2 = { s with heap := h', toks := tk } ∧ (∀ b o, s.heap.get? b = some o → h'.get? b = some o) ∧ ∃ n2 t, v = .ref n2 ∧ h'.get? n2 = some { cls := .type "tuple", data := .seq #[.int n t, .ref a] }
theorem keyCall {prog : Program} {w : World} {A : Around} {E : Value → Shared → Prop} {s : Shared} {mg mb : Str → Option Value} {f c' a : Addr} {x qual : Str} {cl : List (Str × Addr)} {pm ctv : Value} {p0 p1 p2 p3 p4 p5 : Pos} {j : Nat} {its : Array Value}
    (hdep : A.depth < recursionLimit) (lim : s.heap.NoLimit) (ho : s.heap.get? f = some (PySem.W.kla_obj "<lambda>" qual (kArgs x p0) (kBody x p1 p2 p3 p4 p5 j) (kSc x) cl pm c' ctv)) (hcd : s.heap.CodeRec (.ref c') qual)
    (hg : s.heap.Ns mainGlobals mg) (hm : mg "len" = none) (hb : s.heap.Ns builtinsNs mb) (hmb : mb "len" = some (.builtin "len")) (hx : (x == "len") = false) (hd : (x == ("__debug__" : Str)) = false)
    (hbind : bindArgs (PySem.W.kla_fn "<lambda>" qual (kArgs x p0) (kBody x p1 p2 p3 p4 p5 j) (kSc x) cl pm (.ref c') ctv) ⟨[.ref a], []⟩ = pure [(x, .ref a)]) (ht : IsTup s.heap a its) (hsz : (its.size : Int) < 2 ^ 63) :
    wpAny (model prog w) A (call (.ref f) [.ref a]) (KeyCalled s a its.size) E s := by
  have hkx : (kSc x).names.lookup x = some .local := by
    show List.lookup x [(x, NameKind.local), (("len" : Str), NameKind.globalImplicit)] = _
    simp
  have hkl : (kSc x).names.lookup ("len" : Str) = some NameKind.globalImplicit := by
    show List.lookup ("len" : Str) [(x, NameKind.local), (("len" : Str), NameKind.globalImplicit)] = _
    have e : (("len" : Str) == x) = false := by
      rw [← hx]
      exact Bool.eq_iff_iff.mpr ⟨fun h => by rw [beq_iff_eq] at h ⊢; exact h.symm, fun h => by rw [beq_iff_eq] at h ⊢; exact h.symm⟩
    rw [List.lookup_cons, e]
    rfl
  refine wpAny_call (PySem.W.kla_callFunE hdep ho rfl rfl rfl rfl hcd ?_)
  rw [hbind]
  refine wpAny_pure (wpAny_newFunctionEnv (fun y hy => ?_) (fun y hy => ?_) (fun h₁ hns hsb => ⟨lim.fresh _ hsb, ?_⟩) rfl)
  · rcases (show y = (x, NameKind.local) ∨ y = (("len" : Str), NameKind.globalImplicit) by simpa using hy) with rfl | rfl
    · exact fun z => nomatch z
    · exact fun z => nomatch z
  · obtain rfl : y = (x, .ref a) := by simpa using hy
    exact hkx
  have kp : ∀ b o, s.heap.get? b = some o → h₁.get? b = some o := fun b o e => hsb.extBut b o (Nat.ne_of_lt (Heap.lt_size e)) (Heap.get?_push_of_some _ e)
  show codeAny _ _ (.expr (kBody x p1 p2 p3 p4 p5 j) (PySem.W.envX qual (kSc x) s.heap.objs.size f (.ref c') cl)) _ _
  refine PySem.W.kla_codeExpr ?_
  have hv : (fun y => ([(x, Value.ref a)] : List (Str × Value)).reverse.lookup y) x = some (.ref a) := by simp
  have ht1 : IsTup h₁ a its := ht.keeps kp
  have hk1 : (PySem.W.envX qual (kSc x) s.heap.objs.size f (.ref c') cl).kindOf x = some .local := hkx
  have hk2 : (PySem.W.envX qual (kSc x) s.heap.objs.size f (.ref c') cl).kindOf "len" = some .globalImplicit := hkl
  generalize he : PySem.W.envX qual (kSc x) s.heap.objs.size f (.ref c') cl = env at hk1 hk2 ⊢
  have e1 : env.scope.kind = .function := by rw [← he]
  have e2 : env.globals = mainGlobals := by rw [← he]
  have e3 : env.builtins = builtinsNs := by rw [← he]
  have e4 : env.locals = s.heap.objs.size := by rw [← he]
  rw [← e4] at hns
  refine wpAny_Tuple_spliced (args_cons (Call_ (Calls.Name_function_global e1 hk2 (Calls.loadGlobal_builtin (by rw [e2]; exact hg.keeps kp) hm (by rw [e3]; exact hb.keeps kp) hmb ?_))))
  refine PyProof.Rows.callWith_builtin1 (args_cons (wpAny_Name (wpAny_loadName_local e1 hk1 hns hv ?_) hd))
  refine args_nil (PyProof.Rows.len_tuple ht1 hsz ?_)
  refine args_cons (wpAny_Name (wpAny_loadName_local e1 hk1 hns hv ?_) hd)
  refine args_nil ⟨by show 2 ≤ sizeLine; decide, _, _, rfl, fun b o e => Heap.get?_push_of_some _ (kp b o e), _, _, rfl, Heap.get?_push_size _ rfl⟩
/-- the tuple of ints at a -/
def HT (H : Hp) (a : Addr) (xs : List Int) : Prop := H a = some (.tup (xs.map V.int))
theorem HT.im {H H' : Hp} {a : Addr} {xs : List Int} (h : HT H a xs) (k : Im H H') : HT H' a xs := k a _ h
theorem HT.ex {T : Tb} {H H' : Hp} {a : Addr} {xs : List Int} (h : HT H a xs) (k : Ex T H H') : HT H' a xs := k.tup h
abbrev kData (b : Addr × List Int) : PyData := .tuple [.int b.2.length, .tuple (b.2.map .int)]
theorem alikeAllInts : ∀ xs ys : List Int, PySem.W.alikeAll (xs.map PyData.int) (ys.map PyData.int) = true
  | [], _ => by simp [PySem.W.alikeAll]
  | _ :: _, [] => by simp [PySem.W.alikeAll]
  | x :: xs, y :: ys => by
    simp only [List.map_cons, PySem.W.alikeAll, PySem.W.alike, Bool.true_and]
    exact alikeAllInts xs ys
theorem kDepth (b : Addr × List Int) : (kData b).depth ≤ 2 := by
  have h := depthInts b.2
  simp only [PyData.depth, PyData.depthAll, h]
  omega
theorem dpIntsV (K : PySem.W.Frag) (H : Hp) (xs : List Int) : DpAll K H (xs.map V.int) (xs.map PyData.int) := dpInts K H xs
def tSortK (T : Tb) (te : TE) : TE := fun σ H Q => te σ H fun x H1 => LamX.Tabs T H1 ∧ ∃ (a : Addr) (bs : List (Addr × List Int)), x = .ref a ∧ H1 a = some (.lst (bs.map fun b => V.ref b.1)) ∧ (∀ b ∈ bs, HT H1 b.1 b.2) ∧
  ∀ (H2 : Hp) (p : Addr) (bs' : List (Addr × List Int)), Ex T H1 H2 → H2 p = none → bs'.Perm bs → Q (.ref p) (upd H2 p (.lst (bs'.map fun b => V.ref b.1)))
theorem eachRefs : ∀ bs : List (Addr × List Int), PySem.W.EachIs (fun (v : Value) (b : Addr × List Int) => v = .ref b.1) (bs.map fun b => Value.ref b.1) bs
  | [] => .nil
  | b :: bs => .cons rfl (eachRefs bs)
theorem refsEach : ∀ {out : List Value} {bs : List (Addr × List Int)}, PySem.W.EachIs (fun (v : Value) (b : Addr × List Int) => v = .ref b.1) out bs → out = bs.map fun b => Value.ref b.1
  | _, _, .nil => rfl
  | _, _, .cons h t => by rw [h, refsEach t]; rfl
theorem valRefs : ∀ bs : List (Addr × List Int), Vals (bs.map fun b => V.ref b.1) (bs.map fun b => Value.ref b.1)
  | [] => .nil
  | b :: bs => .cons rfl (valRefs bs)
theorem intsOfTup {h : Heap} {a : Addr} {xs : List Int} {its : List Value} (ht : IsTup h a its.toArray) (r : Vals (xs.map V.int) its) : Reads h (.ref a) (.tuple (xs.map PyData.int)) [] := by
  obtain ⟨o, g1, g2, n, g3⟩ := ht
  refine Reads.tuple g1 g2 g3 ?_
  have all : ∀ (ys : List Int) (us : List Value), Vals (ys.map V.int) us → ReadsAll h us (ys.map PyData.int) [] := by
    intro ys
    induction ys with
    | nil =>
      intro us q
      cases q
      exact .nil
    | cons y ys ih =>
      intro us q
      cases q with
      | cons q1 q2 =>
        obtain ⟨t, rfl⟩ := q1
        exact .cons (as := []) (.int y t) (ih _ q2)
  simpa using all xs its r
section
variable {X : Cx}
theorem pe_sortK {T : Tb} {x : Str} {c P : Addr} {k j : Nat} {e : Expr} {te : TE} {p q p0 p1 p2 p3 p4 p5 lp kp : Pos} (hr : Room k X.A) (hg : Gl X "sorted") (hm : X.mg "sorted" = none) (hml : X.mg "len" = none) (he : PE X e te) (TB : LamX.TabB X.base X.mg c P) (hcode : X.env.code = .ref c)
    (hmT : (P, X.env.qual ++ "<lambda>") ∈ T) (hu : ∀ p ∈ T, p.1 = P → p.2 = X.env.qual ++ "<lambda>") (hdef : defaultsOf (kArgs x p0) X.env = ([], [])) (hx : (x == "len") = false) (hd : (x == ("__debug__" : Str)) = false)
    (hbind : ∀ (q : Str) (cl : List (Str × Addr)) (pm ctv : Value) (c' a : Addr), bindArgs (PySem.W.kla_fn "<lambda>" q (kArgs x p0) (kBody x p1 p2 p3 p4 p5 j) (kSc x) cl pm (.ref c') ctv) ⟨[.ref a], []⟩ = pure [(x, .ref a)])
    (hes : backTo q (starEach [e] X.env) = (false, eval e X.env) :: backTo q (starEach [] X.env) := by rfl) (hpl : (backTo q (starEach [e] X.env)).any (·.1) = false := by rfl) :
    PE X (.Call (.Name "sorted" p) [e] [⟨some "key", .Lambda (kArgs x p0) (kBody x p1 p2 p3 p4 p5 j) (kSc x) lp, kp⟩] q) (tSortK T te) := by
  refine ⟨fun pins s σ H Q I h => ?_⟩
  refine wpAny_Call_Name_kw (ld_blt I hg hm boot_sorted ?_)
  refine PyProof.Rows.callWith_kw (e := e) (rest := []) ?_ hes hpl
  rw [hes]
  refine Calls.spliced_cons (thn (he.run pins s σ H _ I h) fun u s1 ⟨v, H1, I1, r1, q1⟩ => Calls.spliced_nil ?_)
  obtain ⟨hT, a, bs, rfl, hl, hbs, q⟩ := q1
  obtain rfl : u = Value.ref a := r1
  show wpAny _ _ (evalAll ((do let v ← eval (.Lambda (kArgs x p0) (kBody x p1 p2 p3 p4 p5 j) (kSc x) lp) X.env; standAt _; pure v) :: [])) _ _ s1
  have hfree : ∀ y ∈ (kSc x).names, y.2 = .free → ∃ c, X.env.cells.lookup y.1 = some c := fun y hy z => by
    rcases (show y = (x, NameKind.local) ∨ y = (("len" : Str), NameKind.globalImplicit) by simpa using hy) with rfl | rfl
    · exact nomatch z
    · exact nomatch z
  refine wpAny_evalAll_cons (wpAny_bind (LamX.lam_make2 I1 TB hcode hmT hu hT hdef hfree fun f c' pm ctv H2 s2 I2 eN T2 hf hfn hfr hco => wpAny_bind (wpAny_standAt (wpAny_pure (wpAny_evalAll_nil ?_)))))
  have x12 : Ex T H1 H2 := ⟨eN, fun _ => T2⟩
  obtain ⟨its, rv, pl, hz⟩ := I2.list (.inl (.of (x12.lst hl)))
  have eits : its = bs.map fun b => Value.ref b.1 := by
    have h1 := rv
    have e1 : (bs.map fun b => V.ref b.1) = (bs.map (·.1)).map V.ref := by rw [List.map_map]; rfl
    rw [e1] at h1
    rw [refs_at h1, List.map_map]
    rfl
  subst eits
  obtain ⟨⟨oc, vs, t, hoc, hdc, hvc⟩, _, _⟩ := I2.hok c' _ hco
  obtain ⟨mb, hb1, hb2⟩ := I2.mod.blt
  have hdp := hr.dp
  have hun := hr.un
  have hlen : bs.length ≤ sizeLine := by rw [List.length_map] at hz; exact hz
  show wpAny _ _ (call (.builtin "sorted") [.ref a] [(Str.ofString "key", .ref f)]) _ _ s2
  refine PySem.W.sorted_key_data (b := false) (R := fun (v : Value) (b : Addr × List Int) => v = .ref b.1) kData pl.isList (eachRefs bs) (PySem.W.AllAlike.of fun b b' => ?_) (PySem.W.Sortable.tuples fun b => ⟨_, _, rfl⟩) hlen (fun b _ => ?_)
    (ksk_s1 _ _) (fun _ => ksk_l1 _ _) (fun _ => ksk_t1 _ _) (fun v b hv hb h tk kp' => ?_) fun out c2 h' tk kp' hnone hD hlo eo => ?_
  · simp only [PySem.W.alike, PySem.W.alikeAll, Bool.true_and, Bool.and_true]
    exact alikeAllInts _ _
  · have := kDepth b
    omega
  · subst hv
    obtain ⟨its, rv2, pt, hz2⟩ := I2.tuple (.inl (.of ((hbs b hb).ex x12)))
    have ptk : IsTup h b.1 its.toArray := pt.keeps kp'
    have hl2 := rv2.length
    have hsz : its.toArray.size = b.2.length := by
      simp only [List.size_toArray]
      rw [← hl2, List.length_map]
    refine wpAny_mono (keyCall (mg := X.mg) (mb := mb) (s := { s2 with heap := h, toks := tk }) ?_ (I2.nolimit.keeps kp') (kp' _ _ hf) ⟨c', oc, vs, t, rfl, kp' _ _ hoc, hdc, hvc⟩ ((I2.mod.glob.keeps I2.bk).keeps kp') hml ((hb1.keeps I2.bk).keeps kp') (hb2 "len" (by decide)) hx hd (hbind _ _ _ _ _ _) ptk ?_) (fun v s3 h3 => ?_) fun _ _ z => z
    · show X.A.depth < recursionLimit
      omega
    · have := line63
      simp only [List.size_toArray]
      rw [← hl2]
      omega
    · obtain ⟨h3, tk3, rfl, k3, n2, t3, rfl, g3⟩ := h3
      refine ⟨h3, tk3, rfl, k3, ?_⟩
      rw [hsz] at g3
      refine Reads.tuple (as := []) g3 rfl rfl ?_
      exact .cons (as := []) (.int _ _) (.cons (as := []) (intsOfTup (ptk.keeps k3) rv2) .nil)
  · have eo' := refsEach eo
    subst eo'
    have I3 : Inv X pins σ H2 { s2 with heap := h', toks := tk } := I2.kept kp'
    have hper : (bs.mergeSort (PySem.W.dataLe false kData)).Perm bs := List.mergeSort_perm _ _
    have nN : H2 (s2.heap.objs.size + 1) = none := I2.hok.fresh (Nat.le_succ _)
    have hlx := hper.length_eq
    refine ⟨.ref (s2.heap.objs.size + 1), _, I2.laid (t' := tk) kp' (Nat.le_succ _) (show ObjOk X.prog X.w _ _ _ (.lst ((bs.mergeSort (PySem.W.dataLe false kData)).map fun b => V.ref b.1)) from ⟨by rw [List.length_map, hlx]; exact hlen, _, c2, valRefs _, hD⟩), rfl, q H2 _ _ x12 nN hper⟩
end
end Pb
set_option Elab.async false
set_option linter.all false
set_option maxRecDepth 100000
set_option maxHeartbeats 4000000
namespace Pb
open PySem PySem.Spec PyProof.Rows L2
/-! ### len(x), x an instance with slots whose class has its own __len__ -/
theorem len_own {prog : Program} {w : World} {A : Around} {E : Value → Shared → Prop} {s : Shared} {K : PySem.W.Frag} {x C f : Addr} {ox : Obj} {odd : Option Obj} {Q : Value → Shared → Prop} (X : K.In s.heap) (I : PySem.W.InstAt s.heap x ox C odd)
    (hs : PySem.W.findIn K (.ref C) "__len__" = some (some (.ref f))) (hf : PySem.W.isFn K (.ref f) = true)
    (h : wpAny (model prog w) A.in1 (call (.ref f) [.ref x]) (fun r s₁ => ∃ n t, r = Value.int n t ∧ 0 ≤ n ∧ n < 2 ^ 63 ∧ ∀ t' tk, Q (.int n t') { s₁ with toks := tk }) E s) : wpAny (model prog w) A (call (.builtin "len") [.ref x]) Q E s := by
  refine Calls.call_function_entry kind_len plain_len entry_len (args_len1 _) ?_
  unfold Builtin.«len»
  refine wpAny_bind (m := oneArg "len" _) (wpAny_pure ?_)
  refine wpAny_bind (m := callSpecial? (.ref x) (Str.ofString "__len__")) (PySem.W.special_fn X I hs (beq_iff_eq.mp hf) (wpAny_mono h (fun r s' hr => ?_) fun _ _ y => y))
  obtain ⟨n, t, rfl, h0, h1, hq⟩ := hr
  refine wpAny_bind (wpAny_holding (wpAny_pure ?_))
  refine wpAny_bind (wpAny_letGo ?_)
  show wpAny _ _ (if n < 0 then _ else _) _ _ _
  rw [if_neg (by omega)]
  show wpAny _ _ (if n ≥ 2 ^ 63 then _ else _) _ _ _
  rw [if_neg (by omega)]
  exact wpAny_bind (wpAny_mkInt (wpAny_pure ⟨_, rfl, hq _ _⟩))
section
variable {X : Cx} {CX : CXT} {C g : Addr} {n : Nat} {sp : Sp} {E : XK}
def rLenOwn (C : Addr) (sp : Sp) (E : XK) : List V → Hp → VK → Prop := fun xs H Q => ∃ a dx vs, xs = [V.ref a] ∧ SlX.Slt H a C dx vs ∧ sp [.ref a] H (fun z H' => ∃ i : Int, z = .int i ∧ 0 ≤ i ∧ i < 2 ^ 63 ∧ Q z H') E
theorem call_lenOwn (hs : PySem.W.findIn X.K (.ref C) "__len__" = some (some (.ref g))) (hf : PySem.W.isFn X.K (.ref g) = true) (F : FnR X.prog X.w X.K X.mg X.base CX n g sp) (hr : Room (n + 1) X.A) (hx : Passes CX X E) : CallR X (.builtin "len") (rLenOwn C sp E) := by
  intro pins s σ H xs us Q I r h
  obtain ⟨a, dx, vs, rfl, hsl, q⟩ := h
  rw [Vals.ref1 r]
  obtain ⟨sl, od, _, J, _⟩ := SlX.slt_inst I hsl
  refine len_own I.kIn J hs hf (wpAny_mono (wpAny_call (SlX.run_at (us := [.ref a]) (ws := [.ref a]) F hr.in1 I.env0.in1 hx I (.cons rfl .nil) q)) (fun w s' z => ?_) fun _ _ x => x)
  obtain ⟨z', H', I', rz, i, rfl, h0, h1, qz⟩ := z
  obtain ⟨t, rfl⟩ := (show ∃ t, w = Value.int i t from rz)
  exact ⟨i, t, rfl, h0, h1, fun t' tk => ⟨.int i, H', I'.tok tk, ⟨t', rfl⟩, qz⟩⟩
end
end Pb
set_option Elab.async false
set_option linter.all false
set_option maxRecDepth 100000
set_option maxHeartbeats 4000000
namespace Pb
/-! ## the plain law: sets -/
def U : List Int := [0, 1, 2, 3, 4]
def IsS (M : Int) (s : List Int) : Prop := (∀ m ∈ s, 0 ≤ m ∧ m < M) ∧ s.Pairwise (· < ·)
def sub (s t : List Int) : Bool := s.all fun m => decide (m ∈ t)
def jn (s c : List Int) : List Int := U.filter fun m => decide (m ∈ s) || decide (m ∈ c)
theorem sub_iff {s t : List Int} : sub s t = true ↔ ∀ m ∈ s, m ∈ t := by
  unfold sub
  rw [List.all_eq_true]
  exact ⟨fun h m hm => of_decide_eq_true (h m hm), fun h m hm => decide_eq_true (h m hm)⟩
theorem asc_ext : ∀ {s t : List Int}, s.Pairwise (· < ·) → t.Pairwise (· < ·) → (∀ m, m ∈ s ↔ m ∈ t) → s = t
  | [], [], _, _, _ => rfl
  | [], y :: t, _, _, h => absurd ((h y).mpr List.mem_cons_self) (by simp)
  | x :: s, [], _, _, h => absurd ((h x).mp List.mem_cons_self) (by simp)
  | x :: s, y :: t, p, q, h => by
    obtain ⟨p1, p2⟩ := List.pairwise_cons.mp p
    obtain ⟨q1, q2⟩ := List.pairwise_cons.mp q
    have hxy : x = y := by
      have h1 := (h x).mp List.mem_cons_self
      have h2 := (h y).mpr List.mem_cons_self
      rcases List.mem_cons.mp h1 with e | e
      · exact e
      · rcases List.mem_cons.mp h2 with e2 | e2
        · exact e2.symm
        · have := q1 x e
          have := p1 y e2
          omega
    subst hxy
    refine congrArg (List.cons x) (asc_ext p2 q2 fun m => ⟨fun hm => ?_, fun hm => ?_⟩)
    · rcases List.mem_cons.mp ((h m).mp (List.mem_cons_of_mem _ hm)) with e | e
      · have := p1 m hm
        omega
      · exact e
    · rcases List.mem_cons.mp ((h m).mpr (List.mem_cons_of_mem _ hm)) with e | e
      · have := q1 m hm
        omega
      · exact e
theorem mem_U {m : Int} : m ∈ U ↔ 0 ≤ m ∧ m < 5 := by
  unfold U
  simp only [List.mem_cons, List.not_mem_nil, or_false]
  omega
theorem asc_U : U.Pairwise (· < ·) := by decide
theorem asc_f (f : Int → Bool) : (U.filter f).Pairwise (· < ·) := asc_U.filter f
theorem IsS.mono {M N : Int} {s : List Int} (h : IsS M s) (l : M ≤ N) : IsS N s := ⟨fun m hm => ⟨(h.1 m hm).1, by have := (h.1 m hm).2; omega⟩, h.2⟩
theorem IsS.canon {s : List Int} (h : IsS 5 s) : s = U.filter fun m => decide (m ∈ s) := by
  refine asc_ext h.2 (asc_f _) fun m => ?_
  rw [List.mem_filter, mem_U]
  simp only [decide_eq_true_eq]
  exact ⟨fun hm => ⟨h.1 m hm, hm⟩, fun hm => hm.2⟩
theorem mem_jn {s c : List Int} (h : IsS 5 s) (k : IsS 5 c) {m : Int} : m ∈ jn s c ↔ m ∈ s ∨ m ∈ c := by
  unfold jn
  rw [List.mem_filter, mem_U]
  simp only [Bool.or_eq_true, decide_eq_true_eq]
  refine ⟨fun hm => hm.2, fun hm => ⟨?_, hm⟩⟩
  rcases hm with hm | hm
  · exact h.1 m hm
  · exact k.1 m hm
theorem IsS.jn {M : Int} {s c : List Int} (hM : M ≤ 5) (h : IsS M s) (k : IsS M c) : IsS M (jn s c) := by
  refine ⟨fun m hm => ?_, asc_f _⟩
  rcases (mem_jn (h.mono hM) (k.mono hM)).mp hm with e | e
  · exact h.1 m e
  · exact k.1 m e
theorem IsS.len {s : List Int} (h : IsS 5 s) : s.length ≤ 5 := by
  rw [h.canon]
  exact List.length_filter_le _ U
/-- a set that is within another is no longer; strictly shorter where they part -/
theorem sub_len {s t : List Int} (h : IsS 5 s) (k : IsS 5 t) (q : ∀ m ∈ s, m ∈ t) : s.length ≤ t.length ∧ (s ≠ t → s.length < t.length) := by
  have e : s = t.filter fun m => decide (m ∈ s) := by
    refine asc_ext h.2 (k.2.filter _) fun m => ?_
    rw [List.mem_filter]
    simp only [decide_eq_true_eq]
    exact ⟨fun hm => ⟨q m hm, hm⟩, fun hm => hm.2⟩
  have l := List.length_filter_le (fun m => decide (m ∈ s)) t
  rw [← e] at l
  refine ⟨l, fun ne => ?_⟩
  rcases Nat.lt_or_ge s.length t.length with z | z
  · exact z
  · have e2 : (t.filter fun m => decide (m ∈ s)).length = t.length := by
      rw [← e]
      omega
    rw [List.length_filter_eq_length_iff] at e2
    have e3 : t.filter (fun m => decide (m ∈ s)) = t := List.filter_eq_self.mpr e2
    exact absurd (e.trans e3) ne
theorem jn_sub {s c : List Int} (h : IsS 5 s) (k : IsS 5 c) : ∀ m ∈ s, m ∈ jn s c := fun m hm => (mem_jn h k).mpr (.inl hm)
/-! ### all sets -/
def subsN : Nat → List (List Int)
  | 0 => [[]]
  | n + 1 => subsN n ++ (subsN n).map fun s => s ++ [(n : Int)]
def subs (M : Int) : List (List Int) := subsN M.toNat
theorem subsN_is : ∀ n : Nat, ∀ s ∈ subsN n, IsS n s
  | 0, s, h => by
    have e : s = [] := by simpa [subsN] using h
    subst e
    exact ⟨fun m hm => (nomatch hm), List.Pairwise.nil⟩
  | n + 1, s, h => by
    rcases List.mem_append.mp (show s ∈ subsN n ++ _ from h) with h | h
    · exact (subsN_is n s h).mono (by omega)
    · obtain ⟨t, ht, rfl⟩ := List.mem_map.mp h
      obtain ⟨h1, h2⟩ := subsN_is n t ht
      refine ⟨fun m hm => ?_, ?_⟩
      · rcases List.mem_append.mp hm with hm | hm
        · have := h1 m hm
          omega
        · have e : m = (n : Int) := by simpa using hm
          omega
      · rw [List.pairwise_append]
        refine ⟨h2, by simp, fun x hx y hy => ?_⟩
        have e : y = (n : Int) := by simpa using hy
        have := h1 x hx
        omega
theorem subsN_all : ∀ (n : Nat) (s : List Int), IsS n s → s ∈ subsN n
  | 0, s, h => by
    cases s with
    | nil => simp [subsN]
    | cons x r =>
      have := h.1 x List.mem_cons_self
      omega
  | n + 1, s, h => by
    show s ∈ subsN n ++ _
    by_cases hn : (n : Int) ∈ s
    · refine List.mem_append_right _ (List.mem_map.mpr ⟨s.filter fun m => decide (m < n), subsN_all n _ ⟨fun m hm => ?_, h.2.filter _⟩, ?_⟩)
      · obtain ⟨h1, h2⟩ := List.mem_filter.mp hm
        exact ⟨(h.1 m h1).1, of_decide_eq_true h2⟩
      · refine asc_ext ?_ h.2 fun m => ?_
        · rw [List.pairwise_append]
          refine ⟨h.2.filter _, by simp, fun x hx y hy => ?_⟩
          have e : y = (n : Int) := by simpa using hy
          have := of_decide_eq_true (List.mem_filter.mp hx).2
          omega
        · rw [List.mem_append, List.mem_filter, List.mem_singleton]
          simp only [decide_eq_true_eq]
          constructor
          · rintro (hm | rfl)
            · exact hm.1
            · exact hn
          · intro hm
            have := h.1 m hm
            by_cases e : m = (n : Int)
            · exact .inr e
            · exact .inl ⟨hm, by omega⟩
    · refine List.mem_append_left _ (subsN_all n s ⟨fun m hm => ?_, h.2⟩)
      have := h.1 m hm
      have : m ≠ (n : Int) := fun e => hn (e ▸ hm)
      omega
theorem subs_iff {M : Int} (h : 0 ≤ M) {s : List Int} : s ∈ subs M ↔ IsS M s := by
  unfold subs
  have e : ((M.toNat : Nat) : Int) = M := by omega
  constructor
  · intro hs
    have := subsN_is _ s hs
    rwa [e] at this
  · intro hs
    refine subsN_all _ s ?_
    rwa [e]
theorem subs_hash {M : Int} (h : 0 ≤ M) (h5 : M ≤ 5) : ((subs M).map hS).Nodup := by
  have hM : M = 0 ∨ M = 1 ∨ M = 2 ∨ M = 3 ∨ M = 4 ∨ M = 5 := by omega
  rcases hM with rfl | rfl | rfl | rfl | rfl | rfl <;> decide +kernel
theorem subs_len {M : Int} (h : 0 ≤ M) (h5 : M ≤ 5) : (subs M).length ≤ 32 := by
  have hM : M = 0 ∨ M = 1 ∨ M = 2 ∨ M = 3 ∨ M = 4 ∨ M = 5 := by omega
  rcases hM with rfl | rfl | rfl | rfl | rfl | rfl <;> decide +kernel
theorem nodup_of_map {α β : Type} {f : α → β} : ∀ {l : List α}, (l.map f).Nodup → l.Nodup
  | [], _ => .nil
  | x :: l, h => by
    rw [List.map_cons, List.nodup_cons] at h
    exact List.nodup_cons.mpr ⟨fun hx => h.1 (List.mem_map_of_mem hx), nodup_of_map h.2⟩
theorem subs_nodup {M : Int} (h : 0 ≤ M) (h5 : M ≤ 5) : (subs M).Nodup := nodup_of_map (subs_hash h h5)
/-- unlike sets hash unlike -/
theorem hash_inj {M : Int} (h : 0 ≤ M) (h5 : M ≤ 5) {ss : List (List Int)} (hs : ∀ s ∈ ss, IsS M s) (n : ss.Nodup) : (ss.map hS).Nodup := by
  have inj : ∀ (l : List (List Int)), (l.map hS).Nodup → ∀ a ∈ l, ∀ b ∈ l, hS a = hS b → a = b := by
    intro l
    induction l with
    | nil => intro _ a ha; exact nomatch ha
    | cons x l ih =>
      intro hn a ha b hb e
      rw [List.map_cons, List.nodup_cons] at hn
      rcases List.mem_cons.mp ha with ea | ha
      · rcases List.mem_cons.mp hb with eb | hb
        · rw [ea, eb]
        · exact absurd (List.mem_map.mpr ⟨b, hb, by rw [← e, ea]⟩) hn.1
      · rcases List.mem_cons.mp hb with eb | hb
        · exact absurd (List.mem_map.mpr ⟨a, ha, by rw [e, eb]⟩) hn.1
        · exact ih hn.2 a ha b hb e
  have key := inj _ (subs_hash h h5)
  induction ss with
  | nil => exact .nil
  | cons x r ih =>
    rw [List.nodup_cons] at n
    rw [List.map_cons, List.nodup_cons]
    refine ⟨fun hm => ?_, ih (fun s hs' => hs s (List.mem_cons_of_mem _ hs')) n.2⟩
    obtain ⟨y, hy, e⟩ := List.mem_map.mp hm
    have := key y ((subs_iff h).mpr (hs y (List.mem_cons_of_mem _ hy))) x ((subs_iff h).mpr (hs x List.mem_cons_self)) e
    exact n.1 (this ▸ hy)
/-! ### tables -/
section
variable {κ α : Type} [DecidableEq κ]
def lk (t : List (κ × α)) (k : κ) : Option α := (t.find? fun p => decide (p.1 = k)).map (·.2)
def pt (t : List (κ × α)) (k : κ) (v : α) : List (κ × α) := if (t.any fun p => decide (p.1 = k)) = true then t.map (fun p => if p.1 = k then (p.1, v) else p) else t ++ [(k, v)]
theorem lk_nil {k : κ} : lk ([] : List (κ × α)) k = none := rfl
theorem lk_cons {p : κ × α} {r : List (κ × α)} {k : κ} : lk (p :: r) k = if p.1 = k then some p.2 else lk r k := by
  unfold lk
  rw [List.find?_cons]
  by_cases h : p.1 = k
  · rw [if_pos h, decide_eq_true h]
    rfl
  · rw [if_neg h, decide_eq_false h]
theorem lk_any (k : κ) : ∀ t : List (κ × α), (t.any fun p => decide (p.1 = k)) = (lk t k).isSome
  | [] => rfl
  | p :: r => by
    rw [List.any_cons, lk_cons, lk_any k r]
    by_cases h : p.1 = k
    · rw [if_pos h, decide_eq_true h]
      rfl
    · rw [if_neg h, decide_eq_false h, Bool.false_or]
theorem lk_map (k j : κ) (v : α) : ∀ t : List (κ × α), lk (t.map fun p => if p.1 = k then (p.1, v) else p) j = if j = k then (lk t j).map (fun _ => v) else lk t j
  | [] => by simp [lk_nil]
  | p :: r => by
    rw [List.map_cons, lk_cons, lk_cons, lk_map k j v r]
    by_cases h : p.1 = k
    · rw [if_pos h]
      by_cases e : j = k
      · have e2 : p.1 = j := h.trans e.symm
        rw [if_pos e, if_pos e]
        simp only
        rw [if_pos e2, if_pos e2]
        rfl
      · have e2 : ¬ p.1 = j := fun z => e (z.symm.trans h)
        rw [if_neg e, if_neg e]
        simp only
        rw [if_neg e2, if_neg e2]
    · rw [if_neg h]
      by_cases e : j = k
      · have e2 : ¬ p.1 = j := fun z => h (z.trans e)
        rw [if_neg e2, if_neg e2]
      · rw [if_neg e, if_neg e]
theorem lk_snoc (k j : κ) (v : α) : ∀ t : List (κ × α), lk t k = none → lk (t ++ [(k, v)]) j = if j = k then some v else lk t j
  | [], _ => by
    rw [List.nil_append, lk_cons, lk_nil]
    by_cases e : j = k
    · rw [if_pos e, if_pos e.symm]
    · rw [if_neg e, if_neg (fun z => e z.symm)]
  | p :: r, h => by
    rw [lk_cons] at h
    by_cases e : p.1 = k
    · rw [if_pos e] at h
      cases h
    · rw [if_neg e] at h
      rw [List.cons_append, lk_cons, lk_cons, lk_snoc k j v r h]
      by_cases e2 : p.1 = j
      · rw [if_pos e2, if_pos e2, if_neg (fun z => e (e2.trans z))]
      · rw [if_neg e2, if_neg e2]
theorem lk_pt (t : List (κ × α)) (k j : κ) (v : α) : lk (pt t k v) j = if j = k then some v else lk t j := by
  unfold pt
  rw [lk_any]
  cases h : lk t k with
  | none => exact lk_snoc k j v t h
  | some u =>
    rw [Option.isSome_some, if_pos rfl, lk_map]
    by_cases e : j = k
    · rw [if_pos e, if_pos e, e, h]
      rfl
    · rw [if_neg e, if_neg e]
theorem pt_keys (t : List (κ × α)) (k : κ) (v : α) : (pt t k v).map (·.1) = if (lk t k).isSome = true then t.map (·.1) else t.map (·.1) ++ [k] := by
  unfold pt
  rw [lk_any]
  by_cases h : (lk t k).isSome = true
  · rw [if_pos h, if_pos h, List.map_map]
    refine List.map_congr_left fun p _ => ?_
    show (if p.1 = k then (p.1, v) else p).1 = p.1
    split <;> rfl
  · rw [if_neg h, if_neg h, List.map_append]
    rfl
theorem lk_mem {t : List (κ × α)} {k : κ} : (lk t k).isSome = true ↔ k ∈ t.map (·.1) := by
  rw [← lk_any, List.any_eq_true, List.mem_map]
  exact ⟨fun ⟨p, h1, h2⟩ => ⟨p, h1, of_decide_eq_true h2⟩, fun ⟨p, h1, h2⟩ => ⟨p, h1, decide_eq_true h2⟩⟩
theorem lk_in {t : List (κ × α)} {k : κ} {v : α} (h : lk t k = some v) : (k, v) ∈ t := by
  unfold lk at h
  cases e : t.find? fun p => decide (p.1 = k) with
  | none => rw [e] at h; cases h
  | some p =>
    rw [e] at h
    have h1 := List.mem_of_find?_eq_some e
    have h2 : p.1 = k := by simpa using List.find?_some e
    have h3 : p.2 = v := Option.some.inj h
    rw [← h2, ← h3]
    exact h1
theorem lk_of {t : List (κ × α)} (n : (t.map (·.1)).Nodup) : ∀ {k : κ} {v : α}, (k, v) ∈ t → lk t k = some v := by
  induction t with
  | nil => intro k v h; exact nomatch h
  | cons p r ih =>
    intro k v h
    rw [List.map_cons, List.nodup_cons] at n
    rw [lk_cons]
    rcases List.mem_cons.mp h with e | h
    · rw [if_pos (by rw [← e]), ← e]
    · rw [if_neg (fun z => n.1 (by rw [z]; exact List.mem_map.mpr ⟨_, h, rfl⟩))]
      exact ih n.2 h
theorem pt_nodup {t : List (κ × α)} {k : κ} {v : α} (n : (t.map (·.1)).Nodup) : ((pt t k v).map (·.1)).Nodup := by
  rw [pt_keys]
  by_cases h : (lk t k).isSome = true
  · rw [if_pos h]
    exact n
  · rw [if_neg h, List.nodup_append]
    refine ⟨n, by simp, fun a ha b hb e => h ?_⟩
    have e2 : b = k := by simpa using hb
    rw [lk_mem, ← e2, ← e]
    exact ha
theorem pt_len (t : List (κ × α)) (k : κ) (v : α) : (pt t k v).length ≤ t.length + 1 := by
  have h := congrArg List.length (pt_keys t k v)
  rw [List.length_map] at h
  rw [h]
  split
  · rw [List.length_map]
    omega
  · rw [List.length_append, List.length_map]
    simp
/-- a list of keys without twins within a list of keys is no longer -/
theorem nodup_le : ∀ {l m : List κ}, l.Nodup → (∀ x ∈ l, x ∈ m) → l.length ≤ m.length
  | [], _, _, _ => Nat.zero_le _
  | x :: l, m, n, h => by
    rw [List.nodup_cons] at n
    have hx := h x List.mem_cons_self
    have := nodup_le (l := l) (m := m.erase x) n.2 fun y hy => by
      rw [List.mem_erase_of_ne (fun e : y = x => n.1 (by rw [← e]; exact hy))]
      exact h y (List.mem_cons_of_mem _ hy)
    rw [List.length_erase_of_mem hx] at this
    have hp : 0 < m.length := List.length_pos_of_mem hx
    rw [List.length_cons]
    omega
end
end Pb
set_option Elab.async false
set_option linter.all false
set_option maxRecDepth 100000
set_option maxHeartbeats 4000000
namespace Pb
/-! ## the plain law: what marks cost -/
abbrev Ru := List Int × List Int
abbrev PR := Ru × Int
def RsOk (M : Int) (R : List PR) : Prop := ∀ r ∈ R, IsS M r.1.1 ∧ IsS M r.1.2 ∧ 1 ≤ r.2 ∧ r.2 ≤ 9
def gv (f : Int → Option Int) (m : Int) : Int := (f m).getD 0
def pay (wd : Bool) (f : Int → Option Int) (p : List Int) (w : Int) : Int := w + (if wd = true then (p.map (gv f)).sum else (p.map (gv f)).foldl max 0)
def ap (f : Int → Option Int) (p : List Int) : Prop := ∀ m ∈ p, (f m).isSome = true
def fu {κ α : Type} [DecidableEq κ] (f : κ → Option α) (m : κ) (v : α) : κ → Option α := fun j => if j = m then some v else f j
def NN (f : Int → Option Int) : Prop := ∀ m v, f m = some v → 0 ≤ v
theorem gv_some {f : Int → Option Int} {m v : Int} (h : f m = some v) : gv f m = v := by unfold gv; rw [h]; rfl
theorem gv_nn {f : Int → Option Int} (h : NN f) (m : Int) : 0 ≤ gv f m := by
  unfold gv
  cases e : f m with
  | none => exact Int.le_refl _
  | some v => exact h m v e
theorem isSome_gv {f : Int → Option Int} {m : Int} (h : (f m).isSome = true) : f m = some (gv f m) := by
  unfold gv
  cases e : f m with
  | none => rw [e] at h; cases h
  | some v => rfl
theorem sum_nn {α : Type} {g : α → Int} : ∀ {l : List α}, (∀ x ∈ l, 0 ≤ g x) → 0 ≤ (l.map g).sum
  | [], _ => Int.le_refl _
  | x :: l, h => by
    rw [List.map_cons, List.sum_cons]
    have h1 := h x List.mem_cons_self
    have h2 := sum_nn (g := g) (l := l) fun y hy => h y (List.mem_cons_of_mem _ hy)
    omega
theorem sum_mem {α : Type} {g : α → Int} : ∀ {l : List α}, (∀ x ∈ l, 0 ≤ g x) → ∀ {x : α}, x ∈ l → g x ≤ (l.map g).sum
  | [], _, _, h => nomatch h
  | y :: l, h, x, hx => by
    rw [List.map_cons, List.sum_cons]
    have h1 := h y List.mem_cons_self
    have h2 := sum_nn (g := g) (l := l) fun z hz => h z (List.mem_cons_of_mem _ hz)
    rcases List.mem_cons.mp hx with e | hx
    · rw [e]
      omega
    · have := sum_mem (g := g) (l := l) (fun z hz => h z (List.mem_cons_of_mem _ hz)) hx
      omega
theorem sum_le {α : Type} {g k : α → Int} : ∀ {l : List α}, (∀ x ∈ l, g x ≤ k x) → (l.map g).sum ≤ (l.map k).sum
  | [], _ => Int.le_refl _
  | x :: l, h => by
    rw [List.map_cons, List.sum_cons, List.map_cons, List.sum_cons]
    have h1 := h x List.mem_cons_self
    have h2 := sum_le (g := g) (k := k) (l := l) fun y hy => h y (List.mem_cons_of_mem _ hy)
    omega
theorem sum_lt {α : Type} {g k : α → Int} : ∀ {l : List α}, (∀ x ∈ l, g x ≤ k x) → (∃ x ∈ l, g x < k x) → (l.map g).sum < (l.map k).sum
  | [], _, ⟨_, h, _⟩ => nomatch h
  | x :: l, h, ⟨y, hy, q⟩ => by
    rw [List.map_cons, List.sum_cons, List.map_cons, List.sum_cons]
    have h1 := h x List.mem_cons_self
    have h2 := sum_le (g := g) (k := k) (l := l) fun y hy => h y (List.mem_cons_of_mem _ hy)
    rcases List.mem_cons.mp hy with e | hy
    · rw [e] at q
      omega
    · have := sum_lt (g := g) (k := k) (l := l) (fun y hy => h y (List.mem_cons_of_mem _ hy)) ⟨y, hy, q⟩
      omega
theorem sum_filter {α : Type} {g : α → Int} {q : α → Bool} : ∀ {l : List α}, (∀ x ∈ l, 0 ≤ g x) → ((l.filter q).map g).sum ≤ (l.map g).sum
  | [], _ => Int.le_refl _
  | x :: l, h => by
    rw [List.filter_cons, List.map_cons, List.sum_cons]
    have h1 := h x List.mem_cons_self
    have h2 := sum_filter (g := g) (q := q) (l := l) fun y hy => h y (List.mem_cons_of_mem _ hy)
    split
    · rw [List.map_cons, List.sum_cons]
      omega
    · omega
theorem pay_ge {wd : Bool} {f : Int → Option Int} {p : List Int} {w : Int} (h : ∀ m ∈ p, 0 ≤ gv f m) : w ≤ pay wd f p w ∧ ∀ m ∈ p, gv f m + w ≤ pay wd f p w := by
  unfold pay
  cases wd with
  | true =>
    rw [if_pos rfl]
    have h1 := sum_nn (g := gv f) h
    refine ⟨by omega, fun m hm => ?_⟩
    have := sum_mem (g := gv f) h hm
    omega
  | false =>
    rw [if_neg (by decide)]
    obtain ⟨_, h2, h3⟩ := foldMax 0 (p.map (gv f))
    refine ⟨by omega, fun m hm => ?_⟩
    have := h3 _ (List.mem_map_of_mem hm)
    omega
theorem pay_mono {wd : Bool} {f g : Int → Option Int} {p : List Int} {w : Int} (h : ∀ m ∈ p, gv g m ≤ gv f m) : pay wd g p w ≤ pay wd f p w := by
  unfold pay
  cases wd with
  | true =>
    rw [if_pos rfl, if_pos rfl]
    have := sum_le (g := gv g) (k := gv f) h
    omega
  | false =>
    rw [if_neg (by decide), if_neg (by decide)]
    obtain ⟨h1, _, _⟩ := foldMax 0 (p.map (gv g))
    obtain ⟨_, h2, h3⟩ := foldMax 0 (p.map (gv f))
    rcases h1 with e | e
    · rw [e]
      omega
    · obtain ⟨m, hm, e2⟩ := List.mem_map.mp e
      have := h3 _ (List.mem_map_of_mem hm)
      have := h m hm
      omega
theorem pay_congr {wd : Bool} {f g : Int → Option Int} {p : List Int} {w : Int} (h : ∀ m ∈ p, gv g m = gv f m) : pay wd g p w = pay wd f p w := by
  have h1 : pay wd g p w ≤ pay wd f p w := pay_mono fun m hm => Int.le_of_eq (h m hm)
  have h2 : pay wd f p w ≤ pay wd g p w := pay_mono fun m hm => Int.le_of_eq (h m hm).symm
  omega
/-! ### what a right table is -/
structure Sol (R : List PR) (th : List Int) (wd : Bool) (f : Int → Option Int) : Prop where
  zero : ∀ m ∈ th, f m = some 0
  nn : NN f
  least : ∀ r ∈ R, ap f r.1.1 → ∀ m ∈ r.1.2, ∃ v, f m = some v ∧ v ≤ pay wd f r.1.1 r.2
  supp : ∀ m v, f m = some v → m ∈ th ∨ ∃ r ∈ R, ap f r.1.1 ∧ m ∈ r.1.2 ∧ pay wd f r.1.1 r.2 ≤ v
section
variable {M : Int} {R : List PR} {th : List Int} {wd : Bool} {f g : Int → Option Int}
theorem Sol.le (hR : RsOk M R) (F : Sol R th wd f) (G : Sol R th wd g) : ∀ (n : Nat) (m v : Int), f m = some v → v < n → ∃ u, g m = some u ∧ u ≤ v := by
  intro n
  induction n with
  | zero =>
    intro m v h hv
    have := F.nn m v h
    omega
  | succ n ih =>
    intro m v h hv
    rcases F.supp m v h with e | ⟨r, hr, ha, hm, hp⟩
    · exact ⟨0, G.zero m e, F.nn m v h⟩
    · obtain ⟨_, _, h1, _⟩ := hR r hr
      have hpg := pay_ge (wd := wd) (w := r.2) fun m (_ : m ∈ r.1.1) => gv_nn F.nn m
      have all : ∀ j ∈ r.1.1, ∃ u, g j = some u ∧ u ≤ gv f j := fun j hj => by
        have := hpg.2 j hj
        exact ih j _ (isSome_gv (ha j hj)) (by omega)
      have hag : ap g r.1.1 := fun j hj => by
        obtain ⟨u, e, _⟩ := all j hj
        rw [e]
        rfl
      obtain ⟨u, e, hu⟩ := G.least r hr hag m hm
      have : pay wd g r.1.1 r.2 ≤ pay wd f r.1.1 r.2 := pay_mono fun j hj => by
        obtain ⟨u, e, hu⟩ := all j hj
        rw [gv_some e]
        exact hu
      exact ⟨u, e, by omega⟩
theorem Sol.uniq (hR : RsOk M R) (F : Sol R th wd f) (G : Sol R th wd g) : f = g := by
  have le : ∀ {f g : Int → Option Int}, Sol R th wd f → Sol R th wd g → ∀ m v, f m = some v → ∃ u, g m = some u ∧ u ≤ v := fun {f g} F G m v h =>
    Sol.le hR F G (v.toNat + 1) m v h (by have := F.nn m v h; omega)
  funext m
  cases e : f m with
  | none =>
    cases e2 : g m with
    | none => rfl
    | some u =>
      obtain ⟨x, h, _⟩ := le G F m u e2
      rw [e] at h
      cases h
  | some v =>
    obtain ⟨u, h1, h2⟩ := le F G m v e
    obtain ⟨x, h3, h4⟩ := le G F m u h1
    rw [e] at h3
    have e3 : v = x := Option.some.inj h3
    rw [h1]
    congr 1
    omega
/-- the closure of th under the rules -/
structure Clo (rs : List Ru) (th cl : List Int) : Prop where
  has : ∀ m ∈ th, m ∈ cl
  closed : ∀ r ∈ rs, (∀ m ∈ r.1, m ∈ cl) → ∀ m ∈ r.2, m ∈ cl
  least : ∀ P : Int → Prop, (∀ m ∈ th, P m) → (∀ r ∈ rs, (∀ m ∈ r.1, P m) → ∀ m ∈ r.2, P m) → ∀ m ∈ cl, P m
theorem Sol.clo {cl : List Int} (hR : RsOk M R) (F : Sol R th wd f) (C : Clo (R.map (·.1)) th cl) (m : Int) : m ∈ cl ↔ (f m).isSome = true := by
  constructor
  · refine C.least (fun m => (f m).isSome = true) (fun m hm => by rw [F.zero m hm]; rfl) (fun r hr ha m hm => ?_) m
    obtain ⟨r', hr', e⟩ := List.mem_map.mp hr
    subst e
    obtain ⟨v, h, _⟩ := F.least r' hr' ha m hm
    rw [h]
    rfl
  · have key : ∀ (n : Nat) (m v : Int), f m = some v → v < n → m ∈ cl := by
      intro n
      induction n with
      | zero =>
        intro m v h hv
        have := F.nn m v h
        omega
      | succ n ih =>
        intro m v h hv
        rcases F.supp m v h with e | ⟨r, hr, ha, hm, hp⟩
        · exact C.has m e
        · obtain ⟨_, _, h1, _⟩ := hR r hr
          have hpg := pay_ge (wd := wd) (w := r.2) fun m (_ : m ∈ r.1.1) => gv_nn F.nn m
          refine C.closed r.1 (List.mem_map_of_mem hr) (fun j hj => ?_) m hm
          have := hpg.2 j hj
          exact ih j _ (isSome_gv (ha j hj)) (by omega)
    intro h
    have e := isSome_gv h
    exact key ((gv f m).toNat + 1) m _ e (by have := gv_nn F.nn m; omega)
/-! ### measures -/
def Sm (f : Int → Option Int) : Int := (U.map (gv f)).sum
def cn (f : Int → Option Int) : Nat := (U.map fun m => if (f m).isSome = true then 1 else 0).sum
def pw (n : Nat) : Int := 9 * 2 ^ n
def mu (f : Int → Option Int) : Nat := ((5 - (cn f : Int)) * 1000 + Sm f).toNat
theorem cn_le (f : Int → Option Int) : cn f ≤ 5 := by
  unfold cn U
  simp only [List.map_cons, List.map_nil, List.sum_cons, List.sum_nil]
  repeat' split
  all_goals omega
theorem Sm_nn (h : NN f) : 0 ≤ Sm f := sum_nn fun m _ => gv_nn h m
theorem pay_le {p : List Int} {w : Int} (hp : IsS 5 p) (h : NN f) : pay wd f p w ≤ w + Sm f := by
  have nn : ∀ m ∈ U, 0 ≤ gv f m := fun m _ => gv_nn h m
  unfold pay
  cases wd with
  | true =>
    rw [if_pos rfl]
    have h1 := sum_filter (q := fun m => decide (m ∈ p)) nn
    rw [← hp.canon] at h1
    unfold Sm
    omega
  | false =>
    rw [if_neg (by decide)]
    obtain ⟨h1, _, _⟩ := foldMax 0 (p.map (gv f))
    have h0 := Sm_nn h
    rcases h1 with e | e
    · rw [e]
      omega
    · obtain ⟨m, hm, e2⟩ := List.mem_map.mp e
      have : gv f m ≤ Sm f := sum_mem nn (mem_U.mpr (hp.1 m hm))
      omega
theorem gv_fu {m j v : Int} : gv (fu f m v) j = if j = m then v else gv f j := by
  unfold gv fu
  by_cases e : j = m
  · rw [if_pos e, if_pos e]
    rfl
  · rw [if_neg e, if_neg e]
theorem fu_some {m j v : Int} : (fu f m v j).isSome = if j = m then true else (f j).isSome := by
  unfold fu
  by_cases e : j = m
  · rw [if_pos e, if_pos e]
    rfl
  · rw [if_neg e, if_neg e]
theorem Sm_fu {m v : Int} (hm : m ∈ U) : Sm (fu f m v) = Sm f - gv f m + v := by
  unfold Sm U
  simp only [List.map_cons, List.map_nil, List.sum_cons, List.sum_nil, gv_fu]
  have h := mem_U.mp hm
  have hM : m = 0 ∨ m = 1 ∨ m = 2 ∨ m = 3 ∨ m = 4 := by omega
  rcases hM with rfl | rfl | rfl | rfl | rfl <;> simp <;> omega
theorem cn_fu {m v : Int} (hm : m ∈ U) : cn (fu f m v) = if (f m).isSome = true then cn f else cn f + 1 := by
  unfold cn U
  simp only [List.map_cons, List.map_nil, List.sum_cons, List.sum_nil, fu_some]
  have h := mem_U.mp hm
  have hM : m = 0 ∨ m = 1 ∨ m = 2 ∨ m = 3 ∨ m = 4 := by omega
  by_cases q : (f m).isSome = true
  · rw [if_pos q]
    rcases hM with rfl | rfl | rfl | rfl | rfl <;> simp [q]
  · rw [if_neg q]
    rcases hM with rfl | rfl | rfl | rfl | rfl <;> simp [q] <;> omega
theorem pw_succ (n : Nat) : pw (n + 1) = 2 * pw n := by
  unfold pw
  rw [Int.pow_succ]
  omega
theorem pw_le {n : Nat} (h : n ≤ 5) : pw n ≤ 288 := by
  have hM : n = 0 ∨ n = 1 ∨ n = 2 ∨ n = 3 ∨ n = 4 ∨ n = 5 := by omega
  rcases hM with rfl | rfl | rfl | rfl | rfl | rfl <;> decide
/-- a table on the way: all but least -/
structure Pre (M : Int) (R : List PR) (th : List Int) (wd : Bool) (f : Int → Option Int) : Prop where
  zero : ∀ m ∈ th, f m = some 0
  nn : NN f
  supp : ∀ m v, f m = some v → m ∈ th ∨ ∃ r ∈ R, ap f r.1.1 ∧ m ∈ r.1.2 ∧ pay wd f r.1.1 r.2 ≤ v
  bd : Sm f + 9 ≤ pw (cn f)
  dom : ∀ m, (f m).isSome = true → 0 ≤ m ∧ m < M
theorem Pre.sol (P : Pre M R th wd f) (h : ∀ r ∈ R, ap f r.1.1 → ∀ m ∈ r.1.2, ∃ v, f m = some v ∧ v ≤ pay wd f r.1.1 r.2) : Sol R th wd f := ⟨P.zero, P.nn, h, P.supp⟩
theorem Pre.step {r : PR} {m : Int} (hM : M ≤ 5) (hR : RsOk M R) (P : Pre M R th wd f) (hr : r ∈ R) (ha : ap f r.1.1) (hm : m ∈ r.1.2) (hc : f m = none ∨ pay wd f r.1.1 r.2 < gv f m) :
    Pre M R th wd (fu f m (pay wd f r.1.1 r.2)) ∧ mu (fu f m (pay wd f r.1.1 r.2)) < mu f := by
  obtain ⟨i1, i2, w1, w2⟩ := hR r hr
  have hmU : m ∈ U := by
    have := i2.1 m hm
    exact mem_U.mpr ⟨this.1, by omega⟩
  have hp0 := (pay_ge (wd := wd) (w := r.2) fun m (_ : m ∈ r.1.1) => gv_nn P.nn m).1
  have hp1 := pay_le (wd := wd) (w := r.2) (i1.mono hM) P.nn
  generalize hv : pay wd f r.1.1 r.2 = v at hc hp0 hp1 ⊢
  have hS := Sm_fu (f := f) (v := v) hmU
  have hC := cn_fu (f := f) (v := v) hmU
  have hb := P.bd
  have h5 := cn_le (fu f m v)
  have h5' := cn_le f
  have hSn := Sm_nn P.nn
  have hg := gv_nn P.nn m
  have down : ∀ j, (f j).isSome = true → (fu f m v j).isSome = true ∧ gv (fu f m v) j ≤ gv f j := fun j hj => by
    rw [fu_some, gv_fu]
    by_cases e : j = m
    · rw [if_pos e, if_pos e]
      refine ⟨rfl, ?_⟩
      rcases hc with hc | hc
      · rw [e, hc] at hj
        cases hj
      · rw [e]
        omega
    · rw [if_neg e, if_neg e]
      exact ⟨hj, Int.le_refl _⟩
  have nn' : NN (fu f m v) := fun j u h => by
    unfold fu at h
    split at h
    · have := Option.some.inj h
      omega
    · exact P.nn j u h
  have key : Sm (fu f m v) + 9 ≤ pw (cn (fu f m v)) ∧ mu (fu f m v) < mu f := by
    have hSn' := Sm_nn nn'
    have hpl := pw_le h5
    unfold mu
    cases e : f m with
    | none =>
      have g0 : gv f m = 0 := by
        unfold gv
        rw [e]
        rfl
      rw [e] at hC
      have hC' : cn (fu f m v) = cn f + 1 := hC
      have b1 : Sm (fu f m v) + 9 ≤ pw (cn (fu f m v)) := by
        rw [hC', pw_succ]
        omega
      exact ⟨b1, by omega⟩
    | some u =>
      rw [e] at hC
      have hC' : cn (fu f m v) = cn f := hC
      have : v < gv f m := by
        rcases hc with hc | hc
        · rw [e] at hc
          cases hc
        · exact hc
      exact ⟨by rw [hC']; omega, by omega⟩
  refine ⟨⟨fun j hj => ?_, nn', fun j u h => ?_, key.1, fun j h => ?_⟩, key.2⟩
  · have h0 := P.zero j hj
    unfold fu
    by_cases e : j = m
    · rw [← e] at hc
      rcases hc with hc | hc
      · rw [h0] at hc
        cases hc
      · rw [gv_some h0] at hc
        omega
    · rw [if_neg e]
      exact h0
  · by_cases e : j = m
    · unfold fu at h
      rw [if_pos e] at h
      have hu := Option.some.inj h
      refine .inr ⟨r, hr, fun k hk => (down k (ha k hk)).1, by rw [e]; exact hm, ?_⟩
      have : pay wd (fu f m v) r.1.1 r.2 ≤ pay wd f r.1.1 r.2 := pay_mono fun k hk => (down k (ha k hk)).2
      omega
    · unfold fu at h
      rw [if_neg e] at h
      rcases P.supp j u h with q | ⟨r', hr', ha', hm', hp'⟩
      · exact .inl q
      · refine .inr ⟨r', hr', fun k hk => (down k (ha' k hk)).1, hm', ?_⟩
        have : pay wd (fu f m v) r'.1.1 r'.2 ≤ pay wd f r'.1.1 r'.2 := pay_mono fun k hk => (down k (ha' k hk)).2
        omega
  · rw [fu_some] at h
    by_cases e : j = m
    · rw [e]
      exact i2.1 m hm
    · rw [if_neg e] at h
      exact P.dom j h
/-- zero on th, nothing else -/
def z0 (th : List Int) : Int → Option Int := fun m => if m ∈ th then some 0 else none
theorem gv_z0 (m : Int) : gv (z0 th) m = 0 := by
  unfold gv z0
  split <;> rfl
theorem z0_nn : NN (z0 th) := fun m v h => by
  unfold z0 at h
  split at h
  · have := Option.some.inj h
    omega
  · cases h
theorem z0_dom (ht : IsS M th) {m : Int} (h : (z0 th m).isSome = true) : m ∈ th := by
  unfold z0 at h
  split at h
  · assumption
  · cases h
theorem Pre.init (ht : IsS M th) : Pre M R th wd (z0 th) := by
  refine ⟨fun m hm => by unfold z0; rw [if_pos hm], z0_nn, fun m v h => .inl (z0_dom ht (by rw [h]; rfl)), ?_, fun m h => ht.1 m (z0_dom ht h)⟩
  have e : Sm (z0 th) = 0 := by
    unfold Sm U
    simp only [List.map_cons, List.map_nil, List.sum_cons, List.sum_nil, gv_z0]
    rfl
  have : (1 : Int) ≤ 2 ^ cn (z0 th) := by
    have : 0 < (2 : Int) ^ cn (z0 th) := Int.pow_pos (by decide)
    omega
  unfold pw
  omega
/-! ### cheapest first -/
structure Dj (M : Int) (R : List PR) (th : List Int) (wd : Bool) (f us : Int → Option Int) (B : Int) : Prop where
  zero : ∀ m ∈ th, f m = some 0
  nn : NN f
  le : ∀ m v, f m = some v → v ≤ B
  lo : ∀ r ∈ R, ap f r.1.1 → ∀ m ∈ r.1.2, (∃ v, f m = some v ∧ v ≤ pay wd f r.1.1 r.2) ∨ (f m = none ∧ B ≤ pay wd f r.1.1 r.2)
  us1 : ∀ m i, us m = some i → ∃ (k : Nat) (r : PR), i = (k : Int) ∧ R[k]? = some r ∧ ap f r.1.1 ∧ m ∈ r.1.2 ∧ f m = some (pay wd f r.1.1 r.2)
  us2 : ∀ m, (us m).isSome = true ↔ ((f m).isSome = true ∧ m ∉ th)
  dom : ∀ m, (f m).isSome = true → 0 ≤ m ∧ m < M
theorem Dj.init (hR : RsOk M R) (ht : IsS M th) : Dj M R th wd (z0 th) (fun _ => none) 0 := by
  refine ⟨fun m hm => by unfold z0; rw [if_pos hm], z0_nn, fun m v h => ?_, fun r hr ha m hm => ?_, fun m i h => (nomatch h), fun m => ⟨fun h => (nomatch h), fun h => absurd (z0_dom ht h.1) h.2⟩, fun m h => ht.1 m (z0_dom ht h)⟩
  · have := gv_some h
    rw [gv_z0] at this
    omega
  · obtain ⟨_, _, w1, _⟩ := hR r hr
    have hp0 := (pay_ge (wd := wd) (w := r.2) fun m (_ : m ∈ r.1.1) => gv_nn (z0_nn (th := th)) m).1
    cases e : z0 th m with
    | none => exact .inr ⟨rfl, by omega⟩
    | some v =>
      have := gv_some e
      rw [gv_z0] at this
      exact .inl ⟨v, rfl, by omega⟩
theorem Dj.step {us : Int → Option Int} {B : Int} {r : PR} {m : Int} {k : Nat} (hR : RsOk M R) (D : Dj M R th wd f us B) (hk : R[k]? = some r) (ha : ap f r.1.1) (hm : m ∈ r.1.2) (hn : f m = none)
    (mn : ∀ r' ∈ R, ap f r'.1.1 → ∀ m' ∈ r'.1.2, f m' = none → pay wd f r.1.1 r.2 ≤ pay wd f r'.1.1 r'.2) : Dj M R th wd (fu f m (pay wd f r.1.1 r.2)) (fu us m (k : Int)) (pay wd f r.1.1 r.2) := by
  have hr : r ∈ R := List.mem_of_getElem? hk
  obtain ⟨i1, i2, w1, w2⟩ := hR r hr
  have hp0 := (pay_ge (wd := wd) (w := r.2) fun m (_ : m ∈ r.1.1) => gv_nn D.nn m).1
  have hB : B ≤ pay wd f r.1.1 r.2 := by
    rcases D.lo r hr ha m hm with ⟨v, h, _⟩ | h
    · rw [hn] at h
      cases h
    · exact h.2
  have same : ∀ p : List Int, ap f p → ∀ w, pay wd (fu f m (pay wd f r.1.1 r.2)) p w = pay wd f p w := fun p hp w => pay_congr fun j hj => by
    rw [gv_fu, if_neg]
    intro e
    have := hp j hj
    rw [e, hn] at this
    cases this
  have thm : m ∉ th := fun h => by
    rw [D.zero m h] at hn
    cases hn
  generalize hv : pay wd f r.1.1 r.2 = b at mn hp0 hB same ⊢
  have nn' : NN (fu f m b) := fun j u h => by
    unfold fu at h
    split at h
    · have := Option.some.inj h
      omega
    · exact D.nn j u h
  have apd : ∀ p, ap f p → ap (fu f m b) p := fun p hp j hj => by
    rw [fu_some]
    split
    · rfl
    · exact hp j hj
  refine ⟨fun j hj => ?_, nn', fun j u h => ?_, fun r' hr' ha' j hj => ?_, fun j i h => ?_, fun j => ?_, fun j h => ?_⟩
  · unfold fu
    rw [if_neg (fun e : j = m => thm (by rw [← e]; exact hj))]
    exact D.zero j hj
  · unfold fu at h
    split at h
    · have := Option.some.inj h
      omega
    · have := D.le j u h
      omega
  · by_cases hap : ap f r'.1.1
    · rw [same _ hap]
      by_cases e : j = m
      · refine .inl ⟨b, by unfold fu; rw [if_pos e], ?_⟩
        exact mn r' hr' hap j hj (by rw [e]; exact hn)
      · rcases D.lo r' hr' hap j hj with ⟨v, h1, h2⟩ | ⟨h1, h2⟩
        · exact .inl ⟨v, by unfold fu; rw [if_neg e]; exact h1, h2⟩
        · exact .inr ⟨by unfold fu; rw [if_neg e]; exact h1, mn r' hr' hap j hj h1⟩
    · have hmp : m ∈ r'.1.1 := by
        rcases Classical.em (m ∈ r'.1.1) with q | q
        · exact q
        · refine absurd (fun i hi => ?_) hap
          have := ha' i hi
          rw [fu_some, if_neg (fun e : i = m => q (by rw [← e]; exact hi))] at this
          exact this
      have hpg := (pay_ge (wd := wd) (w := r'.2) fun m (_ : m ∈ r'.1.1) => gv_nn nn' m).2 m hmp
      rw [gv_fu, if_pos rfl] at hpg
      obtain ⟨_, _, w1', _⟩ := hR r' hr'
      cases e : fu f m b j with
      | none => exact .inr ⟨rfl, by omega⟩
      | some v =>
        refine .inl ⟨v, rfl, ?_⟩
        unfold fu at e
        split at e
        · have := Option.some.inj e
          omega
        · have := D.le j v e
          omega
  · unfold fu at h
    by_cases e : j = m
    · rw [if_pos e] at h
      have hi : (k : Int) = i := Option.some.inj h
      refine ⟨k, r, hi.symm, hk, apd _ ha, by rw [e]; exact hm, ?_⟩
      rw [same _ ha, hv]
      unfold fu
      rw [if_pos e]
    · rw [if_neg e] at h
      obtain ⟨k', r', h1, h2, h3, h4, h5⟩ := D.us1 j i h
      refine ⟨k', r', h1, h2, apd _ h3, h4, ?_⟩
      rw [same _ h3]
      unfold fu
      rw [if_neg e]
      exact h5
  · rw [fu_some, fu_some]
    by_cases e : j = m
    · rw [if_pos e, if_pos e, e]
      exact ⟨fun _ => ⟨rfl, thm⟩, fun _ => rfl⟩
    · rw [if_neg e, if_neg e]
      exact D.us2 j
  · rw [fu_some] at h
    by_cases e : j = m
    · rw [e]
      exact i2.1 m hm
    · rw [if_neg e] at h
      exact D.dom j h
theorem Dj.cn {us : Int → Option Int} {B : Int} {m v : Int} (D : Dj M R th wd f us B) (hM : M ≤ 5) (hm : 0 ≤ m ∧ m < M) (hn : f m = none) : cn (fu f m v) = cn f + 1 := by
  rw [cn_fu (mem_U.mpr ⟨hm.1, by omega⟩), hn]
  rfl
theorem Dj.sol {us : Int → Option Int} {B : Int} (D : Dj M R th wd f us B) (h : ∀ r ∈ R, ap f r.1.1 → ∀ m ∈ r.1.2, f m ≠ none) : Sol R th wd f := by
  refine ⟨D.zero, D.nn, fun r hr ha m hm => ?_, fun m v e => ?_⟩
  · rcases D.lo r hr ha m hm with q | q
    · exact q
    · exact absurd q.1 (h r hr ha m hm)
  · rcases Classical.em (m ∈ th) with q | q
    · exact .inl q
    · have := (D.us2 m).mpr ⟨by rw [e]; rfl, q⟩
      obtain ⟨i, ei⟩ := Option.isSome_iff_exists.mp this
      obtain ⟨k, r, _, h2, h3, h4, h5⟩ := D.us1 m i ei
      rw [e] at h5
      exact .inr ⟨r, List.mem_of_getElem? h2, h3, h4, Int.le_of_eq (Option.some.inj h5).symm⟩
end
end Pb
set_option Elab.async false
set_option linter.all false
set_option maxRecDepth 100000
set_option maxHeartbeats 4000000
namespace Pb
/-! ## the plain law: the two answers about papers of costs -/
def apB (f : Int → Option Int) (p : List Int) : Bool := p.all fun m => (f m).isSome
theorem apB_iff {f : Int → Option Int} {p : List Int} : apB f p = true ↔ ap f p := by
  unfold apB ap
  rw [List.all_eq_true]
def leastB (R : List PR) (wd : Bool) (f : Int → Option Int) : Bool := R.all fun r => !(apB f r.1.1 && r.1.2.any fun m => decide (gv f m > pay wd f r.1.1 r.2))
/-- what a paper's index for the mark m tells, of the table f -/
def paidB (R : List PR) (wd : Bool) (f : Int → Option Int) (us : List (Int × Int)) (m : Int) : Bool := match lk us m with
  | none => false
  | some i => decide (0 ≤ i) && decide (i < R.length) && (match R[i.toNat]? with
    | none => false
    | some r => decide (m ∈ r.1.2) && apB f r.1.1 && decide (gv f m = pay wd f r.1.1 r.2))
def later (th cl : List Int) : List Int := cl.filter fun m => !decide (m ∈ th)
def showsB (R : List PR) (th : List Int) (wd : Bool) (cl : List Int) (t us : List (Int × Int)) : Bool :=
  decide (t.length = cl.length) && (cl.all fun m => (lk t m).isSome) && (decide (us.length = (later th cl).length) && (later th cl).all fun m => (lk us m).isSome) &&
  ((th.all fun m => decide (gv (lk t) m = 0)) && t.all fun p => decide (0 ≤ p.2)) && (leastB R wd (lk t) && (later th cl).all (paidB R wd (lk t) us))
/-- one table equals another -/
def eqT (t u : List (Int × Int)) : Bool := decide (t.length = u.length) && t.all fun p => decide (lk u p.1 = some p.2)
def rightB (R : List PR) (th : List Int) (wd : Bool) (due t us : List (Int × Int)) : Bool :=
  eqT t due && decide ((us.length : Int) = (due.length : Int) - (th.length : Int)) && (due.map (·.1)).all fun m => decide (m ∈ th) || paidB R wd (lk due) us m
section
variable {M : Int} {R : List PR} {th cl : List Int} {wd : Bool} {t us due : List (Int × Int)}
theorem later_len (hc : IsS M cl) (ht : IsS M th) (h : ∀ m ∈ th, m ∈ cl) : (later th cl).length + th.length = cl.length := by
  have e : cl.filter (fun m => decide (m ∈ th)) = th := by
    refine asc_ext (hc.2.filter _) ht.2 fun m => ?_
    rw [List.mem_filter]
    simp only [decide_eq_true_eq]
    exact ⟨fun q => q.2, fun q => ⟨h m q, q⟩⟩
  have h2 : ∀ l : List Int, (l.filter fun m => !decide (m ∈ th)).length + (l.filter fun m => decide (m ∈ th)).length = l.length := by
    intro l
    induction l with
    | nil => rfl
    | cons x l ih =>
      rw [List.filter_cons, List.filter_cons]
      by_cases q : x ∈ th <;> simp [q] <;> omega
  have := h2 cl
  rw [e] at this
  exact this
theorem len_eq {l m : List Int} (n1 : l.Nodup) (n2 : m.Nodup) (h : ∀ x, x ∈ l ↔ x ∈ m) : l.length = m.length := by
  have h1 := nodup_le n1 fun x hx => (h x).mp hx
  have h2 := nodup_le n2 fun x hx => (h x).mpr hx
  omega
theorem asc_nodup {l : List Int} (h : l.Pairwise (· < ·)) : l.Nodup := h.imp fun hab => by omega
/-- as many keys, all of them: the same keys -/
theorem keys_back {l m : List Int} (n1 : l.Nodup) (n2 : m.Nodup) (e : l.length = m.length) (h : ∀ x ∈ m, x ∈ l) : ∀ x ∈ l, x ∈ m := by
  intro x hx
  rcases Classical.em (x ∈ m) with q | q
  · exact q
  · have h2 : (x :: m).Nodup := List.nodup_cons.mpr ⟨q, n2⟩
    have := nodup_le h2 fun y hy => by
      rcases List.mem_cons.mp hy with e2 | hy
      · rw [e2]
        exact hx
      · exact h y hy
    rw [List.length_cons] at this
    omega
theorem shows_right (hR : RsOk M R) (ht : IsS M th) (hc : IsS M cl) (C : Clo (R.map (·.1)) th cl) (D : Sol R th wd (lk due)) (nd : (due.map (·.1)).Nodup) (nt : (t.map (·.1)).Nodup) :
    showsB R th wd cl t us = rightB R th wd due t us := by
  have dcl : ∀ m, m ∈ cl ↔ (lk due m).isSome = true := D.clo hR C
  have dlen : due.length = cl.length := by
    have := len_eq nd (asc_nodup hc.2) fun x => by rw [dcl x, lk_mem]
    rw [List.length_map] at this
    exact this
  have ll := later_len hc ht C.has
  have lmem : ∀ m, m ∈ later th cl ↔ m ∈ cl ∧ m ∉ th := fun m => by
    unfold later
    rw [List.mem_filter]
    simp
  refine Bool.eq_iff_iff.mpr ⟨fun h => ?_, fun h => ?_⟩
  · unfold showsB at h
    simp only [Bool.and_eq_true, decide_eq_true_eq] at h
    obtain ⟨⟨⟨⟨h1, h2⟩, h3, h4⟩, h5, h6⟩, h7, h8⟩ := h
    rw [List.all_eq_true] at h2 h4 h5 h6 h8
    have tcl : ∀ m, m ∈ cl ↔ (lk t m).isSome = true := fun m => by
      refine ⟨h2 m, fun hm => ?_⟩
      refine keys_back nt (asc_nodup hc.2) (by rw [List.length_map]; exact h1) (fun x hx => lk_mem.mp (h2 x hx)) m (lk_mem.mp hm)
    have tnn : NN (lk t) := fun m v e => of_decide_eq_true (h6 _ (lk_in e))
    have S : Sol R th wd (lk t) := by
      refine ⟨fun m hm => ?_, tnn, fun r hr ha m hm => ?_, fun m v e => ?_⟩
      · have e := isSome_gv ((tcl m).mp (C.has m hm))
        rw [of_decide_eq_true (h5 m hm)] at e
        exact e
      · have hcl : m ∈ cl := C.closed r.1 (List.mem_map_of_mem hr) (fun j hj => (tcl j).mpr (ha j hj)) m hm
        refine ⟨_, isSome_gv ((tcl m).mp hcl), ?_⟩
        unfold leastB at h7
        rw [List.all_eq_true] at h7
        have q := h7 r hr
        rw [apB_iff.mpr ha, Bool.true_and, Bool.not_eq_true', List.any_eq_false] at q
        have q2 := q m hm
        simp only [decide_eq_true_eq] at q2
        omega
      · rcases Classical.em (m ∈ th) with q | q
        · exact .inl q
        · right
          have hl := h8 m ((lmem m).mpr ⟨(tcl m).mpr (by rw [e]; rfl), q⟩)
          unfold paidB at hl
          split at hl
          · cases hl
          · rename_i i ei
            simp only [Bool.and_eq_true, decide_eq_true_eq] at hl
            obtain ⟨_, hl⟩ := hl
            split at hl
            · cases hl
            · rename_i r er
              simp only [Bool.and_eq_true, decide_eq_true_eq] at hl
              obtain ⟨⟨g1, g2⟩, g3⟩ := hl
              rw [gv_some e] at g3
              exact ⟨r, List.mem_of_getElem? er, apB_iff.mp g2, g1, Int.le_of_eq g3.symm⟩
    have ef : lk t = lk due := S.uniq hR D
    unfold rightB eqT
    simp only [Bool.and_eq_true, decide_eq_true_eq]
    refine ⟨⟨⟨by omega, ?_⟩, by omega⟩, ?_⟩
    · rw [List.all_eq_true]
      intro p hp
      rw [decide_eq_true_eq, ← ef]
      exact lk_of nt (k := p.1) (v := p.2) hp
    · rw [List.all_eq_true]
      intro m hm
      rw [Bool.or_eq_true, decide_eq_true_eq]
      rcases Classical.em (m ∈ th) with q | q
      · exact .inl q
      · rw [← ef]
        exact .inr (h8 m ((lmem m).mpr ⟨(dcl m).mpr (lk_mem.mpr hm), q⟩))
  · unfold rightB eqT at h
    simp only [Bool.and_eq_true, decide_eq_true_eq] at h
    obtain ⟨⟨⟨h1, h2⟩, h3⟩, h4⟩ := h
    rw [List.all_eq_true] at h2 h4
    have tsub : ∀ m v, lk t m = some v → lk due m = some v := fun m v e => of_decide_eq_true (h2 _ (lk_in e))
    have ef : lk t = lk due := by
      funext m
      cases e : lk t m with
      | some v => exact (tsub m v e).symm
      | none =>
        cases e2 : lk due m with
        | none => rfl
        | some v =>
          have hm : m ∈ due.map (·.1) := lk_mem.mp (by rw [e2]; rfl)
          have := keys_back nd nt (by rw [List.length_map, List.length_map]; omega) (fun x hx => by
            obtain ⟨v, ev⟩ := Option.isSome_iff_exists.mp (lk_mem.mpr hx)
            exact lk_mem.mp (by rw [tsub x v ev]; rfl)) m hm
          rw [← lk_mem, e] at this
          cases this
    unfold showsB
    rw [ef]
    simp only [Bool.and_eq_true, decide_eq_true_eq]
    have hpaid : ∀ m ∈ later th cl, paidB R wd (lk due) us m = true := fun m hm => by
      obtain ⟨q1, q2⟩ := (lmem m).mp hm
      have := h4 m (lk_mem.mp ((dcl m).mp q1))
      rw [Bool.or_eq_true, decide_eq_true_eq] at this
      rcases this with q | q
      · exact absurd q q2
      · exact q
    refine ⟨⟨⟨⟨by omega, ?_⟩, by omega, ?_⟩, ?_, ?_⟩, ?_, ?_⟩
    · rw [List.all_eq_true]
      exact fun m hm => (dcl m).mp hm
    · rw [List.all_eq_true]
      intro m hm
      have := hpaid m hm
      unfold paidB at this
      split at this
      · cases this
      · rename_i i ei
        rw [ei]
        rfl
    · rw [List.all_eq_true]
      intro m hm
      rw [decide_eq_true_eq]
      exact gv_some (D.zero m hm)
    · rw [List.all_eq_true]
      intro p hp
      rw [decide_eq_true_eq]
      have := lk_of nt (k := p.1) (v := p.2) hp
      exact D.nn p.1 p.2 (by rw [← ef]; exact this)
    · unfold leastB
      rw [List.all_eq_true]
      intro r hr
      rw [Bool.not_eq_true', Bool.and_eq_false_imp]
      intro ha
      rw [List.any_eq_false]
      intro m hm
      obtain ⟨v, e, hv⟩ := D.least r hr (apB_iff.mp ha) m hm
      rw [gv_some e]
      simp only [decide_eq_true_eq]
      omega
    · rw [List.all_eq_true]
      exact hpaid
/-- the paper that costs_for writes is right -/
theorem dj_right {u : Int → Option Int} {B : Int} (hR : RsOk M R) (ht : IsS M th) (D : Sol R th wd (lk due)) (nd : (due.map (·.1)).Nodup) (nt : (t.map (·.1)).Nodup) (nu : (us.map (·.1)).Nodup) (et : Dj M R th wd (lk t) (lk us) B) (S : Sol R th wd (lk t)) : rightB R th wd due t us = true := by
  have ef : lk t = lk due := S.uniq hR D
  have mem : ∀ x, x ∈ t.map (·.1) ↔ x ∈ due.map (·.1) := fun x => by rw [← lk_mem, ← lk_mem, ef]
  have l1 : t.length = due.length := by
    have := len_eq nt nd mem
    rw [List.length_map, List.length_map] at this
    exact this
  have l2 : us.length + th.length = due.length := by
    have n2 : (us.map (·.1) ++ th).Nodup := by
      rw [List.nodup_append]
      refine ⟨nu, asc_nodup ht.2, fun a ha b hb e => ?_⟩
      rw [← lk_mem] at ha
      exact ((et.us2 a).mp ha).2 (by rw [e]; exact hb)
    have := len_eq n2 nd fun x => by
      rw [List.mem_append, ← lk_mem, ← mem, ← lk_mem, et.us2]
      constructor
      · rintro (h | h)
        · exact h.1
        · rw [et.zero x h]
          rfl
      · intro h
        rcases Classical.em (x ∈ th) with q | q
        · exact .inr q
        · exact .inl ⟨h, q⟩
    rw [List.length_append, List.length_map, List.length_map] at this
    exact this
  unfold rightB eqT
  simp only [Bool.and_eq_true, decide_eq_true_eq]
  refine ⟨⟨⟨l1, ?_⟩, by omega⟩, ?_⟩
  · rw [List.all_eq_true]
    intro p hp
    rw [decide_eq_true_eq, ← ef]
    exact lk_of nt (k := p.1) (v := p.2) hp
  · rw [List.all_eq_true]
    intro m hm
    rw [Bool.or_eq_true, decide_eq_true_eq]
    rcases Classical.em (m ∈ th) with q | q
    · exact .inl q
    · right
      rw [← lk_mem, ← ef] at hm
      have hu := (et.us2 m).mpr ⟨hm, q⟩
      obtain ⟨i, ei⟩ := Option.isSome_iff_exists.mp hu
      obtain ⟨k, r, h1, h2, h3, h4, h5⟩ := et.us1 m i ei
      have hk := (List.getElem?_eq_some_iff.mp h2).1
      unfold paidB
      rw [ei, ← ef, h1]
      have hkn : ((k : Int)).toNat = k := by omega
      simp only [hkn, h2, Bool.and_eq_true, decide_eq_true_eq]
      exact ⟨⟨by omega, by omega⟩, ⟨h4, apB_iff.mpr h3⟩, gv_some h5⟩
end
/-! ## the plain law: bills -/
structure Gol (M : Int) (R : List PR) (goal : List Int) (g : List Int → Option Int) : Prop where
  zero : ∀ s, IsS M s → (∀ m ∈ goal, m ∈ s) → g s = some 0
  nn : ∀ s v, g s = some v → 0 ≤ v
  dom : ∀ s, (g s).isSome = true → IsS M s
  least : ∀ s, IsS M s → ∀ r ∈ R, (∀ m ∈ r.1.1, m ∈ s) → ∀ v, g (jn s r.1.2) = some v → ∃ u, g s = some u ∧ u ≤ v + r.2
  supp : ∀ s u, g s = some u → (∀ m ∈ goal, m ∈ s) ∨ ∃ r ∈ R, (∀ m ∈ r.1.1, m ∈ s) ∧ ∃ v, g (jn s r.1.2) = some v ∧ v + r.2 ≤ u
section
variable {M : Int} {R : List PR} {goal : List Int} {f g : List Int → Option Int}
theorem Gol.le (hR : RsOk M R) (F : Gol M R goal f) (G : Gol M R goal g) : ∀ (n : Nat) (s : List Int) (v : Int), f s = some v → v < n → ∃ u, g s = some u ∧ u ≤ v := by
  intro n
  induction n with
  | zero =>
    intro s v h hv
    have := F.nn s v h
    omega
  | succ n ih =>
    intro s v h hv
    have hs := F.dom s (by rw [h]; rfl)
    rcases F.supp s v h with e | ⟨r, hr, ha, x, hx, hp⟩
    · exact ⟨0, G.zero s hs e, F.nn s v h⟩
    · obtain ⟨_, _, h1, _⟩ := hR r hr
      obtain ⟨y, hy, hyx⟩ := ih _ x hx (by omega)
      obtain ⟨u, e, hu⟩ := G.least s hs r hr ha y hy
      exact ⟨u, e, by omega⟩
theorem Gol.uniq (hR : RsOk M R) (F : Gol M R goal f) (G : Gol M R goal g) : f = g := by
  have le : ∀ {f g : List Int → Option Int}, Gol M R goal f → Gol M R goal g → ∀ m v, f m = some v → ∃ u, g m = some u ∧ u ≤ v := fun {f g} F G m v h =>
    Gol.le hR F G (v.toNat + 1) m v h (by have := F.nn m v h; omega)
  funext m
  cases e : f m with
  | none =>
    cases e2 : g m with
    | none => rfl
    | some u =>
      obtain ⟨x, h, _⟩ := le G F m u e2
      rw [e] at h
      cases h
  | some v =>
    obtain ⟨u, h1, h2⟩ := le F G m v e
    obtain ⟨x, h3, h4⟩ := le G F m u h1
    rw [e] at h3
    have e3 : v = x := Option.some.inj h3
    rw [h1]
    congr 1
    omega
/-- what is found is found of all wider sets -/
theorem Gol.up (hM : M ≤ 5) (hR : RsOk M R) (G : Gol M R goal g) : ∀ (n : Nat) (s t : List Int) (v : Int), g s = some v → v < n → IsS M t → (∀ m ∈ s, m ∈ t) → (g t).isSome = true := by
  intro n
  induction n with
  | zero =>
    intro s t v h hv
    have := G.nn s v h
    omega
  | succ n ih =>
    intro s t v h hv ht hst
    have hs := G.dom s (by rw [h]; rfl)
    rcases G.supp s v h with e | ⟨r, hr, ha, x, hx, hp⟩
    · rw [G.zero t ht fun m hm => hst m (e m hm)]
      rfl
    · obtain ⟨_, i2, h1, _⟩ := hR r hr
      have := ih _ (jn t r.1.2) x hx (by omega) (ht.jn hM i2) fun m hm => by
        rw [mem_jn (hs.mono hM) (i2.mono hM)] at hm
        rw [mem_jn (ht.mono hM) (i2.mono hM)]
        rcases hm with q | q
        · exact .inl (hst m q)
        · exact .inr q
      obtain ⟨y, hy⟩ := Option.isSome_iff_exists.mp this
      obtain ⟨u, e, _⟩ := G.least t ht r hr (fun m hm => hst m (ha m hm)) y hy
      rw [e]
      rfl
/-! ### on the way -/
structure Pg (M : Int) (R : List PR) (goal : List Int) (g : List Int → Option Int) : Prop where
  zero : ∀ s, IsS M s → (∀ m ∈ goal, m ∈ s) → g s = some 0
  nn : ∀ s v, g s = some v → 0 ≤ v
  dom : ∀ s, (g s).isSome = true → IsS M s
  supp : ∀ s u, g s = some u → (∀ m ∈ goal, m ∈ s) ∨ ∃ r ∈ R, (∀ m ∈ r.1.1, m ∈ s) ∧ ∃ v, g (jn s r.1.2) = some v ∧ v + r.2 ≤ u
  bd : ∀ s u, g s = some u → u ≤ 9 * (5 - (s.length : Int))
def wt (g : List Int → Option Int) (s : List Int) : Int := match g s with
  | none => 46
  | some v => v
def nu (M : Int) (g : List Int → Option Int) : Nat := ((subs M).map (wt g)).sum.toNat
theorem wt_nn (P : Pg M R goal g) (s : List Int) : 0 ≤ wt g s := by
  unfold wt
  split
  · omega
  · rename_i v e
    exact P.nn s v e
theorem Pg.step {s : List Int} {r : PR} {v : Int} (h0 : 0 ≤ M) (hM : M ≤ 5) (hR : RsOk M R) (P : Pg M R goal g) (hs : IsS M s) (hr : r ∈ R) (ha : ∀ m ∈ r.1.1, m ∈ s) (hv : g (jn s r.1.2) = some v) (hc : g s = none ∨ ∃ u, g s = some u ∧ v + r.2 < u) :
    Pg M R goal (fu g s (v + r.2)) ∧ nu M (fu g s (v + r.2)) < nu M g ∧ jn s r.1.2 ≠ s := by
  obtain ⟨i1, i2, w1, w2⟩ := hR r hr
  have v0 := P.nn _ _ hv
  have hne : jn s r.1.2 ≠ s := fun e => by
    rw [e] at hv
    rcases hc with q | ⟨u, q, hu⟩
    · rw [hv] at q
      cases q
    · rw [hv] at q
      have := Option.some.inj q
      omega
  have hj := hs.jn hM i2
  have hlen := (sub_len (hs.mono hM) (hj.mono hM) (jn_sub (hs.mono hM) (i2.mono hM))).2 (Ne.symm hne)
  have hb := P.bd _ _ hv
  have hl5 := (hj.mono hM).len
  have down : ∀ t u, g t = some u → ∃ x, fu g s (v + r.2) t = some x ∧ x ≤ u := fun t u h => by
    unfold fu
    by_cases e : t = s
    · rw [if_pos e]
      refine ⟨_, rfl, ?_⟩
      rw [e] at h
      rcases hc with q | ⟨u', q, hu⟩
      · rw [h] at q
        cases q
      · rw [h] at q
        have := Option.some.inj q
        omega
    · rw [if_neg e]
      exact ⟨u, h, Int.le_refl _⟩
  refine ⟨⟨fun t ht hg => ?_, fun t u h => ?_, fun t h => ?_, fun t u h => ?_, fun t u h => ?_⟩, ?_, hne⟩
  · have hz := P.zero t ht hg
    unfold fu
    by_cases e : t = s
    · rw [e] at hz
      rcases hc with q | ⟨u, q, hu⟩
      · rw [hz] at q
        cases q
      · rw [hz] at q
        have := Option.some.inj q
        omega
    · rw [if_neg e]
      exact hz
  · unfold fu at h
    split at h
    · have := Option.some.inj h
      omega
    · exact P.nn t u h
  · unfold fu at h
    split at h
    · rename_i e
      rw [e]
      exact hs
    · exact P.dom t h
  · by_cases e : t = s
    · unfold fu at h
      rw [if_pos e] at h
      have hu := Option.some.inj h
      obtain ⟨x, hx, hxv⟩ := down _ _ hv
      refine .inr ⟨r, hr, by rw [e]; exact ha, x, by rw [e]; exact hx, by omega⟩
    · unfold fu at h
      rw [if_neg e] at h
      rcases P.supp t u h with q | ⟨r', hr', ha', y, hy, hyu⟩
      · exact .inl q
      · obtain ⟨x, hx, hxv⟩ := down _ _ hy
        exact .inr ⟨r', hr', ha', x, hx, by omega⟩
  · unfold fu at h
    split at h
    · rename_i e
      have hu := Option.some.inj h
      rw [e]
      omega
    · exact P.bd t u h
  · have hw : ∀ t ∈ subs M, wt (fu g s (v + r.2)) t ≤ wt g t := fun t _ => by
      cases e : g t with
      | none =>
        have e2 : wt g t = 46 := by
          unfold wt
          rw [e]
        rw [e2]
        unfold wt fu
        by_cases e3 : t = s
        · rw [if_pos e3]
          show v + r.2 ≤ 46
          omega
        · rw [if_neg e3, e]
          exact Int.le_refl _
      | some u =>
        obtain ⟨x, hx, hxu⟩ := down t u e
        have e2 : wt g t = u := by
          unfold wt
          rw [e]
        have e3 : wt (fu g s (v + r.2)) t = x := by
          unfold wt
          rw [hx]
        rw [e2, e3]
        exact hxu
    have hl := sum_lt hw ⟨s, (subs_iff h0).mpr hs, by
      have e3 : wt (fu g s (v + r.2)) s = v + r.2 := by
        unfold wt fu
        rw [if_pos rfl]
      rw [e3]
      unfold wt
      rcases hc with q | ⟨u, q, hu⟩
      · rw [q]
        show v + r.2 < 46
        omega
      · rw [q]
        exact hu⟩
    have hn := sum_nn (g := wt (fu g s (v + r.2))) (l := subs M) fun t _ => by
      unfold wt fu
      split
      · omega
      · rename_i x e
        split at e
        · have := Option.some.inj e
          omega
        · exact P.nn t x e
    unfold nu
    omega
def g0 (M : Int) (goal : List Int) : List Int → Option Int := fun s => if s ∈ subs M ∧ sub goal s = true then some 0 else none
theorem g0_some {s : List Int} {v : Int} (h : g0 M goal s = some v) : s ∈ subs M ∧ sub goal s = true ∧ v = 0 := by
  unfold g0 at h
  split at h
  · rename_i q
    exact ⟨q.1, q.2, (Option.some.inj h).symm⟩
  · cases h
theorem Pg.init (h0 : 0 ≤ M) (hM : M ≤ 5) : Pg M R goal (g0 M goal) := by
  refine ⟨fun s hs hg => ?_, fun s v h => ?_, fun s h => ?_, fun s u h => .inl ?_, fun s u h => ?_⟩
  · unfold g0
    rw [if_pos ⟨(subs_iff h0).mpr hs, sub_iff.mpr hg⟩]
  · have := (g0_some h).2.2
    omega
  · obtain ⟨v, e⟩ := Option.isSome_iff_exists.mp h
    exact (subs_iff h0).mp (g0_some e).1
  · exact sub_iff.mp (g0_some h).2.1
  · obtain ⟨h1, h2, h3⟩ := g0_some h
    have := (((subs_iff h0).mp h1).mono hM).len
    omega
theorem Pg.gol (P : Pg M R goal g) (h : ∀ s, IsS M s → ∀ r ∈ R, (∀ m ∈ r.1.1, m ∈ s) → ∀ v, g (jn s r.1.2) = some v → ∃ u, g s = some u ∧ u ≤ v + r.2) : Gol M R goal g := ⟨P.zero, P.nn, P.dom, h, P.supp⟩
end
end Pb
set_option Elab.async false
set_option linter.all false
set_option maxRecDepth 100000
set_option maxHeartbeats 4000000
namespace Pb
/-! ## the plain law: papers of bills -/
def okI (R : List PR) (i : Int) : Bool := decide (0 ≤ i) && decide (i < R.length)
def wlk (R : List PR) : List Int → List Int × Int → Option (List Int × Int)
  | [], st => some st
  | i :: is, st => if okI R i = true then (match R[i.toNat]? with
    | none => none
    | some r => if sub r.1.1 st.1 = true then wlk R is (jn st.1 r.1.2, st.2 + r.2) else none) else none
def prc (R : List PR) (i : Int) : Int := match R[i.toNat]? with
  | none => 0
  | some r => r.2
def floorB (R : List PR) (goal : List Int) (fl : List (List Int × Int)) (s : List Int) : Bool :=
  !(decide ((lk fl s).getD 0 < 0) || (decide ((lk fl s).getD 0 > 0) && sub goal s)) && R.all fun r => !(sub r.1.1 s && decide ((lk fl s).getD 0 > r.2 + (lk fl (jn s r.1.2)).getD 0))
def billB (R : List PR) (th goal : List Int) (is : List Int) (fl : List (List Int × Int)) : Bool := match wlk R is (th, 0) with
  | none => false
  | some st => !(!(sub goal st.1) || decide ((lk fl th).getD 0 < st.2)) && (fl.map (·.1)).all (floorB R goal fl)
def showsBillB (R : List PR) (th goal : List Int) (is : List Int) (fl : List (List Int × Int)) : Bool := !(decide (is.length > 16) || !(is.all (okI R))) && billB R th goal is fl
section
variable {M : Int} {R : List PR} {goal th : List Int} {f g : List Int → Option Int} {is : List Int} {fl : List (List Int × Int)} {st st' : List Int × Int}
theorem wlk_append : ∀ {a b : List Int} {st : List Int × Int}, wlk R (a ++ b) st = (wlk R a st).bind (wlk R b)
  | [], b, st => rfl
  | i :: a, b, st => by
    rw [List.cons_append]
    unfold wlk
    split
    · split
      · rfl
      · split
        · exact wlk_append
        · rfl
    · rfl
theorem wlk_valid : ∀ {is : List Int} {st st' : List Int × Int}, wlk R is st = some st' → is.all (okI R) = true
  | [], _, _, _ => rfl
  | i :: is, st, st', h => by
    unfold wlk at h
    split at h
    · rename_i q
      split at h
      · cases h
      · split at h
        · rw [List.all_cons, q, wlk_valid h]
          rfl
        · cases h
    · cases h
theorem wlk_sum : ∀ {is : List Int} {st st' : List Int × Int}, wlk R is st = some st' → st'.2 = st.2 + (is.map (prc R)).sum
  | [], st, st', h => by
    have e : st = st' := Option.some.inj h
    rw [e]
    simp
  | i :: is, st, st', h => by
    unfold wlk at h
    split at h
    · split at h
      · cases h
      · rename_i r er
        split at h
        · have := wlk_sum h
          have e2 : prc R i = r.2 := by
            unfold prc
            rw [er]
          rw [List.map_cons, List.sum_cons, e2, this]
          show st.2 + r.2 + _ = _
          omega
        · cases h
    · cases h
theorem shows_bill (h : is.length ≤ 16) : showsBillB R th goal is fl = billB R th goal is fl := by
  unfold showsBillB
  rw [decide_eq_false (by omega : ¬ is.length > 16), Bool.false_or, Bool.not_not]
  cases e : is.all (okI R) with
  | true => rw [Bool.true_and]
  | false =>
    rw [Bool.false_and]
    unfold billB
    cases e2 : wlk R is (th, 0) with
    | none => rfl
    | some st =>
      rw [wlk_valid e2] at e
      cases e
/-- found, with indices -/
structure Ix (R : List PR) (goal : List Int) (g : List Int → Option Int) (ix : List Int → Option Nat) : Prop where
  some_ : ∀ s u k, g s = some u → ix s = some k → ∃ r, R[k]? = some r ∧ (∀ m ∈ r.1.1, m ∈ s) ∧ jn s r.1.2 ≠ s ∧ ∃ v, g (jn s r.1.2) = some v ∧ v + r.2 ≤ u
  none_ : ∀ s u, g s = some u → ix s = none → ∀ m ∈ goal, m ∈ s
theorem Ix.init : Ix R goal (g0 M goal) (fun _ => none) := ⟨fun s u k _ h => (nomatch h), fun s u h _ => sub_iff.mp (g0_some h).2.1⟩
theorem Ix.step {s : List Int} {ix : List Int → Option Nat} {r : PR} {v : Int} {k : Nat} (X : Ix R goal g ix) (hk : R[k]? = some r) (ha : ∀ m ∈ r.1.1, m ∈ s) (hv : g (jn s r.1.2) = some v) (hne : jn s r.1.2 ≠ s) (hc : g s = none ∨ ∃ u, g s = some u ∧ v + r.2 < u) :
    Ix R goal (fu g s (v + r.2)) (fun j => if j = s then some k else ix j) := by
  have down : ∀ t u, g t = some u → ∃ x, fu g s (v + r.2) t = some x ∧ x ≤ u := fun t u h => by
    unfold fu
    by_cases e : t = s
    · rw [if_pos e]
      refine ⟨_, rfl, ?_⟩
      rw [e] at h
      rcases hc with q | ⟨u', q, hu⟩
      · rw [h] at q
        cases q
      · rw [h] at q
        have := Option.some.inj q
        omega
    · rw [if_neg e]
      exact ⟨u, h, Int.le_refl _⟩
  refine ⟨fun t u j h1 h2 => ?_, fun t u h1 h2 => ?_⟩
  · have h2 := h2
    by_cases e : t = s
    · rw [if_pos e] at h2
      have ej : k = j := Option.some.inj h2
      unfold fu at h1
      rw [if_pos e] at h1
      have eu := Option.some.inj h1
      obtain ⟨x, hx, hxv⟩ := down _ _ hv
      rw [e, ← ej]
      exact ⟨r, hk, ha, hne, x, hx, by omega⟩
    · rw [if_neg e] at h2
      unfold fu at h1
      rw [if_neg e] at h1
      obtain ⟨r', a1, a2, a3, y, a4, a5⟩ := X.some_ t u j h1 h2
      obtain ⟨x, hx, hxv⟩ := down _ _ a4
      exact ⟨r', a1, a2, a3, x, hx, by omega⟩
  · have h2 := h2
    by_cases e : t = s
    · rw [if_pos e] at h2
      cases h2
    · rw [if_neg e] at h2
      unfold fu at h1
      rw [if_neg e] at h1
      exact X.none_ t u h1 h2
/-- a step of the walk that bill writes -/
theorem walk_step {ix : List Int → Option Nat} {here : List Int} {tot u : Int} {k : Nat} (hM : M ≤ 5) (hR : RsOk M R) (G : Gol M R goal g) (X : Ix R goal g ix) (hw : wlk R is (th, 0) = some (here, tot)) (hg : g here = some u) (hi : ix here = some k) :
    ∃ r v, R[k]? = some r ∧ wlk R (is ++ [(k : Int)]) (th, 0) = some (jn here r.1.2, tot + r.2) ∧ g (jn here r.1.2) = some v ∧ tot + r.2 + v = tot + u ∧ here.length < (jn here r.1.2).length := by
  obtain ⟨r, a1, a2, a3, v, a4, a5⟩ := X.some_ here u k hg hi
  have hr := List.mem_of_getElem? a1
  obtain ⟨_, i2, _, _⟩ := hR r hr
  have hs := G.dom here (by rw [hg]; rfl)
  obtain ⟨u', b1, b2⟩ := G.least here hs r hr a2 v a4
  rw [hg] at b1
  have := Option.some.inj b1
  have hk := (List.getElem?_eq_some_iff.mp a1).1
  refine ⟨r, v, a1, ?_, a4, by omega, (sub_len (hs.mono hM) ((hs.jn hM i2).mono hM) (jn_sub (hs.mono hM) (i2.mono hM))).2 (Ne.symm a3)⟩
  rw [wlk_append, hw]
  show wlk R [(k : Int)] (here, tot) = _
  unfold wlk
  have e1 : okI R (k : Int) = true := by
    unfold okI
    rw [decide_eq_true (by omega : (0 : Int) ≤ k), decide_eq_true (by omega : (k : Int) < R.length)]
    rfl
  have e2 : ((k : Int)).toNat = k := by omega
  rw [if_pos e1, e2, a1]
  show (if sub r.1.1 here = true then wlk R [] (jn here r.1.2, tot + r.2) else none) = _
  rw [if_pos (sub_iff.mpr a2)]
  rfl
theorem bill_paper {T : Int} {h : List Int} (hM : M ≤ 5) (hR : RsOk M R) (G : Gol M R goal g) (ht : IsS M th) (hg : g th = some T) (hw : wlk R is (th, 0) = some (h, T)) (hgoal : ∀ m ∈ goal, m ∈ h)
    (hfl : ∀ s, IsS M s → lk fl s = some ((g s).getD T)) (hk : ∀ s ∈ fl.map (·.1), IsS M s) : billB R th goal is fl = true := by
  have T0 := G.nn th T hg
  unfold billB
  rw [hw]
  show (!(!(sub goal h) || decide ((lk fl th).getD 0 < T)) && (fl.map (·.1)).all (floorB R goal fl)) = true
  rw [sub_iff.mpr hgoal, hfl th ht, hg]
  rw [Bool.and_eq_true]
  refine ⟨by simp, ?_⟩
  rw [List.all_eq_true]
  intro s hs
  have hsS := hk s hs
  unfold floorB
  rw [hfl s hsS]
  have hv0 : 0 ≤ (g s).getD T := by
    cases e : g s with
    | none => exact T0
    | some u => exact G.nn s u e
  rw [Bool.and_eq_true]
  constructor
  · rw [Bool.not_eq_true', Bool.or_eq_false_iff]
    refine ⟨decide_eq_false (by show ¬ (g s).getD T < 0; omega), ?_⟩
    rw [Bool.and_eq_false_imp]
    intro hp
    have hp := of_decide_eq_true hp
    cases q : sub goal s with
    | false => rfl
    | true =>
      rw [G.zero s hsS (sub_iff.mp q)] at hp
      exact absurd hp (by show ¬ (0 : Int) > 0; omega)
  · rw [List.all_eq_true]
    intro r hr
    obtain ⟨i1, i2, w1, w2⟩ := hR r hr
    have hj := hsS.jn hM i2
    rw [Bool.not_eq_true', Bool.and_eq_false_imp]
    intro hp
    have hp := sub_iff.mp hp
    refine decide_eq_false ?_
    rw [hfl _ hj]
    show ¬ (g s).getD T > r.2 + (g (jn s r.1.2)).getD T
    cases e : g (jn s r.1.2) with
    | some x =>
      obtain ⟨u, e2, hu⟩ := G.least s hsS r hr hp x e
      rw [e2]
      show ¬ u > r.2 + x
      omega
    | none =>
      cases e2 : g s with
      | none =>
        show ¬ T > r.2 + T
        omega
      | some u =>
        have := G.up hM hR (u.toNat + 1) s (jn s r.1.2) u e2 (by have := G.nn s u e2; omega) hj (jn_sub (hsS.mono hM) (i2.mono hM))
        rw [e] at this
        cases this
theorem bill_none (G : Gol M R goal g) (ht : IsS M th) (hg : g th = none) : billB R th goal [] [] = false := by
  unfold billB wlk
  show (!(!(sub goal th) || _) && _) = false
  cases q : sub goal th with
  | false => rfl
  | true =>
    rw [G.zero th ht (sub_iff.mp q)] at hg
    cases hg
end
end Pb
set_option Elab.async false
set_option linter.all false
set_option maxRecDepth 100000
set_option maxHeartbeats 4000000
namespace Pb
open PySem PySem.Spec PyProof.Rows L2
/-! ### relations of heaps -/
structure RO (R : Hp → Hp → Prop) (K : Addr → Prop) : Prop where
  refl : ∀ H, R H H
  trans : ∀ {H H1 H2}, R H H1 → R H1 H2 → R H H2
  new : ∀ {H p o}, H p = none → R H (upd H p o)
  wrt : ∀ {H H1 p o o1}, R H H1 → H p = none → H1 p = some o1 → Wr o1 → R H (upd H1 p o)
  im : ∀ {H H1}, R H H1 → Im H H1
  kp : ∀ {H H1 b o}, K b → R H H1 → H b = some o → (∀ ps, o ≠ .tbl ps) → H1 b = some o
theorem roEx (T : Tb) : RO (Ex T) (fun _ => True) := ⟨Ex.refl T, Ex.trans, Ex.new, fun x h h1 w => Ex.mut x (NT.of h) h1 w, Ex.im, fun _ x h n => x.1 _ _ h n⟩
/-- the list of draws at d -/
def Dr (H : Hp) (d : Addr) : Prop := ∃ ns : List Int, ns.length ≤ 100000 ∧ H d = some (.lst (ns.map V.int))
/-- all stays but the draws at d -/
structure Ed (T : Tb) (d : Addr) (H H' : Hp) : Prop where
  all : ∀ b o, b ≠ d → H b = some o → (∀ ps, o ≠ .tbl ps) → H' b = some o
  tabs : LamX.Tabs T H → LamX.Tabs T H'
  dr : Dr H d → Dr H' d
  im : Im H H'
section
variable {T : Tb} {d p a : Addr} {H H1 H2 : Hp} {o o1 : HO}
theorem Ed.of (x : Ex T H H1) : Ed T d H H1 := ⟨fun b o _ h n => x.1 b o h n, x.2, fun ⟨ns, l, h⟩ => ⟨ns, l, x.lst h⟩, x.im⟩
theorem Ed.trans (x : Ed T d H H1) (y : Ed T d H1 H2) : Ed T d H H2 := ⟨fun b o n h t => y.all b o n (x.all b o n h t) t, fun h => y.tabs (x.tabs h), fun h => y.dr (x.dr h), x.im.trans y.im⟩
theorem Ed.mut (x : Ed T d H H1) (h : H p = none) (h1 : H1 p = some o1) (w : Wr o1) : Ed T d H (upd H1 p o) := by
  refine ⟨fun b o' n e t => ?_, fun t => ?_, fun q => ?_, fun b xs e => ?_⟩
  · rw [upd_ne (ne_of_none e h)]
    exact x.all b o' n e t
  · have t1 := x.tabs t
    intro q hq
    obtain ⟨ps, a1, a2, a3⟩ := t1 q hq
    refine ⟨ps, ?_, a2, fun pos cv hc => ?_⟩
    · rw [upd_ne (ne_of a1 h1 (fun z => w.ntb ps z.symm))]
      exact a1
    · obtain ⟨c, e1, e2⟩ := a3 pos cv hc
      refine ⟨c, e1, ?_⟩
      rw [upd_ne (ne_of e2 h1 (fun z => ?_))]
      · exact e2
      · rw [← z] at w
        exact w
  · obtain ⟨ns, l, e⟩ := x.dr q
    obtain ⟨ns', l', e'⟩ := q
    exact ⟨ns, l, by rw [upd_ne (ne_of_none e' h)]; exact e⟩
  · rw [upd_ne (ne_of_none e h)]
    exact x.im b xs e
theorem Ed.at_ (x : Ed T d H H1) (n : a ≠ d) (h : H a = some o) (t : ∀ ps, o ≠ .tbl ps) : H1 a = some o := x.all a o n h t
end
theorem roEd (T : Tb) (d : Addr) : RO (Ed T d) (fun b => b ≠ d) := ⟨fun H => Ed.of (Ex.refl T H), Ed.trans, fun h => Ed.of (Ex.new h), Ed.mut, Ed.im, fun n x h t => x.all _ _ n h t⟩
/-! ### comprehensions -/
section
variable {R : Hp → Hp → Prop} {KD : Addr → Prop} {J : It} {n : Nat} {G : Hp → Prop} {Y : Nat → Hp → V → Hp → Prop} {g : TG} {tt : TT} {te : TE} {vs : List Nat} {σ : L2.St} {H1 : Hp} {D : Addr} {Qd : Hp → Prop} {α : Type} {ds : List α}
def Evr (R : Hp → Hp → Prop) (te : TE) (σ : L2.St) (H : Hp) (P : V → Hp → Prop) : Prop := ∀ H1, R H H1 → ∀ Q : VK, (∀ v H2, R H1 H2 → P v H2 → Q v H2) → te σ H1 Q
def EvrT (R : Hp → Hp → Prop) (tt : TT) (σ : L2.St) (H : Hp) (B : Bool → Prop) : Prop := ∀ H1, R H H1 → ∀ Q : Bool → Hp → Prop, (∀ b H2, R H1 H2 → B b → Q b H2) → tt σ H1 Q
/-- a list comprehension over ds: a sublist of ds, those with f (f tells what the test may answer), each as P says -/
theorem lc_any (ro : RO R KD) (hK : KD D) (w : Walk J n G Y) (hn : ds.length = n) (hz : n ≤ 10000) (hD : H1 D = none) (hG : ∀ H, R H1 H → G H) (hY : ∀ i H x H', i < n → R H1 H → Y i H x H' → R H H')
    (f : α → Bool → Prop) (P : α → V → Hp → Prop) (stP : ∀ d v H H', Im H H' → P d v H → P d v H')
    (hs : ∀ i d x H H', ds[i]? = some d → R H1 H → R H1 H' → Y i H x H' → ∀ S : L2.St → Hp → Prop, (∀ σ2, wipe σ2 vs = wipe σ vs → EvrT R tt σ2 H' (f d) → (f d true → Evr R te σ2 H' (P d)) → S σ2 H') → g x (wipe σ vs) H' S)
    (hq : ∀ acc es H', R H1 H' → H' D = some (.lst acc) → List.Sublist es ds → (∀ d ∈ es, f d true) → ((∀ d ∈ ds, ¬ f d false) → es = ds) → Paired (fun d v => P d v H') es acc → Qd H') :
    ∃ W : Nat → Nat → Hp → Prop, (∃ m, W 0 m (upd H1 D (.lst []))) ∧ ∀ i m H, W i m H →
      (J.stop i H ∧ Qd H) ∨ (J.go i H ∧ ∃ Nx : Hp → Prop, (∀ H', Nx H' → ∃ m', m' < m ∧ W (i + 1) m' H') ∧ ∀ x H', J.yld i H x H' → g x (wipe σ vs) H' fun σ2 H2 => wipe σ2 vs = wipe σ vs ∧ tt σ2 H2 fun b H3 =>
        if b = true then te σ2 H3 fun y H4 => ∃ acc, H4 D = some (.lst acc) ∧ acc.length < sizeLine ∧ Nx (upd H4 D (.lst (acc ++ [y]))) else Nx H3) := by
  subst hn
  refine lc_it w (fun i H => R H1 H ∧ ∃ acc es, H D = some (.lst acc) ∧ List.Sublist es (ds.take i) ∧ (∀ d ∈ es, f d true) ∧ ((∀ d ∈ ds, ¬ f d false) → es = ds.take i) ∧ Paired (fun d v => P d v H) es acc)
    ⟨ro.new hD, [], [], upd_same, List.nil_sublist _, fun d hd => (nomatch hd), fun _ => by rw [List.take_zero], .nil⟩ (fun i H _ p => hG H p.1) ?_ ?_
  · rintro i x H H' hi ⟨e, acc, es, hd, he, hf, hall, hp⟩ y
    have e' : R H H' := hY i H x H' hi e y
    have hdi : ds[i]? = some ds[i] := List.getElem?_eq_getElem hi
    refine hs i ds[i] x H H' hdi e (ro.trans e e') y _ fun σ2 hw ht hv => ⟨hw, ?_⟩
    refine ht H' (ro.refl H') _ fun b H3 e3 hb => ?_
    have hl : acc.length ≤ i := by
      have h1 := Paired.length hp
      have h2 := he.length_le
      rw [List.length_take] at h2
      omega
    have kD : ∀ {Hb : Hp}, R H Hb → Hb D = some (.lst acc) := fun x => ro.kp hK x hd (fun _ z => by cases z)
    cases b with
    | false =>
      refine iteF ⟨ro.trans (ro.trans e e') e3, acc, es, ?_, ?_, hf, fun q => absurd hb (q _ (List.getElem_mem hi)), Paired.imp (fun d v h => stP d v _ _ (ro.im (ro.trans e' e3)) h) hp⟩
      · exact kD (ro.trans e' e3)
      · rw [take_snoc hdi]
        exact he.trans (List.sublist_append_left _ _)
    | true =>
      refine iteT (hv hb H3 e3 _ fun v H4 e4 hv => ?_)
      have hd4 : H4 D = some (.lst acc) := kD (ro.trans e' (ro.trans e3 e4))
      refine ⟨acc, hd4, Nat.lt_of_lt_of_le (by omega) (by decide : 10001 ≤ sizeLine), ro.wrt (ro.trans (ro.trans (ro.trans e e') e3) e4) hD hd4 trivial, _, es ++ [ds[i]], upd_same, ?_, ?_, ?_, ?_⟩
      · rw [take_snoc hdi]
        exact he.append (List.Sublist.refl _)
      · intro d hd
        rcases List.mem_append.mp hd with q | q
        · exact hf d q
        · rw [List.mem_singleton.mp q]
          exact hb
      · intro q
        rw [take_snoc hdi, hall q]
      · have im : Im H4 (upd H4 D (.lst (acc ++ [v]))) := Im.mut hd4 trivial
        exact Paired.snoc (Paired.imp (fun d v h => stP d v _ _ ((ro.im (ro.trans (ro.trans e' e3) e4)).trans im) h) hp) (stP _ _ _ _ im hv)
  · rintro H ⟨e, acc, es, hd, he, hf, hall, hp⟩
    rw [List.take_length] at he hall
    exact hq acc es H e hd he hf hall hp
end
/-- .. over a test that tells f -/
theorem lc_f {R : Hp → Hp → Prop} {KD : Addr → Prop} {J : It} {n : Nat} {G : Hp → Prop} {Y : Nat → Hp → V → Hp → Prop} {g : TG} {tt : TT} {te : TE} {vs : List Nat} {σ : L2.St} {H1 : Hp} {D : Addr} {Qd : Hp → Prop} {α : Type} {ds : List α}
    (ro : RO R KD) (hK : KD D) (w : Walk J n G Y) (hn : ds.length = n) (hz : n ≤ 10000) (hD : H1 D = none) (hG : ∀ H, R H1 H → G H) (hY : ∀ i H x H', i < n → R H1 H → Y i H x H' → R H H')
    (f : α → Bool) (P : α → V → Hp → Prop) (stP : ∀ d v H H', Im H H' → P d v H → P d v H')
    (hs : ∀ i d x H H', ds[i]? = some d → R H1 H → R H1 H' → Y i H x H' → ∀ S : L2.St → Hp → Prop, (∀ σ2, wipe σ2 vs = wipe σ vs → EvrT R tt σ2 H' (fun b => b = f d) → (f d = true → Evr R te σ2 H' (P d)) → S σ2 H') → g x (wipe σ vs) H' S)
    (hq : ∀ acc H', R H1 H' → H' D = some (.lst acc) → Paired (fun d v => P d v H') (ds.filter f) acc → Qd H') :
    ∃ W : Nat → Nat → Hp → Prop, (∃ m, W 0 m (upd H1 D (.lst []))) ∧ ∀ i m H, W i m H →
      (J.stop i H ∧ Qd H) ∨ (J.go i H ∧ ∃ Nx : Hp → Prop, (∀ H', Nx H' → ∃ m', m' < m ∧ W (i + 1) m' H') ∧ ∀ x H', J.yld i H x H' → g x (wipe σ vs) H' fun σ2 H2 => wipe σ2 vs = wipe σ vs ∧ tt σ2 H2 fun b H3 =>
        if b = true then te σ2 H3 fun y H4 => ∃ acc, H4 D = some (.lst acc) ∧ acc.length < sizeLine ∧ Nx (upd H4 D (.lst (acc ++ [y]))) else Nx H3) := by
  subst hn
  refine lc_it w (fun i H => R H1 H ∧ ∃ acc, H D = some (.lst acc) ∧ Paired (fun d v => P d v H) ((ds.take i).filter f) acc) ⟨ro.new hD, [], upd_same, by rw [List.take_zero]; exact .nil⟩ (fun i H _ p => hG H p.1) ?_ ?_
  · rintro i x H H' hi ⟨e, acc, hd, hp⟩ y
    have e' : R H H' := hY i H x H' hi e y
    have hdi : ds[i]? = some ds[i] := List.getElem?_eq_getElem hi
    refine hs i ds[i] x H H' hdi e (ro.trans e e') y _ fun σ2 hw ht hv => ⟨hw, ?_⟩
    refine ht H' (ro.refl H') _ fun b H3 e3 hb => ?_
    have hl : acc.length ≤ i := by
      have h1 := Paired.length hp
      have h2 := List.length_filter_le f (ds.take i)
      rw [List.length_take] at h2
      omega
    have kD : ∀ {Hb : Hp}, R H Hb → Hb D = some (.lst acc) := fun x => ro.kp hK x hd (fun _ z => by cases z)
    cases b with
    | false =>
      refine iteF ⟨ro.trans (ro.trans e e') e3, acc, kD (ro.trans e' e3), ?_⟩
      rw [take_snoc hdi, filter_snoc_f hb.symm]
      exact Paired.imp (fun d v h => stP d v _ _ (ro.im (ro.trans e' e3)) h) hp
    | true =>
      refine iteT (hv hb.symm H3 e3 _ fun v H4 e4 hv => ?_)
      have hd4 : H4 D = some (.lst acc) := kD (ro.trans e' (ro.trans e3 e4))
      refine ⟨acc, hd4, Nat.lt_of_lt_of_le (by omega) (by decide : 10001 ≤ sizeLine), ro.wrt (ro.trans (ro.trans (ro.trans e e') e3) e4) hD hd4 trivial, _, upd_same, ?_⟩
      have im : Im H4 (upd H4 D (.lst (acc ++ [v]))) := Im.mut hd4 trivial
      rw [take_snoc hdi, filter_snoc_t hb.symm]
      exact Paired.snoc (Paired.imp (fun d v h => stP d v _ _ ((ro.im (ro.trans (ro.trans e' e3) e4)).trans im) h) hp) (stP _ _ _ _ im hv)
  · rintro H ⟨e, acc, hd, hp⟩
    rw [List.take_length] at hp
    exact hq acc H e hd hp
/-! ### what stands in the heap -/
section
variable {κ α : Type} [DecidableEq κ] {ι : Type} [DecidableEq ι]
theorem valV_of {k : κ → ι} {e : α → V} (inj : ∀ a b, k a = k b → a = b) (m : κ) : ∀ t : List (κ × α), valV (t.map fun p => (k p.1, e p.2)) (k m) = (lk t m).map e
  | [] => rfl
  | p :: r => by
    rw [List.map_cons, lk_cons]
    by_cases q : p.1 = m
    · rw [if_pos q, valV_pos (p := (k p.1, e p.2)) (by rw [q])]
      rfl
    · rw [if_neg q, valV_neg (p := (k p.1, e p.2)) (fun z => q (inj _ _ z))]
      exact valV_of inj m r
theorem putK_of {k : κ → ι} {e : α → V} (inj : ∀ a b, k a = k b → a = b) (m : κ) (v : α) (t : List (κ × α)) : putK (t.map fun p => (k p.1, e p.2)) (k m) (e v) = (pt t m v).map fun p => (k p.1, e p.2) := by
  unfold putK pt
  rw [valV_any, valV_of inj, Option.isSome_map, lk_any]
  split
  · rw [List.map_map, List.map_map]
    refine List.map_congr_left fun p _ => ?_
    show (if k p.1 = k m then (k p.1, e v) else (k p.1, e p.2)) = ((fun p : κ × α => (k p.1, e p.2)) ∘ fun p => if p.1 = m then (p.1, v) else p) p
    by_cases q : p.1 = m
    · rw [if_pos (by rw [q])]
      simp [q]
    · rw [if_neg (fun z => q (inj _ _ z))]
      simp [q]
  · rw [List.map_append]
    rfl
end
abbrev kI (m : Int) : Key := Sum.inl m
theorem kI_inj : ∀ a b : Int, kI a = kI b → a = b := fun a b h => by injection h
theorem iK_inj : ∀ a b : List Int, iK a = iK b → a = b
  | [], [], _ => rfl
  | [], _ :: _, h => nomatch h
  | _ :: _, [], h => nomatch h
  | x :: a, y :: b, h => by
    injection h with h1 h2
    rw [kI_inj _ _ h1, iK_inj a b h2]
/-- the dict at a: marks and ints -/
abbrev dk (t : List (Int × Int)) : List (Key × V) := t.map fun p => (kI p.1, V.int p.2)
def KD (H : Hp) (a : Addr) (t : List (Int × Int)) : Prop := H a = some (.dK (dk t))
/-- the dict at a: sets and ints -/
abbrev dt (t : List (List Int × Int)) : List (List Key × V) := t.map fun p => (iK p.1, V.int p.2)
def TD (H : Hp) (a : Addr) (t : List (List Int × Int)) : Prop := H a = some (.dT (dt t))
theorem valV_dk (t : List (Int × Int)) (m : Int) : valV (dk t) (kI m) = (lk t m).map V.int := valV_of kI_inj m t
theorem valV_dt (t : List (List Int × Int)) (m : List Int) : valV (dt t) (iK m) = (lk t m).map V.int := valV_of iK_inj m t
theorem putK_dk (t : List (Int × Int)) (m v : Int) : putK (dk t) (kI m) (.int v) = dk (pt t m v) := putK_of kI_inj m v t
theorem putK_dt (t : List (List Int × Int)) (m : List Int) (v : Int) : putK (dt t) (iK m) (.int v) = dt (pt t m v) := putK_of iK_inj m v t
theorem mapK (s : List Int) : (iK s).map kV = s.map V.int := by
  rw [List.map_map]
  rfl
/-- rules -/
def RuA (H : Hp) (a : Addr) (r : Ru) : Prop := ∃ p c, H a = some (.tup [.ref p, .ref c]) ∧ HT H p r.1 ∧ HT H c r.2
def Rus (H : Hp) (a : Addr) (rs : List Ru) : Prop := ∃ as : List Addr, H a = some (.tup (as.map V.ref)) ∧ Paired (RuA H) as rs
theorem RuA.im {H H' : Hp} {a : Addr} {r : Ru} (h : RuA H a r) (k : Im H H') : RuA H' a r := by
  obtain ⟨p, c, h1, h2, h3⟩ := h
  exact ⟨p, c, k _ _ h1, h2.im k, h3.im k⟩
theorem Rus.im {H H' : Hp} {a : Addr} {rs : List Ru} (h : Rus H a rs) (k : Im H H') : Rus H' a rs := by
  obtain ⟨as, h1, h2⟩ := h
  exact ⟨as, k _ _ h1, Paired.imp (fun _ _ q => q.im k) h2⟩
/-- a book -/
def Bk (K : PySem.W.Frag) (H : Hp) (b : Addr) (M : Int) (rs : List Ru) : Prop := ∃ dx r, SlX.Slt H b (He.ga K "Book") dx [some (.int M), some (.ref r)] ∧ Rus H r rs
theorem slt_keep {H H' : Hp} {a C dx : Addr} {x : Option V} {vs : List (Option V)} (h : SlX.Slt H a C dx (x :: vs)) (k : ∀ b o, (b = a ∨ b = dx) → H b = some o → (∀ ps, o ≠ .tbl ps) → H' b = some o) : SlX.Slt H' a C dx (x :: vs) := by
  rcases h with ⟨_, h⟩ | ⟨h1, h2⟩
  · cases h
  · exact .inr ⟨k _ _ (.inl rfl) h1 (fun ps z => by unfold SlX.SlO at z; cases z), k _ _ (.inr rfl) h2 (fun ps z => by cases z)⟩
theorem Bk.ex {K : PySem.W.Frag} {T : Tb} {H H' : Hp} {b : Addr} {M : Int} {rs : List Ru} (h : Bk K H b M rs) (x : Ex T H H') : Bk K H' b M rs := by
  obtain ⟨dx, r, h1, h2⟩ := h
  exact ⟨dx, r, slt_keep h1 fun b o _ e n => x.1 b o e n, h2.im x.im⟩
/-- what is in a tuple, or a dict -/
def Mem (K : PySem.W.Frag) (H : Hp) (a : Addr) (f : Int → Bool) : Prop := (∃ ys : List Int, HT H a ys ∧ ∀ m, f m = decide (m ∈ ys)) ∨ ∃ t : List (Key × V), Rd H a (.dK t) ∧ ∀ m, f m = (valV t (kI m)).isSome
theorem Mem.ex {K : PySem.W.Frag} {T : Tb} {H H' : Hp} {a : Addr} {f : Int → Bool} (h : Mem K H a f) (x : Ex T H H') : Mem K H' a f := by
  rcases h with ⟨ys, h1, h2⟩ | ⟨t, h1, h2⟩
  · exact .inl ⟨ys, h1.ex x, h2⟩
  · exact .inr ⟨t, x.rd h1 (fun _ z => by cases z), h2⟩
theorem Mem.tup {K : PySem.W.Frag} {H : Hp} {a : Addr} {ys : List Int} (h : HT H a ys) : Mem K H a fun m => decide (m ∈ ys) := .inl ⟨ys, h, fun _ => rfl⟩
theorem Mem.dk {K : PySem.W.Frag} {H : Hp} {a : Addr} {t : List (Int × Int)} (h : KD H a t) : Mem K H a fun m => (lk t m).isSome := .inr ⟨_, .inl h, fun m => by rw [valV_dk, Option.isSome_map]⟩
theorem Mem.dr {K : PySem.W.Frag} {H : Hp} {a : Addr} {t : List (Int × Int)} (h : Rd H a (.dK (Pb.dk t))) : Mem K H a fun m => (lk t m).isSome := .inr ⟨_, h, fun m => by rw [valV_dk, Option.isSome_map]⟩
end Pb
set_option Elab.async false
set_option linter.all false
set_option maxRecDepth 100000
set_option maxHeartbeats 4000000
namespace Pb
open PySem PySem.Spec PyProof.Rows L2
section
variable {P : Program} {w : World} {K : PySem.W.Frag} {mg : Str → Option Value} {base : Heap} {T : Tb}
def spIsInteger (T : Tb) : Sp := fun vs H Q _ => ∃ m lo hi : Int, vs = [.int m, .int lo, .int hi] ∧ Q (.bl (decide (lo ≤ m ∧ m ≤ hi))) H
theorem sc_is_integer : FnScope ["thing", "low", "high"] ["thing", "low", "high"] (defScope sIsInteger) := ⟨rfl, rfl, rfl, by decide +kernel, rfl, by decide +kernel, by decide +kernel⟩
theorem c_is_integer (G : Gx K mg) : C8.Cal P w K mg base 1 "is_integer" (spIsInteger T) [] := by
  refine calOf G 0 rfl rfl sc_is_integer (fun _ _ _ _ _ _ us hl => match us, hl with | [_, _, _], _ => rfl) (fun vs H Q E h => ?_) (fun f cdv A outer s H vs Q E hr h => ?_)
  · obtain ⟨m, lo, hi, rfl, _⟩ := h
    rfl
  · obtain ⟨m, lo, hi, rfl, k⟩ := h
    refine ⟨_, pss_one (ps_ret (pe_and (pe_callB call_isi (by rfl) G.b_isinstance (by decide +kernel) (pa_cons (pv 0) (pa_cons (pe_bltn (v := .ty "int") (by rfl) G.b_int boot_int rfl) pa_nil)))
      (pe_and (pe_not (pe_callB call_isi (by rfl) G.b_isinstance (by decide +kernel) (pa_cons (pv 0) (pa_cons (pe_bltn (v := .ty "bool") (by rfl) G.b_bool (by decide +kernel) rfl) pa_nil))))
      (pe_one (pe_chain op_le op_le (pv 1) (pv 0) (pv 2)))))), ?_⟩
    refine ⟨_, rfl, _, _, _, _, _, rfl, .ty "int", .base (.int m), kit_ty (by decide +kernel), true, rfl, iteT ?_⟩
    refine ⟨_, rfl, _, _, _, _, _, rfl, .ty "bool", .base (.int m), kit_ty (by decide +kernel), false, rfl, true, rfl, iteT ?_⟩
    refine ⟨_, rfl, _, rfl, _, _, rfl, rfl, _, rfl, ?_⟩
    by_cases h1 : lo ≤ m
    · rw [if_pos (by simpa using h1)]
      refine ⟨_, rfl, _, _, rfl, rfl, ?_⟩
      simpa [h1] using k
    · rw [if_neg (by simpa using h1)]
      simpa [h1] using k
end
end Pb
set_option Elab.async false
set_option linter.all false
set_option maxRecDepth 100000
set_option maxHeartbeats 4000000
namespace Pb
open PySem PySem.Spec PyProof.Rows L2
/-! ### comprehensions of bools, of ints -/
section
variable {T : Tb} {J : It} {n : Nat} {G : Hp → Prop} {Y : Nat → Hp → V → Hp → Prop} {g : TG} {tt : TT} {te : TE} {vs : List Nat} {σ : L2.St} {H1 : Hp} {D : Addr} {Qd : Hp → Prop} {α : Type} {ds : List α}
theorem evr_yes {R : Hp → Hp → Prop} {σ : L2.St} {H : Hp} {KD : Addr → Prop} (ro : RO R KD) : EvrT R tYes σ H (fun b => b = true) := fun H1 _ _ q => q true H1 (ro.refl H1) rfl
theorem filter_true (l : List α) : l.filter (fun _ => true) = l := List.filter_eq_self.mpr fun _ _ => rfl
theorem paired_map {β : Type} {k : α → β} : ∀ {l : List α} {m : List β}, Paired (fun d v => v = k d) l m → m = l.map k
  | _, _, .nil => rfl
  | _, _, .cons h t => by rw [h, paired_map t]; rfl
/-- [k(d) for d in ds if f(d)] -/
theorem lc_val (w : Walk J n G Y) (hn : ds.length = n) (hz : n ≤ 10000) (hD : H1 D = none) (hG : ∀ H, Ex T H1 H → G H) (hY : ∀ i H x H', i < n → Ex T H1 H → Y i H x H' → Ex T H H') (f : α → Bool) (k : α → V)
    (hs : ∀ i d x H H', ds[i]? = some d → Ex T H1 H → Ex T H1 H' → Y i H x H' → ∀ S : L2.St → Hp → Prop, (∀ σ2, wipe σ2 vs = wipe σ vs → EvrT (Ex T) tt σ2 H' (fun b => b = f d) → (f d = true → Evr (Ex T) te σ2 H' (fun v _ => v = k d)) → S σ2 H') → g x (wipe σ vs) H' S)
    (hq : ∀ H', Ex T H1 H' → H' D = some (.lst ((ds.filter f).map k)) → Qd H') :
    ∃ W : Nat → Nat → Hp → Prop, (∃ m, W 0 m (upd H1 D (.lst []))) ∧ ∀ i m H, W i m H →
      (J.stop i H ∧ Qd H) ∨ (J.go i H ∧ ∃ Nx : Hp → Prop, (∀ H', Nx H' → ∃ m', m' < m ∧ W (i + 1) m' H') ∧ ∀ x H', J.yld i H x H' → g x (wipe σ vs) H' fun σ2 H2 => wipe σ2 vs = wipe σ vs ∧ tt σ2 H2 fun b H3 =>
        if b = true then te σ2 H3 fun y H4 => ∃ acc, H4 D = some (.lst acc) ∧ acc.length < sizeLine ∧ Nx (upd H4 D (.lst (acc ++ [y]))) else Nx H3) :=
  lc_f (roEx T) trivial w hn hz hD hG hY f (fun d v _ => v = k d) (fun _ _ _ _ _ h => h) hs fun acc H' e hd hp => hq H' e (by rw [hd, paired_map hp])
/-- .. of all -/
theorem lc_all (w : Walk J n G Y) (hn : ds.length = n) (hz : n ≤ 10000) (hD : H1 D = none) (hG : ∀ H, Ex T H1 H → G H) (hY : ∀ i H x H', i < n → Ex T H1 H → Y i H x H' → Ex T H H') (k : α → V)
    (hs : ∀ i d x H H', ds[i]? = some d → Ex T H1 H → Ex T H1 H' → Y i H x H' → ∀ S : L2.St → Hp → Prop, (∀ σ2, wipe σ2 vs = wipe σ vs → Evr (Ex T) te σ2 H' (fun v _ => v = k d) → S σ2 H') → g x (wipe σ vs) H' S)
    (hq : ∀ H', Ex T H1 H' → H' D = some (.lst (ds.map k)) → Qd H') :
    ∃ W : Nat → Nat → Hp → Prop, (∃ m, W 0 m (upd H1 D (.lst []))) ∧ ∀ i m H, W i m H →
      (J.stop i H ∧ Qd H) ∨ (J.go i H ∧ ∃ Nx : Hp → Prop, (∀ H', Nx H' → ∃ m', m' < m ∧ W (i + 1) m' H') ∧ ∀ x H', J.yld i H x H' → g x (wipe σ vs) H' fun σ2 H2 => wipe σ2 vs = wipe σ vs ∧ tYes σ2 H2 fun b H3 =>
        if b = true then te σ2 H3 fun y H4 => ∃ acc, H4 D = some (.lst acc) ∧ acc.length < sizeLine ∧ Nx (upd H4 D (.lst (acc ++ [y]))) else Nx H3) :=
  lc_val w hn hz hD hG hY (fun _ => true) k (fun i d x H H' a b c y S hS => hs i d x H H' a b c y S fun σ2 h1 h2 => hS σ2 h1 (evr_yes (roEx T)) fun _ => h2) fun H' e hd => hq H' e (by rw [hd, filter_true])
/-- .. bools -/
theorem lc_bl (w : Walk J n G Y) (hn : ds.length = n) (hz : n ≤ 10000) (hD : H1 D = none) (hG : ∀ H, Ex T H1 H → G H) (hY : ∀ i H x H', i < n → Ex T H1 H → Y i H x H' → Ex T H H') (b : α → Bool)
    (hs : ∀ i d x H H', ds[i]? = some d → Ex T H1 H → Ex T H1 H' → Y i H x H' → ∀ S : L2.St → Hp → Prop, (∀ σ2, wipe σ2 vs = wipe σ vs → Evr (Ex T) te σ2 H' (fun v _ => v = .bl (b d)) → S σ2 H') → g x (wipe σ vs) H' S)
    (hq : ∀ H', Ex T H1 H' → H' D = some (.lst ((ds.map b).map V.bl)) → Qd H') :
    ∃ W : Nat → Nat → Hp → Prop, (∃ m, W 0 m (upd H1 D (.lst []))) ∧ ∀ i m H, W i m H →
      (J.stop i H ∧ Qd H) ∨ (J.go i H ∧ ∃ Nx : Hp → Prop, (∀ H', Nx H' → ∃ m', m' < m ∧ W (i + 1) m' H') ∧ ∀ x H', J.yld i H x H' → g x (wipe σ vs) H' fun σ2 H2 => wipe σ2 vs = wipe σ vs ∧ tYes σ2 H2 fun b H3 =>
        if b = true then te σ2 H3 fun y H4 => ∃ acc, H4 D = some (.lst acc) ∧ acc.length < sizeLine ∧ Nx (upd H4 D (.lst (acc ++ [y]))) else Nx H3) :=
  lc_all w hn hz hD hG hY (fun d => V.bl (b d)) hs fun H' e hd => hq H' e (by rw [hd, List.map_map]; rfl)
theorem all_id {α : Type} (b : α → Bool) : ∀ l : List α, (l.map b).all id = l.all b
  | [] => rfl
  | x :: l => by rw [List.map_cons, List.all_cons, List.all_cons, all_id b l]; rfl
theorem any_id {α : Type} (b : α → Bool) : ∀ l : List α, (l.map b).any id = l.any b
  | [] => rfl
  | x :: l => by rw [List.map_cons, List.any_cons, List.any_cons, any_id b l]; rfl
/-- what a walk leaves as it was -/
theorem yat_ex {xs : List V} {i : Nat} {H H' : Hp} {x : V} (y : YAt xs i H x H') : Ex T H H' := by
  rw [y.1]
  exact Ex.refl T H
theorem ypair_ex {xs ys : Nat → Option V} {i : Nat} {H H' : Hp} {x : V} (y : YPair xs ys i H x H') : Ex T H H' := by
  obtain ⟨p, _, _, _, h, e, _⟩ := y
  rw [e]
  exact Ex.new h
theorem yfn_ex {f : Nat → V} {i : Nat} {H H' : Hp} {x : V} (y : YFn f i H x H') : Ex T H H' := by
  rw [y.1]
  exact Ex.refl T H
end
end Pb
set_option Elab.async false
set_option linter.all false
set_option maxRecDepth 100000
set_option maxHeartbeats 4000000
namespace Pb
open PySem PySem.Spec PyProof.Rows L2
theorem at_map {α β : Type} {f : α → β} {xs : List α} {i : Nat} {u : β} {d : α} (h : (xs.map f)[i]? = some u) (hd : xs[i]? = some d) : u = f d := by
  rw [List.getElem?_map, hd] at h
  exact (Option.some.inj h).symm
theorem at_of {α β : Type} {f : α → β} {xs : List α} {i : Nat} {u : β} (h : (xs.map f)[i]? = some u) : ∃ d, xs[i]? = some d ∧ u = f d := by
  rw [List.getElem?_map] at h
  cases e : xs[i]? with
  | none => rw [e] at h; cases h
  | some d =>
    rw [e] at h
    exact ⟨d, rfl, (Option.some.inj h).symm⟩
/-! ### dict comprehensions over ints -/
section
variable {κ α : Type} [DecidableEq κ]
def addV (v : κ → α) (t : List (κ × α)) (zs : List κ) : List (κ × α) := zs.foldl (fun t m => pt t m (v m)) t
theorem addV_snoc (v : κ → α) (t : List (κ × α)) (zs : List κ) (z : κ) : addV v t (zs ++ [z]) = pt (addV v t zs) z (v z) := by
  unfold addV
  rw [List.foldl_append]
  rfl
theorem lk_addV (v : κ → α) : ∀ (zs : List κ) (t : List (κ × α)) (m : κ), lk (addV v t zs) m = if m ∈ zs then some (v m) else lk t m
  | [], t, m => by
    rw [if_neg (by simp)]
    rfl
  | z :: zs, t, m => by
    show lk (addV v (pt t z (v z)) zs) m = _
    rw [lk_addV v zs, lk_pt]
    by_cases h : m ∈ zs
    · rw [if_pos h, if_pos (List.mem_cons_of_mem _ h)]
    · rw [if_neg h]
      by_cases e : m = z
      · rw [if_pos e, if_pos (by rw [e]; exact List.mem_cons_self), e]
      · rw [if_neg e, if_neg (fun q => by rcases List.mem_cons.mp q with q | q; exact e q; exact h q)]
theorem addV_nodup (v : κ → α) : ∀ (zs : List κ) (t : List (κ × α)), (t.map (·.1)).Nodup → ((addV v t zs).map (·.1)).Nodup
  | [], _, h => h
  | z :: zs, t, h => addV_nodup v zs _ (pt_nodup h)
theorem addV_len (v : κ → α) : ∀ (zs : List κ) (t : List (κ × α)), (addV v t zs).length ≤ t.length + zs.length
  | [], t => Nat.le_refl _
  | z :: zs, t => by
    have h1 := addV_len v zs (pt t z (v z))
    have h2 := pt_len t z (v z)
    rw [List.length_cons]
    show (addV v (pt t z (v z)) zs).length ≤ _
    omega
/-- keys without twins stand as they came -/
theorem addV_new (v : κ → α) : ∀ (zs : List κ) (t : List (κ × α)), zs.Nodup → (∀ z ∈ zs, lk t z = none) → addV v t zs = t ++ zs.map fun z => (z, v z)
  | [], t, _, _ => by simp [addV]
  | z :: zs, t, n, h => by
    rw [List.nodup_cons] at n
    show addV v (pt t z (v z)) zs = _
    have hz := h z List.mem_cons_self
    have e : pt t z (v z) = t ++ [(z, v z)] := by
      unfold pt
      rw [lk_any, hz]
      rfl
    rw [addV_new v zs _ n.2 fun y hy => by
      rw [lk_pt, if_neg (fun q => n.1 (by rw [← q]; exact hy))]
      exact h y (List.mem_cons_of_mem _ hy), e]
    simp
end
/-- any loop over a walk: Pv by the turn; B: the turn's body before the next turn -/
theorem walk_any {J : It} {n : Nat} {G : Hp → Prop} {Y : Nat → Hp → V → Hp → Prop} (w : Walk J n G Y) {H0 : Hp} {Qd : Hp → Prop} (Pv : Nat → Hp → Prop) (h0 : Pv 0 H0) (hG : ∀ i H, i ≤ n → Pv i H → G H) (B : (Hp → Prop) → V → Hp → Prop)
    (hs : ∀ i x H H', i < n → Pv i H → Y i H x H' → B (Pv (i + 1)) x H') (hd : ∀ H, Pv n H → Qd H) :
    ∃ W : Nat → Nat → Hp → Prop, (∃ m, W 0 m H0) ∧ ∀ i m H, W i m H → (J.stop i H ∧ Qd H) ∨ (J.go i H ∧ ∃ Nx : Hp → Prop, (∀ H', Nx H' → ∃ m', m' < m ∧ W (i + 1) m' H') ∧ ∀ x H', J.yld i H x H' → B Nx x H') := by
  refine ⟨fun i m H => m = n - i ∧ i ≤ n ∧ Pv i H, ⟨n, by simp, Nat.zero_le _, h0⟩, ?_⟩
  rintro i m H ⟨rfl, hi, p⟩
  have q := hG i H hi p
  by_cases hlt : i < n
  · exact .inr ⟨w.goes i H hlt q, Pv (i + 1), fun H' p' => ⟨n - (i + 1), by omega, rfl, hlt, p'⟩, fun x H' y => hs i x H H' hlt p (w.yields i H x H' hlt q y)⟩
  · have e : i = n := by omega
    subst e
    exact .inl ⟨w.stops H q, hd H p⟩
section
variable {T : Tb} {J : It} {n : Nat} {G : Hp → Prop} {Y : Nat → Hp → V → Hp → Prop} {g : TG} {tt : TT} {tk tv : TE} {vs : List Nat} {σ : L2.St} {H1 : Hp} {D : Addr} {Qd : Hp → Prop} {α : Type} {ds : List Int}
abbrev dkv {α : Type} (e : α → V) (t : List (Int × α)) : List (Key × V) := t.map fun p => (kI p.1, e p.2)
/-- {d: v(d) for d in ds if f(d)} -/
theorem dc_val (w : Walk J n G Y) (hn : ds.length = n) (hz : n ≤ 10000) (hD : H1 D = none) (hG : ∀ H, Ex T H1 H → G H) (hY : ∀ i H x H', i < n → Ex T H1 H → Y i H x H' → Ex T H H') (f : Int → Bool) (v : Int → α) (e : α → V)
    (hs : ∀ i d x H H', ds[i]? = some d → Ex T H1 H → Ex T H1 H' → Y i H x H' → ∀ S : L2.St → Hp → Prop, (∀ σ2, wipe σ2 vs = wipe σ vs → EvrT (Ex T) tt σ2 H' (fun b => b = f d) → (f d = true → Evr (Ex T) tk σ2 H' (fun y _ => y = .int d)) → (f d = true → Evr (Ex T) tv σ2 H' (fun z _ => z = e (v d))) → S σ2 H') → g x (wipe σ vs) H' S)
    (hq : ∀ H', Ex T H1 H' → H' D = some (.dK (dkv e (addV v [] (ds.filter f)))) → Qd H') :
    ∃ W : Nat → Nat → Hp → Prop, (∃ m, W 0 m (upd H1 D (.dK []))) ∧ ∀ i m H, W i m H →
      (J.stop i H ∧ Qd H) ∨ (J.go i H ∧ ∃ Nx : Hp → Prop, (∀ H', Nx H' → ∃ m', m' < m ∧ W (i + 1) m' H') ∧ ∀ x H', J.yld i H x H' → g x (wipe σ vs) H' fun σ2 H2 => wipe σ2 vs = wipe σ vs ∧ tt σ2 H2 fun b H3 =>
        if b = true then tk σ2 H3 fun y H4 => tv σ2 H4 fun z H5 => ∃ kvs k, y = kV k ∧ H5 D = some (.dK kvs) ∧ kvs.length < sizeLine ∧ Nx (upd H5 D (.dK (putK kvs k z))) else Nx H3) := by
  subst hn
  refine walk_any w (fun i H => Ex T H1 H ∧ H D = some (.dK (dkv e (addV v [] ((ds.take i).filter f))))) ⟨Ex.new hD, by rw [List.take_zero]; exact upd_same⟩ (fun i H _ p => hG H p.1)
    (fun Nx x H' => g x (wipe σ vs) H' fun σ2 H2 => wipe σ2 vs = wipe σ vs ∧ tt σ2 H2 fun b H3 => if b = true then tk σ2 H3 fun y H4 => tv σ2 H4 fun z H5 => ∃ kvs k, y = kV k ∧ H5 D = some (.dK kvs) ∧ kvs.length < sizeLine ∧ Nx (upd H5 D (.dK (putK kvs k z))) else Nx H3) ?_ ?_
  · rintro i x H H' hi ⟨x1, hd⟩ y
    have x2 : Ex T H H' := hY i H x H' hi x1 y
    have hdi : ds[i]? = some ds[i] := List.getElem?_eq_getElem hi
    refine hs i ds[i] x H H' hdi x1 (x1.trans x2) y _ fun σ2 hw ht hk hv => ⟨hw, ?_⟩
    refine ht H' (Ex.refl T H') _ fun b H3 x3 hb => ?_
    have hl : (addV v [] ((ds.take i).filter f)).length ≤ i := by
      have h1 := addV_len v ((ds.take i).filter f) []
      have h2 := List.length_filter_le f (ds.take i)
      rw [List.length_take] at h2
      rw [List.length_nil] at h1
      omega
    cases b with
    | false =>
      refine iteF ⟨(x1.trans x2).trans x3, ?_⟩
      rw [take_snoc hdi, filter_snoc_f hb.symm]
      exact x3.dK (x2.dK hd)
    | true =>
      refine iteT (hk hb.symm H3 x3 _ fun y4 H4 x4 hy => ?_)
      refine hv hb.symm H4 (x3.trans x4) _ fun z H5 x5 hz5 => ?_
      subst hy hz5
      have hd5 := x5.dK (x4.dK (x3.dK (x2.dK hd)))
      refine ⟨_, kI ds[i], rfl, hd5, ?_, Ex.mut ((((x1.trans x2).trans x3).trans x4).trans x5) (NT.of hD) hd5 trivial, ?_⟩
      · rw [List.length_map]
        exact Nat.lt_of_lt_of_le (by omega) (by decide : 10001 ≤ sizeLine)
      · rw [take_snoc hdi, filter_snoc_t hb.symm, addV_snoc, upd_same, putK_of kI_inj]
  · rintro H ⟨x1, hd⟩
    rw [List.take_length] at hd
    exact hq H x1 hd
end
end Pb
set_option Elab.async false
set_option linter.all false
set_option maxRecDepth 100000
set_option maxHeartbeats 4000000
namespace Pb
open PySem PySem.Spec PyProof.Rows L2
section
variable {P : Program} {w : World} {K : PySem.W.Frag} {mg : Str → Option Value} {base : Heap} {T : Tb}
theorem rSlA_tail {H : Hp} {a : Addr} {xs : List Int} {Q : VK} (h : HT H a xs) (q : ∀ b H', Ex T H H' → HT H' b xs.tail → Q (.ref b) H') : rSlA K (.ref a) (some 1) none H Q := by
  have e1 : _root_.HT.sIx (xs.map V.int).length 0 (some 1) = min 1 (xs.map V.int).length := _root_.HT.sIx_nat _ _ 1
  refine ⟨a, _, rfl, SqT.of h, fun z => ?_, fun z p hp => ?_⟩
  · have hz := z.1
    rw [e1, List.length_map] at hz
    have e : xs = [] := List.eq_nil_of_length_eq_zero (by omega)
    subst e
    exact q a H (Ex.refl T H) h
  · refine q p _ (Ex.new hp) ?_
    have e2 : cutV (xs.map V.int) (some 1) none = xs.tail.map V.int := by
      unfold cutV
      rw [e1, _root_.HT.sIx_none, List.length_map]
      cases xs with
      | nil => rfl
      | cons x r =>
        have e3 : min 1 (x :: r).length = 1 := by
          rw [List.length_cons]
          omega
        rw [e3, List.map_cons, List.drop_succ_cons, List.drop_zero, List.tail_cons]
        exact List.take_of_length_le (by rw [List.length_map, List.length_cons]; omega)
    rw [e2]
    exact upd_same
theorem asc_zip : ∀ {xs : List Int}, xs.Pairwise (· < ·) → (xs.zip xs.tail).all (fun p => decide (p.1 < p.2)) = true
  | [], _ => rfl
  | [_], _ => rfl
  | x :: y :: r, h => by
    obtain ⟨h1, h2⟩ := List.pairwise_cons.mp h
    show ((x, y) :: ((y :: r).zip (y :: r).tail)).all _ = true
    rw [List.all_cons, asc_zip h2, decide_eq_true (h1 y List.mem_cons_self)]
    rfl
def spIsSet (T : Tb) : Sp := fun vs H Q _ => ∃ (M : Int) (a : Addr) (xs : List Int), vs = [.int M, .ref a] ∧ HT H a xs ∧ IsS M xs ∧ M ≤ 5 ∧ ∀ H', Ex T H H' → Q (.bl true) H'
abbrev N_is_set : List Str := ["marks", "thing", "one", "other", "mark"]
theorem sc_is_set : FnScope N_is_set ["marks", "thing"] (defScope sIsSet) := ⟨rfl, rfl, rfl, by decide +kernel, rfl, by decide +kernel, by decide +kernel⟩
theorem c_is_set (G : Gx K mg) : C8.Cal P w K mg base 2 "is_set" (spIsSet T) [] := by
  refine calOf G 1 rfl rfl sc_is_set (fun _ _ _ _ _ _ us hl => match us, hl with | [_, _], _ => rfl) (fun vs H Q E h => ?_) (fun f cdv A outer s H vs Q E hr h => ?_)
  · obtain ⟨M, a, xs, rfl, _⟩ := h
    rfl
  · obtain ⟨M, a, xs, rfl, ha, hs, hM, k⟩ := h
    have hl : xs.length ≤ 10000 := by
      have := (hs.mono hM).len
      omega
    refine ⟨_, (pss_cons (ps_if (PW.pt (pw_or (pt_not (pt_val (pe_callB call_isi (by rfl) G.b_isinstance (by decide +kernel) (pa_cons (pv 1) (pa_cons (pe_bltn (v := .ty "tuple") (by rfl) G.b_tuple (by decide +kernel) rfl) pa_nil))))) (pw_or1 (pt_not (pt_val (pe_callB (cr_all rfl) (by rfl) G.b_all (by decide +kernel) (pa_cons (pe_lc (own := [("mark", 4)]) (g := gName 4) rfl sc_is_set.nd (pi_tup (pv 1)) (blkOk_by (own := [("mark", 4)]) (N := N_is_set) (sc := defScope sIsSet) (by decide +kernel)) (fun _ _ _ _ _ => (pg_name (i := 4) sc_is_set.nd rfl (Or.inl rfl))) (fun _ _ _ _ _ => pts_nil) (fun _ _ _ _ _ => (C8.pe_c (c_is_integer (T := T) G) hr (by decide) (by rfl) (pa_cons (pv 4) (pa_cons pe_int (pa_cons (pe_op op_sub (pv 0) pe_int) pa_nil)))))) pa_nil)))))))
        (pss_one (ps_ret pe_bl)) pss_nil)
      (pss_one (ps_ret (pe_callB (cr_all rfl) (by rfl) G.b_all (by decide +kernel) (pa_cons (pe_lc (own := [("one", 2), ("other", 3)]) (g := gTup K 2 (gCons (gName 2) (gCons (gName 3) gNil))) rfl sc_is_set.nd (RZ.pi_zipA (by rfl) G.b_zip (pa_cons (pv 1) (pa_cons (pe_slice sl_tupA (pv 1) (po_some pe_int) po_none) pa_nil))) (blkOk_by (own := [("one", 2), ("other", 3)]) (N := N_is_set) (sc := defScope sIsSet) (by decide +kernel)) (fun _ _ _ _ _ => (pg_tup rfl (pgs_cons (pg_name (i := 2) sc_is_set.nd rfl (Or.inl rfl)) (pgs_cons (pg_name (i := 3) sc_is_set.nd rfl (Or.inl rfl)) pgs_nil)))) (fun _ _ _ _ _ => pts_nil) (fun _ _ _ _ _ => (pe_cmpR op_lt (pv 2) (pv 3) (nomark _)))) pa_nil))))), ?_⟩
    refine ⟨_, rfl, _, _, _, _, _, rfl, .ty "tuple", .base (.tup ha), kit_ty (by decide +kernel), true, rfl, iteF ?_⟩
    refine ⟨_, rfl, a, rfl, ⟨_, SqT.of ha⟩, fun D hD => ?_⟩
    refine lc_bl (T := T) (ds := xs) (b := fun m => decide (0 ≤ m ∧ m ≤ M - 1)) walk_tup (by rw [List.length_map]) (by rw [List.length_map]; exact hl) hD (fun H1 x => SqT.of (ha.ex x)) (fun _ _ _ _ _ _ y => yat_ex y) ?_ ?_
    · intro i d v H1 H2 hd _ x y S hS
      obtain ⟨e, q⟩ := y
      subst e
      obtain rfl : v = V.int d := by
        rw [List.getElem?_map, hd] at q
        exact (Option.some.inj q).symm
      refine hS _ rfl fun H3 x3 Q3 k3 => ?_
      exact ⟨_, rfl, _, rfl, _, _, rfl, rfl, d, 0, M - 1, rfl, k3 _ _ (Ex.refl T H3) rfl⟩
    · intro H1 x1 hD1
      have e1 : (xs.map fun m => decide (0 ≤ m ∧ m ≤ M - 1)).all id = true := by
        rw [all_id, List.all_eq_true]
        intro m hm
        have := hs.1 m hm
        exact decide_eq_true ⟨this.1, by omega⟩
      refine ⟨D, _, rfl, SqL.of hD1, true, by rw [e1], iteF ?_⟩
      refine ⟨_, rfl, _, rfl, 1, rfl, ?_⟩
      unfold tNoPart
      refine rSlA_tail (K := K) (T := T) (ha.ex x1) fun b H2 x2 hb => ?_
      refine ⟨a, b, _, _, rfl, .inr ⟨SqT.of ((ha.ex x1).ex x2), SqT.of hb, fun D2 hD2 => ?_⟩⟩
      refine lc_bl (T := T) (ds := xs.zip xs.tail) (b := fun p => decide (p.1 < p.2)) (walk_zipA (xs := xs.map V.int) (ys := xs.tail.map V.int) rfl) (by rw [List.length_zip, List.length_map, List.length_map]) (by rw [List.length_map, List.length_map]; omega) hD2
        (fun H3 x3 => ⟨SqT.of (((ha.ex x1).ex x2).ex x3), SqT.of (hb.ex x3)⟩) (fun _ _ _ _ _ _ y => ypair_ex y) ?_ ?_
      · intro i d v H3 H4 hd _ x4 y S hS
        obtain ⟨p, u1, u2, rfl, hp, rfl, g1, g2⟩ := y
        rw [List.getElem?_zip_eq_some] at hd
        obtain rfl := at_map g1 hd.1
        obtain rfl := at_map g2 hd.2
        refine ⟨p, _, rfl, SqT.of upd_same, rfl, _, _, rfl, _, _, rfl, rfl, hS _ rfl fun H5 x5 Q5 k5 => ?_⟩
        exact ⟨_, rfl, _, rfl, _, _, rfl, rfl, k5 _ _ (Ex.refl T H5) rfl⟩
      · intro H3 x3 hD3
        have e2 : ((xs.zip xs.tail).map fun p => decide (p.1 < p.2)).all id = true := by
          rw [all_id]
          exact asc_zip hs.2
        refine ⟨D2, _, rfl, SqL.of hD3, ?_⟩
        rw [e2]
        exact k _ ((x1.trans x2).trans x3)
end
end Pb
set_option Elab.async false
set_option linter.all false
set_option maxRecDepth 100000
set_option maxHeartbeats 4000000
namespace Pb
open PySem PySem.Spec PyProof.Rows L2
section
variable {K : PySem.W.Frag} {mg : Str → Option Value}
theorem Gx.v_most_marks (G : Gx K mg) : ∃ u, mg "MOST_MARKS" = some u ∧ RelV (.int 5) u := let ⟨t, h⟩ := G.c_most_marks; ⟨_, h, t, rfl⟩
theorem Gx.v_most_rules (G : Gx K mg) : ∃ u, mg "MOST_RULES" = some u ∧ RelV (.int 16) u := let ⟨t, h⟩ := G.c_most_rules; ⟨_, h, t, rfl⟩
theorem Gx.v_most_price (G : Gx K mg) : ∃ u, mg "MOST_PRICE" = some u ∧ RelV (.int 9) u := let ⟨t, h⟩ := G.c_most_price; ⟨_, h, t, rfl⟩
end
section
variable {K : PySem.W.Frag} {T : Tb} {H H' : Hp} {a : Addr}
theorem inV_int (m : Int) : ∀ ys : List Int, inV (V.int m) (ys.map V.int) = decide (m ∈ ys)
  | [] => rfl
  | y :: ys => by
    have ih := inV_int m ys
    unfold inV at ih ⊢
    rw [List.map_cons, List.any_cons, ih]
    have e : eqV (V.int y) (V.int m) = decide (y = m) := by
      by_cases h : y = m
      · subst h
        simp [eqV]
      · simp [eqV, h]
    rw [e]
    by_cases h : y = m
    · rw [decide_eq_true h, Bool.true_or, decide_eq_true (by rw [h]; exact List.mem_cons_self)]
    · rw [decide_eq_false h, Bool.false_or]
      have : (m ∈ y :: ys) ↔ m ∈ ys := ⟨fun q => by rcases List.mem_cons.mp q with q | q; exact absurd q.symm h; exact q, List.mem_cons_of_mem _⟩
      simp [this]
theorem flat_ints (ys : List Int) : (ys.map V.int).all flatV = true := by
  rw [List.all_eq_true]
  intro x hx
  obtain ⟨y, _, rfl⟩ := List.mem_map.mp hx
  rfl
theorem Mem.in_ {f : Int → Bool} {m : Int} {Q : VK} (h : Mem K H a f) (q : Q (.bl (f m)) H) : rInA K (.int m) (.ref a) H Q := by
  rcases h with ⟨ys, h1, h2⟩ | ⟨t, h1, h2⟩
  · exact ⟨a, _, rfl, .inl ⟨_, SqT.of h1, rfl, flat_ints ys, by rw [inV_int, h2]⟩, q⟩
  · exact ⟨a, _, rfl, .inr ⟨_, .inl ⟨t, kI m, h1, rfl, rfl⟩, by rw [h2]⟩, q⟩
end
section
variable {K : PySem.W.Frag}
theorem op_inK {X : Cx} (hu : X.A.units + 1 < cLine) (e : X.K = K) : OpR X (compareOp .In) (rInA K) := by
  rw [← e]
  exact op_inA hu
theorem ix_tupK {X : Cx} (e : X.K = K) : IxR X (rIxT K) := by
  rw [← e]
  exact ix_tup
theorem ix_listK {X : Cx} (e : X.K = K) : IxR X (rIxL K) := by
  rw [← e]
  exact ix_list
theorem op_catK {X : Cx} (e : X.K = K) : OpR X (binaryOp .Add) (rCatA K) := by
  rw [← e]
  exact op_catA
end
theorem pa_starK {K : PySem.W.Frag} {X : Cx} {e : Expr} {es : List Expr} {te : TE} {t : TA} {p : Pos} (eK : X.K = K) (he : PE X e te) (hr : PA X es t) (hs : starEach (.Starred e p :: es) X.env = (true, eval e X.env) :: starEach es X.env := by rfl) : PA X (.Starred e p :: es) (StX.tStar K te t) := by
  rw [← eK]
  exact StX.pa_star he hr hs
theorem pe_fldK {K : PySem.W.Frag} {X : Cx} {e : Expr} {f : Str} {pos : Pos} {ta : TE} (eK : X.K = K) (he : PE X e ta) (hb : attributeBase e f X.env (eval e X.env) = eval e X.env) : PE X (.Attribute e f pos) (tFld K ta f) := by
  rw [← eK]
  exact pe_fld he hb
theorem pe_slK {K : PySem.W.Frag} {X : Cx} {e : Expr} {f : Str} {pos : Pos} {ta : TE} (eK : X.K = K) (he : PE X e ta) (hb : attributeBase e f X.env (eval e X.env) = eval e X.env := by rfl) : PE X (.Attribute e f pos) (SlX.tSl K ta f) := by
  rw [← eK]
  exact SlX.pe_sl he hb
theorem dV (a b : Int) : decide (V.int a = V.int b) = decide (a = b) := by
  by_cases h : a = b
  · rw [h, decide_eq_true rfl, decide_eq_true rfl]
  · rw [decide_eq_false h, decide_eq_false (fun z => h (by injection z))]
theorem op_notInK {K : PySem.W.Frag} {X : Cx} (e : X.K = K) : OpR X (compareOp .NotIn) (rIn K true) := by
  rw [← e]
  exact op_notIn_seq
theorem asc_of_perm {zs ks : List Int} (h : zs.Perm ks) (n : ks.Nodup) (p : zs.Pairwise (· ≤ ·)) : zs.Pairwise (· < ·) := by
  have nz : zs.Nodup := h.nodup_iff.mpr n
  have := List.Pairwise.and p nz
  exact this.imp fun ⟨h1, h2⟩ => by omega
/-! ### all stays but what is in B -/
structure Eb (T : Tb) (B : List Addr) (H H' : Hp) : Prop where
  all : ∀ b o, b ∉ B → H b = some o → (∀ ps, o ≠ .tbl ps) → H' b = some o
  tabs : LamX.Tabs T H → LamX.Tabs T H'
section
variable {T : Tb} {B : List Addr} {H H1 H2 : Hp}
theorem Eb.of (x : Ex T H H1) : Eb T B H H1 := ⟨fun b o _ h n => x.1 b o h n, x.2⟩
theorem Eb.trans (x : Eb T B H H1) (y : Eb T B H1 H2) : Eb T B H H2 := ⟨fun b o n h t => y.all b o n (x.all b o n h t) t, fun h => y.tabs (x.tabs h)⟩
theorem tabs_upd {p : Addr} {o o1 : HO} (t : LamX.Tabs T H) (h1 : H p = some o1) (w : ∀ ps, o1 ≠ .tbl ps) (w2 : ∀ c q, o1 ≠ LamX.CodeO c q) : LamX.Tabs T (upd H p o) := by
  intro q hq
  obtain ⟨ps, a1, a2, a3⟩ := t q hq
  refine ⟨ps, ?_, a2, fun pos cv hc => ?_⟩
  · rw [upd_ne (ne_of a1 h1 (fun z => w ps z.symm))]
    exact a1
  · obtain ⟨c, e1, e2⟩ := a3 pos cv hc
    refine ⟨c, e1, ?_⟩
    rw [upd_ne (ne_of e2 h1 (fun z => w2 c q.2 z.symm))]
    exact e2
theorem Eb.put {p : Addr} {o o1 : HO} (x : Eb T B H H1) (hp : p ∈ B) (h1 : H1 p = some o1) (w : ∀ ps, o1 ≠ .tbl ps) (w2 : ∀ c q, o1 ≠ LamX.CodeO c q) : Eb T B H (upd H1 p o) :=
  ⟨fun b o' n h t => by rw [upd_ne (fun e => n (by rw [e]; exact hp))]; exact x.all b o' n h t, fun h => tabs_upd (x.tabs h) h1 w w2⟩
/-- what was not there before -/
theorem Ex.eb {H0 : Hp} (x : Ex T H0 H) (y : Eb T B H H1) (n : ∀ b ∈ B, H0 b = none) : Ex T H0 H1 := by
  refine ⟨fun b o h t => y.all b o (fun hb => ?_) (x.1 b o h t) t, fun h => y.tabs (x.2 h)⟩
  rw [n b hb] at h
  cases h
end
theorem code_own {x c : Addr} {q : Str} : HO.own x ≠ LamX.CodeO c q := fun z => by unfold LamX.CodeO at z; cases z
theorem code_ins {C dx c : Addr} {fs : List (Str × V)} {q : Str} : HO.ins C dx fs ≠ LamX.CodeO c q := fun z => by unfold LamX.CodeO at z; cases z
theorem code_xd {c : Addr} {fs : List (Str × V)} {q : Str} : HO.xd fs ≠ LamX.CodeO c q := fun z => by unfold LamX.CodeO at z; cases z
end Pb
set_option Elab.async false
set_option linter.all false
set_option maxRecDepth 100000
set_option maxHeartbeats 4000000

namespace Pb
open PySem PySem.Spec PyProof.Rows L2
section
variable {P : Program} {w : World} {K : PySem.W.Frag} {mg : Str → Option Value} {base : Heap} {T : Tb}

def spIsRule (T : Tb) : Sp := fun vs H Q _ => ∃ (M : Int) (a : Addr) (r : Ru), vs = [.int M, .ref a] ∧ RuA H a r ∧ IsS M r.1 ∧ IsS M r.2 ∧ M ≤ 5 ∧ ∀ H', Ex T H H' → Q (.bl true) H'
def spIsWithin (T : Tb) (K : PySem.W.Frag) : Sp := fun vs H Q _ => ∃ (a b : Addr) (xs : List Int) (f : Int → Bool), vs = [.ref a, .ref b] ∧ HT H a xs ∧ xs.length ≤ 100 ∧ Mem K H b f ∧ ∀ H', Ex T H H' → Q (.bl (xs.all f)) H'
def spJoined (T : Tb) : Sp := fun vs H Q _ => ∃ (a b : Addr) (xs ys : List Int), vs = [.ref a, .ref b] ∧ HT H a xs ∧ HT H b ys ∧ IsS 5 xs ∧ IsS 5 ys ∧ ∀ H' p, Ex T H H' → HT H' p (jn xs ys) → Q (.ref p) H'
def spCheckSet (T : Tb) : Sp := fun vs H Q _ => ∃ (M : Int) (a : Addr) (xs : List Int), vs = [.int M, .ref a] ∧ HT H a xs ∧ IsS M xs ∧ M ≤ 5 ∧ ∀ H', Ex T H H' → Q .non H'
def spCheckBook (T : Tb) (K : PySem.W.Frag) : Sp := fun vs H Q _ => ∃ (b : Addr) (M : Int) (rs : List Ru), vs = [.ref b] ∧ Bk K H b M rs ∧ ∀ H', Ex T H H' → Q .non H'
def spBookLen (T : Tb) (K : PySem.W.Frag) : Sp := fun vs H Q _ => ∃ (b : Addr) (M : Int) (rs : List Ru), vs = [.ref b] ∧ Bk K H b M rs ∧ ∀ H', Ex T H H' → Q (.int rs.length) H'
def spBookInit (T : Tb) (K : PySem.W.Frag) : Sp := fun vs H Q _ => ∃ (x dx r : Addr) (M : Int) (rs : List Ru), vs = [.ref x, .int M, .ref r] ∧ H x = some (.ins (He.ga K "Book") dx []) ∧ H dx = some (.own x) ∧ dx ≠ x ∧ Rus H r rs ∧ 1 ≤ M ∧ M ≤ 5 ∧ rs.length ≤ 16 ∧
  (∀ ru ∈ rs, IsS M ru.1 ∧ IsS M ru.2) ∧ ∀ H', Eb T [x, dx] H H' → Bk K H' x M rs → Q .non H'
theorem Rus.sq {H : Hp} {a : Addr} {rs : List Ru} (h : Rus H a rs) : ∃ as : List Addr, H a = some (.tup (as.map V.ref)) ∧ as.length = rs.length ∧ Paired (RuA H) as rs := by
  obtain ⟨as, h1, h2⟩ := h
  exact ⟨as, h1, Paired.length h2, h2⟩

abbrev N_is_rule : List Str := ["marks", "thing", "part"]
theorem sc_is_rule : FnScope N_is_rule ["marks", "thing"] (defScope sIsRule) := ⟨rfl, rfl, rfl, by decide +kernel, rfl, by decide +kernel, by decide +kernel⟩
theorem c_is_rule (G : Gx K mg) : C8.Cal P w K mg base 3 "is_rule" (spIsRule T) [] := by
  refine calOf G 2 rfl rfl sc_is_rule (fun _ _ _ _ _ _ us hl => match us, hl with | [_, _], _ => rfl) (fun vs H Q E h => ?_) (fun f cdv A outer s H vs Q E hr h => ?_)
  · obtain ⟨M, a, r, rfl, hr2, h1, h2, hM, k⟩ := h
    rfl
  · obtain ⟨M, a, r, rfl, hr2, h1, h2, hM, k⟩ := h
    refine ⟨_, (pss_one (ps_ret (pe_and (pe_callB call_isi (by rfl) G.b_isinstance (by decide +kernel) (pa_cons (pv 1) (pa_cons (pe_bltn (v := .ty "tuple") (by rfl) G.b_tuple (by decide +kernel) rfl) pa_nil))) (pe_and (pe_cmpR op_eq (pe_callB call_len_seq (by rfl) G.b_len (by decide +kernel) (pa_cons (pv 1) pa_nil)) pe_int (nomark _)) (pe_one (pe_callB (cr_all rfl) (by rfl) G.b_all (by decide +kernel) (pa_cons (pe_lc (own := [("part", 2)]) (g := gName 2) rfl sc_is_rule.nd (pi_tup (pv 1)) (blkOk_by (own := [("part", 2)]) (N := N_is_rule) (sc := defScope sIsRule) (by decide +kernel)) (fun _ _ _ _ _ => (pg_name (i := 2) sc_is_rule.nd rfl (Or.inl rfl))) (fun _ _ _ _ _ => pts_nil) (fun _ _ _ _ _ => (C8.pe_c (c_is_set (T := T) G) hr (by decide) (by rfl) (pa_cons (pv 0) (pa_cons (pv 2) pa_nil))))) pa_nil))))))), ?_⟩
    obtain ⟨p, c, ha, hp, hc⟩ := hr2
    refine ⟨_, rfl, _, _, _, _, _, rfl, .ty "tuple", .base (.tup ha), kit_ty (by decide +kernel), true, rfl, iteT ?_⟩
    refine ⟨_, rfl, a, _, rfl, .inr (SqT.of ha), rfl, true, by simp, iteT ?_⟩
    refine ⟨_, rfl, a, rfl, ⟨_, SqT.of ha⟩, fun D hD => ?_⟩
    refine lc_bl (T := T) (ds := [(p, r.1), (c, r.2)]) (b := fun _ => true) (walk_tup (xs := [(p, r.1), (c, r.2)].map fun d : Addr × List Int => V.ref d.1)) rfl (show 2 ≤ 10000 by decide) hD (fun H1 x => SqT.of (x.tup ha)) (fun _ _ _ _ _ _ y => yat_ex y) ?_ ?_
    · intro i d v H1 H2 hd _ x y S hS
      obtain ⟨e, q⟩ := y
      subst e
      obtain rfl := at_map q hd
      have hm := List.mem_of_getElem? hd
      have hd2 : HT H d.1 d.2 ∧ IsS M d.2 := by
        rcases List.mem_cons.mp hm with e | e
        · rw [e]
          exact ⟨hp, h1⟩
        · rw [List.mem_singleton.mp e]
          exact ⟨hc, h2⟩
      refine hS _ rfl fun H3 x3 Q3 k3 => ?_
      exact ⟨_, rfl, _, rfl, M, d.1, d.2, rfl, (hd2.1.ex x).ex x3, hd2.2, hM, fun H4 x4 => k3 _ _ x4 rfl⟩
    · intro H1 x1 hD1
      exact ⟨D, _, rfl, SqL.of hD1, k _ x1⟩


abbrev N_is_within : List Str := ["one", "other", "mark"]
theorem sc_is_within : FnScope N_is_within ["one", "other"] (defScope sIsWithin) := ⟨rfl, rfl, rfl, by decide +kernel, rfl, by decide +kernel, by decide +kernel⟩
theorem c_is_within (G : Gx K mg) : C8.Cal P w K mg base 2 "is_within" (spIsWithin T K) [] := by
  refine calOf G 3 rfl rfl sc_is_within (fun _ _ _ _ _ _ us hl => match us, hl with | [_, _], _ => rfl) (fun vs H Q E h => ?_) (fun f cdv A outer s H vs Q E hr h => ?_)
  · obtain ⟨a, b, xs, fn, rfl, ha, hl, hb, k⟩ := h
    rfl
  · obtain ⟨a, b, xs, fn, rfl, ha, hl, hb, k⟩ := h
    have hu := hu_of hr
    refine ⟨_, (pss_one (ps_ret (pe_callB (cr_all rfl) (by rfl) G.b_all (by decide +kernel) (pa_cons (pe_lc (own := [("mark", 2)]) (g := gName 2) rfl sc_is_within.nd (pi_tup (pv 0)) (blkOk_by (own := [("mark", 2)]) (N := N_is_within) (sc := defScope sIsWithin) (by decide +kernel)) (fun _ _ _ _ _ => (pg_name (i := 2) sc_is_within.nd rfl (Or.inl rfl))) (fun _ _ _ _ _ => pts_nil) (fun _ _ _ _ _ => (pe_cmpR (op_inK (K := K) hu rfl) (pv 2) (pv 1) (by rfl)))) pa_nil)))), ?_⟩
    refine ⟨_, rfl, a, rfl, ⟨_, SqT.of ha⟩, fun D hD => ?_⟩
    refine lc_bl (T := T) (ds := xs) (b := fn) walk_tup (by rw [List.length_map]) (by rw [List.length_map]; omega) hD (fun H1 x => SqT.of (ha.ex x)) (fun _ _ _ _ _ _ y => yat_ex y) ?_ ?_
    · intro i d v H1 H2 hd _ x y S hS
      obtain ⟨e, q⟩ := y
      subst e
      obtain rfl := at_map q hd
      refine hS _ rfl fun H3 x3 Q3 k3 => ?_
      refine ⟨_, rfl, _, rfl, Mem.in_ ((hb.ex x).ex x3) ?_⟩
      exact k3 _ _ (Ex.refl T H3) rfl
    · intro H1 x1 hD1
      refine ⟨D, _, rfl, SqL.of hD1, ?_⟩
      rw [all_id]
      exact k _ x1


abbrev N_joined : List Str := ["one", "other", "mark"]
theorem sc_joined : FnScope N_joined ["one", "other"] (defScope sJoined) := ⟨rfl, rfl, rfl, by decide +kernel, rfl, by decide +kernel, by decide +kernel⟩
theorem c_joined (G : Gx K mg) : C8.Cal P w K mg base 2 "joined" (spJoined T) [] := by
  refine calOf G 4 rfl rfl sc_joined (fun _ _ _ _ _ _ us hl => match us, hl with | [_, _], _ => rfl) (fun vs H Q E h => ?_) (fun f cdv A outer s H vs Q E hr h => ?_)
  · obtain ⟨a, b, xs, ys, rfl, ha, hb, hs, ht, k⟩ := h
    rfl
  · obtain ⟨a, b, xs, ys, rfl, ha, hb, hs, ht, k⟩ := h
    refine ⟨_, (pss_one (ps_ret (pe_callTy call_tuple_of (by rfl) G.b_tuple (by decide +kernel) (pa_cons (pe_callB (call_sortedDI rfl) (by rfl) G.b_sorted (by decide +kernel) (pa_cons (pe_dc (own := [("mark", 2)]) (g := gName 2) rfl sc_joined.nd (pi_tup (pe_tup (pa_starK (K := K) rfl (pv 0) (pa_starK (K := K) rfl (pv 1) pa_nil)))) (blkOk_by (own := [("mark", 2)]) (N := N_joined) (sc := defScope sJoined) (by decide +kernel)) (fun _ _ _ _ _ => (pg_name (i := 2) sc_joined.nd rfl (Or.inl rfl))) (fun _ _ _ _ _ => pts_nil) (fun _ _ _ _ _ => (pv 2)) (fun _ _ _ _ _ => pe_bl)) pa_nil)) pa_nil)))), ?_⟩
    have l1 := hs.len
    have l2 := ht.len
    refine ⟨_, rfl, a, _, rfl, .inl (SqT.of ha), _, rfl, b, _, rfl, .inl (SqT.of hb), ?_, fun t ht2 => ?_⟩
    · rw [List.append_nil, List.length_append, List.length_map, List.length_map]
      exact Nat.le_trans (by omega : _ ≤ 10) (by decide)
    rw [List.append_nil, ← List.map_append] at *
    have x0 : Ex T H (upd H t (.tup ((xs ++ ys).map V.int))) := Ex.new ht2
    refine ⟨t, rfl, ⟨_, SqT.of upd_same⟩, fun D hD => ?_⟩
    refine dc_val (T := T) (ds := xs ++ ys) (f := fun _ => true) (v := fun _ => ()) (e := fun _ => V.bl true) (walk_tup (xs := (xs ++ ys).map V.int)) (by rw [List.length_map]) (by rw [List.length_map, List.length_append]; omega) hD
      (fun H1 x => SqT.of (x.tup upd_same)) (fun _ _ _ _ _ _ y => yat_ex y) ?_ ?_
    · intro i d v H1 H2 hd _ x y S hS
      obtain ⟨e, q⟩ := y
      subst e
      obtain rfl := at_map q hd
      exact hS _ rfl (evr_yes (roEx T)) (fun _ H3 x3 Q3 k3 => ⟨_, rfl, k3 _ _ (Ex.refl T H3) rfl⟩) (fun _ H3 x3 Q3 k3 => k3 _ _ (Ex.refl T H3) rfl)
    · intro H1 x1 hD1
      rw [filter_true] at hD1
      have hlen := addV_len (fun _ : Int => ()) (xs ++ ys) []
      rw [List.length_nil, List.length_append] at hlen
      have hnd := addV_nodup (fun _ : Int => ()) (xs ++ ys) [] List.nodup_nil
      refine ⟨D, _, (addV (fun _ => ()) [] (xs ++ ys)).map (·.1), rfl, .inl hD1, by rw [List.map_map, List.map_map]; rfl, by rw [List.length_map]; omega, fun zs p hz hp hn => ?_⟩
      refine ⟨p, _, rfl, .inl ⟨SqL.of upd_same, fun l hl => ?_⟩⟩
      have e : zs = jn xs ys := by
        refine asc_ext (asc_of_perm hz hnd hp) (asc_f _) fun m => ?_
        rw [hz.mem_iff, ← lk_mem, lk_addV, mem_jn hs ht, ← List.mem_append]
        by_cases h : m ∈ xs ++ ys
        · rw [if_pos h]
          exact ⟨fun _ => h, fun _ => rfl⟩
        · rw [if_neg h]
          exact ⟨fun z => (nomatch z), fun z => absurd z h⟩
      subst e
      exact k _ l (((x0.trans x1).push hn).push hl) upd_same


abbrev N_check_set : List Str := ["marks", "thing"]
theorem sc_check_set : FnScope N_check_set ["marks", "thing"] (defScope sCheckSet) := ⟨rfl, rfl, rfl, by decide +kernel, rfl, by decide +kernel, by decide +kernel⟩
theorem c_check_set (G : Gx K mg) : C8.Cal P w K mg base 3 "check_set" (spCheckSet T) [] := by
  refine calOf G 9 rfl rfl sc_check_set (fun _ _ _ _ _ _ us hl => match us, hl with | [_, _], _ => rfl) (fun vs H Q E h => ?_) (fun f cdv A outer s H vs Q E hr h => ?_)
  · obtain ⟨M, a, xs, rfl, ha, hs, hM, k⟩ := h
    rfl
  · obtain ⟨M, a, xs, rfl, ha, hs, hM, k⟩ := h
    refine ⟨_, (pss_one (ps_if (pt_not (pt_val (C8.pe_c (c_is_set (T := T) G) hr (by decide) (by rfl) (pa_cons (pv 0) (pa_cons (pv 1) pa_nil)))))
        (pss_one ps_never) pss_nil)), ?_⟩
    exact ⟨_, rfl, _, rfl, M, a, xs, rfl, ha, hs, hM, fun H' x => ⟨true, rfl, iteF (k _ x)⟩⟩


abbrev N_check_book : List Str := ["thing"]
theorem sc_check_book : FnScope N_check_book ["thing"] (defScope sCheckBook) := ⟨rfl, rfl, rfl, by decide +kernel, rfl, by decide +kernel, by decide +kernel⟩
theorem c_check_book (G : Gx K mg) : C8.Cal P w K mg base 1 "check_book" (spCheckBook T K) [] := by
  refine calOf G 8 rfl rfl sc_check_book (fun _ _ _ _ _ _ us hl => match us, hl with | [_], _ => rfl) (fun vs H Q E h => ?_) (fun f cdv A outer s H vs Q E hr h => ?_)
  · obtain ⟨b, M, rs, rfl, ⟨dx, r, hb, hr2⟩, k⟩ := h
    rfl
  · obtain ⟨b, M, rs, rfl, ⟨dx, r, hb, hr2⟩, k⟩ := h
    refine ⟨_, (pss_one (ps_if (pt_not (pt_val (pe_callB (SlX.call_isiSl (.ref (He.ga K "Book"))) (by rfl) G.b_isinstance (by decide +kernel) (pa_cons (pv 0) (pa_cons (pe_glob (v := .ref (He.ga K "Book")) (by rfl) G.g_Book rfl) pa_nil)))))
        (pss_one ps_never) pss_nil)), ?_⟩
    exact ⟨_, rfl, b, _, dx, _, _, _, rfl, rfl, (fun w h => h), hb, G.sclsB, G.sisiB, G.kitB, true, rfl, iteF (k _ (Ex.refl T H))⟩


abbrev N_Book_len : List Str := ["self"]
theorem sc_Book_len : FnScope N_Book_len ["self"] (defScope sBookLen) := ⟨rfl, rfl, rfl, by decide +kernel, rfl, by decide +kernel, by decide +kernel⟩
theorem f_Book_len (G : Gx K mg) : ∃ fd, FnOk P w K mg base C8.CX0 1 (He.ma K (He.ga K "Book") "__len__") fd ["self"] (spBookLen T K) ∧ Binds K fd ["self"] [] := by
  refine fnOf G 39 rfl sc_Book_len (fun _ _ _ _ _ _ us hl => match us, hl with | [_], _ => rfl) (fun vs H Q E h => ?_) (fun f cdv A outer s H vs Q E hr h => ?_)
  · obtain ⟨b, M, rs, rfl, ⟨dx, r, hb, hr2⟩, k⟩ := h
    rfl
  · obtain ⟨b, M, rs, rfl, ⟨dx, r, hb, hr2⟩, k⟩ := h
    refine ⟨_, (pss_one (ps_ret (pe_callB call_len_seq (by rfl) G.b_len (by decide +kernel) (pa_cons (pe_slK (K := K) rfl (pv 0)) pa_nil)))), ?_⟩
    obtain ⟨as, h1, h2, h3⟩ := hr2.sq
    refine ⟨_, rfl, b, _, dx, _, _, 1, _, rfl, hb, G.sclsB, G.slR, rfl, r, _, rfl, .inr (SqT.of h1), ?_⟩
    rw [List.length_map, h2]
    exact k _ (Ex.refl T H)


abbrev N_Book_init : List Str := ["self", "marks", "rules", "one"]
theorem sc_Book_init : FnScope N_Book_init ["self", "marks", "rules"] (defScope sBookInit) := ⟨rfl, rfl, rfl, by decide +kernel, rfl, by decide +kernel, by decide +kernel⟩
theorem f_Book_init (G : Gx K mg) : ∃ fd, FnOk P w K mg base C8.CX0 4 (He.ma K (He.ga K "Book") "__init__") fd ["self", "marks", "rules"] (spBookInit T K) ∧ Binds K fd ["self", "marks", "rules"] [] := by
  refine fnOf G 38 rfl sc_Book_init (fun _ _ _ _ _ _ us hl => match us, hl with | [_, _, _], _ => rfl) (fun vs H Q E h => ?_) (fun f cdv A outer s H vs Q E hr h => ?_)
  · obtain ⟨x, dx, r, M, rs, rfl, hx, hdx, hne, hr2, hM1, hM5, hl, hru, k⟩ := h
    rfl
  · obtain ⟨x, dx, r, M, rs, rfl, hx, hdx, hne, hr2, hM1, hM5, hl, hru, k⟩ := h
    refine ⟨_, (pss_cons (ps_if (pt_not (pt_val (C8.pe_c (c_is_integer (T := T) G) hr (by decide) (by rfl) (pa_cons (pv 1) (pa_cons pe_int (pa_cons (C8.pe_gc (by rfl) G.v_most_marks) pa_nil))))))
        (pss_one ps_never) pss_nil)
      (pss_cons (ps_if (PW.pt (pw_or (pt_not (pt_val (pe_callB call_isi (by rfl) G.b_isinstance (by decide +kernel) (pa_cons (pv 2) (pa_cons (pe_bltn (v := .ty "tuple") (by rfl) G.b_tuple (by decide +kernel) rfl) pa_nil))))) (pw_or (pt_cmpR op_gt (pe_callB call_len_seq (by rfl) G.b_len (by decide +kernel) (pa_cons (pv 2) pa_nil)) (C8.pe_gc (by rfl) G.v_most_rules) (nomark _)) (pw_or1 (pt_not (pt_val (pe_callB (cr_all rfl) (by rfl) G.b_all (by decide +kernel) (pa_cons (pe_lc (own := [("one", 3)]) (g := gName 3) rfl sc_Book_init.nd (pi_tup (pv 2)) (blkOk_by (own := [("one", 3)]) (N := N_Book_init) (sc := defScope sBookInit) (by decide +kernel)) (fun _ _ _ _ _ => (pg_name (i := 3) sc_Book_init.nd rfl (Or.inl rfl))) (fun _ _ _ _ _ => pts_nil) (fun _ _ _ _ _ => (C8.pe_c (c_is_rule (T := T) G) hr (by decide) (by rfl) (pa_cons (pv 1) (pa_cons (pv 3) pa_nil))))) pa_nil))))))))
        (pss_one ps_never) pss_nil)
      (pss_cons (SlX.ps_sl (pv 0) (pv 1))
      (pss_one (SlX.ps_sl (pv 0) (pv 2)))))), ?_⟩
    obtain ⟨as, h1, h2, h3⟩ := hr2.sq
    refine ⟨_, rfl, M, 1, 5, rfl, _, rfl, ?_⟩
    rw [decide_eq_true (⟨hM1, hM5⟩ : 1 ≤ M ∧ M ≤ 5)]
    refine iteF ?_
    refine ⟨_, rfl, _, _, _, _, _, rfl, .ty "tuple", .base (.tup h1), kit_ty (by decide +kernel), true, rfl, iteF ?_⟩
    refine ⟨_, rfl, r, _, rfl, .inr (SqT.of h1), _, _, rfl, rfl, _, rfl, ?_⟩
    rw [decide_eq_false (by rw [List.length_map]; omega)]
    refine iteF ?_
    refine ⟨_, rfl, r, rfl, ⟨_, SqT.of h1⟩, fun D hD => ?_⟩
    refine lc_bl (T := T) (ds := as.zip rs) (b := fun _ => true) (walk_tup (xs := as.map V.ref)) (by rw [List.length_map, List.length_zip, h2]; omega) (by rw [List.length_map]; omega) hD (fun H1 x => SqT.of (x.tup h1)) (fun _ _ _ _ _ _ y => yat_ex y) ?_ ?_
    · intro i d v H1 H2 hd _ x2 y S hS
      obtain ⟨e, q⟩ := y
      subst e
      rw [List.getElem?_zip_eq_some] at hd
      obtain rfl := at_map q hd.1
      obtain ⟨ru, g1, g2⟩ := pair_at h3 hd.1
      rw [hd.2] at g1
      obtain rfl : d.2 = ru := Option.some.inj g1
      have hi := hru _ (List.mem_of_getElem? hd.2)
      refine hS _ rfl fun H3 x3 Q3 k3 => ?_
      exact ⟨_, rfl, _, rfl, M, d.1, d.2, rfl, g2.im (x2.trans x3).im, hi.1, hi.2, hM5, fun H4 x4 => k3 _ _ x4 rfl⟩
    · intro H1 x1 hD1
      have e1 : ((as.zip rs).map fun _ => true).all id = true := by
        rw [all_id, List.all_eq_true]
        intro _ _
        rfl
      refine ⟨D, _, rfl, SqL.of hD1, true, by rw [e1], iteF ?_⟩
      have i1 := x1.ins hx
      have i2 : H1 dx = some (.own x) := x1.1 _ _ hdx fun _ z => by cases z
      refine ⟨_, rfl, _, rfl, x, _, dx, _, _, 0, rfl, .inl ⟨i1, rfl⟩, G.sclsB, G.slM, ?_⟩
      refine ⟨_, rfl, _, rfl, x, _, dx, _, _, 1, rfl, SlX.slH_slt hne, G.sclsB, G.slR, ?_⟩
      rw [SlX.slH_twice hne]
      have eb : Eb T [x, dx] H (SlX.slH H1 x (He.ga K "Book") dx (SlX.putS 1 (.ref r) (SlX.putS 0 (.int M) []))) := by
        unfold SlX.slH
        refine Eb.put (o1 := .ins (He.ga K "Book") dx []) (Eb.put (o1 := .own x) (Eb.of x1) (by simp) i2 (fun _ z => by cases z) fun _ _ => code_own) (by simp) ?_ (fun _ z => by cases z) fun _ _ => code_ins
        rw [upd_ne (Ne.symm hne)]
        exact i1
      refine k _ eb ⟨dx, r, SlX.slH_slt hne, as, ?_, ?_⟩
      · rw [SlX.slH_ne]
        · exact x1.tup h1
        · exact ne_of h1 hx (fun z => by cases z)
        · exact ne_of h1 hdx (fun z => by cases z)
      · have im : Im H (SlX.slH H1 x (He.ga K "Book") dx (SlX.putS 1 (.ref r) (SlX.putS 0 (.int M) []))) := fun b xs e => by
          rw [SlX.slH_ne]
          · exact x1.tup e
          · exact ne_of e hx (fun z => by cases z)
          · exact ne_of e hdx (fun z => by cases z)
        exact Paired.imp (fun _ _ q => q.im im) h3


end
end Pb
set_option Elab.async false
set_option linter.all false
set_option maxRecDepth 100000
set_option maxHeartbeats 4000000
namespace Pb
open PySem PySem.Spec PyProof.Rows L2
section
variable {P : Program} {w : World} {K : PySem.W.Frag} {mg : Str → Option Value} {base : Heap} {T : Tb}
theorem c_Book (G : Gx K mg) : C8.Mak P w K mg base 4 "Book" (He.ga K "Book") (spBookInit T K) [] := by
  obtain ⟨fd, F, b⟩ := f_Book_init (P := P) (w := w) (base := base) (T := T) G
  exact ⟨_, fd, _, [], G.mk_Book, F, G.g_Book, b, .nil⟩
theorem lenB {X : Cx} {j : Nat} (G : Gx K mg) (e : X.K = K) (e2 : X.mg = mg) (hr : Room j X.A) (hj : 2 ≤ j) : CallR X (.builtin "len") (rLenOwn (He.ga K "Book") (fun vs H Q E => spBookLen T K (vs ++ []) H Q E) C8.E0) := by
  subst e e2
  obtain ⟨fd, F, b⟩ := f_Book_len (P := X.prog) (w := X.w) (base := X.base) (T := T) G
  exact call_lenOwn (G.me_Book_len).at_ (G.me_Book_len).fn (F.raw b .nil) (hr.mono hj) C8.pass0
theorem rLenB {K : PySem.W.Frag} {H : Hp} {b : Addr} {M : Int} {rs : List Ru} {Q : VK} (h : Bk K H b M rs) (hl : rs.length < 1000) (q : ∀ H', Ex T H H' → Q (.int rs.length) H') :
    rLenOwn (He.ga K "Book") (fun vs H Q E => spBookLen T K (vs ++ []) H Q E) C8.E0 [.ref b] H Q := by
  obtain ⟨dx, r, h1, h2⟩ := id h
  exact ⟨b, dx, _, rfl, h1, b, M, rs, rfl, h, fun H' x => ⟨_, rfl, by omega, by omega, q H' x⟩⟩
end
section
variable {K : PySem.W.Frag} {T : Tb} {H : Hp} {a : Addr} {r : Ru} {σ : L2.St} {i j k : Nat} {Q : L2.St → Hp → Prop}
/-- premise, conclusion = rule -/
theorem gRule (h : RuA H a r) (q : ∀ p c, HT H p r.1 → HT H c r.2 → Q ((σ.set i (some (.ref p))).set j (some (.ref c))) H) : gTup K 2 (gCons (gName i) (gCons (gName j) gNil)) (.ref a) σ H Q := by
  obtain ⟨p, c, h1, h2, h3⟩ := h
  exact ⟨a, _, rfl, SqT.of h1, rfl, _, _, rfl, _, _, rfl, rfl, q p c h2 h3⟩
/-- (premise, conclusion), price = pair -/
theorem gZip {t : Addr} {w : Int} (ht : H t = some (.tup [.ref a, .int w])) (h : RuA H a r) (q : ∀ p c, HT H p r.1 → HT H c r.2 → Q (((σ.set i (some (.ref p))).set j (some (.ref c))).set k (some (.int w))) H) :
    gTup K 2 (gCons (gTup K 2 (gCons (gName i) (gCons (gName j) gNil))) (gCons (gName k) gNil)) (.ref t) σ H Q := by
  obtain ⟨p, c, h1, h2, h3⟩ := h
  exact ⟨t, _, rfl, SqT.of ht, rfl, _, _, rfl, a, _, rfl, SqT.of h1, rfl, _, _, rfl, _, _, rfl, rfl, _, _, rfl, rfl, q p c h2 h3⟩
/-- index, (premise, conclusion) = pair -/
theorem gEnum {t : Addr} {w : Int} (ht : H t = some (.tup [.int w, .ref a])) (h : RuA H a r) (q : ∀ p c, HT H p r.1 → HT H c r.2 → Q (((σ.set k (some (.int w))).set i (some (.ref p))).set j (some (.ref c))) H) :
    gTup K 2 (gCons (gName k) (gCons (gTup K 2 (gCons (gName i) (gCons (gName j) gNil))) gNil)) (.ref t) σ H Q := by
  obtain ⟨p, c, h1, h2, h3⟩ := h
  exact ⟨t, _, rfl, SqT.of ht, rfl, _, _, rfl, _, _, rfl, ⟨a, _, rfl, SqT.of h1, rfl, _, _, rfl, _, _, rfl, rfl, rfl, q p c h2 h3⟩⟩
end
theorem valV_dkv {α : Type} (e : α → V) (t : List (Int × α)) (m : Int) : valV (dkv e t) (kI m) = (lk t m).map e := valV_of kI_inj m t
/-! ### merging sets of marks -/
theorem mergeK_of {α : Type} (e : α → V) : ∀ (u t : List (Int × α)), mergeK (dkv e t) (dkv e u) = dkv e (u.foldl (fun t p => pt t p.1 p.2) t)
  | [], t => rfl
  | p :: u, t => by
    have ih := mergeK_of e u (pt t p.1 p.2)
    show mergeK (putK (dkv e t) (kI p.1) (e p.2)) (dkv e u) = dkv e (u.foldl (fun t p => pt t p.1 p.2) (pt t p.1 p.2))
    rw [putK_of kI_inj, ih]
theorem fold_map {α : Type} (v : Int → α) : ∀ (zs : List Int) (t : List (Int × α)), (zs.map fun z => (z, v z)).foldl (fun t p => pt t p.1 p.2) t = addV v t zs
  | [], t => rfl
  | z :: zs, t => by
    rw [List.map_cons, List.foldl_cons]
    exact fold_map v zs _
theorem pt_same {t : List (Int × Unit)} {m : Int} (h : (lk t m).isSome = true) : pt t m () = t := by
  unfold pt
  rw [lk_any, if_pos h]
  conv => rhs; rw [← List.map_id t]
  refine List.map_congr_left fun p _ => ?_
  split <;> rfl
theorem addU_grow : ∀ (zs : List Int) (t : List (Int × Unit)), (addV (fun _ => ()) t zs = t ∧ ∀ z ∈ zs, (lk t z).isSome = true) ∨ t.length < (addV (fun _ => ()) t zs).length
  | [], t => .inl ⟨rfl, fun z h => (nomatch h)⟩
  | z :: zs, t => by
    show (addV (fun _ => ()) (pt t z ()) zs = t ∧ _) ∨ t.length < (addV (fun _ => ()) (pt t z ()) zs).length
    by_cases h : (lk t z).isSome = true
    · rw [pt_same h]
      rcases addU_grow zs t with ⟨e, q⟩ | q
      · exact .inl ⟨e, fun y hy => by
          rcases List.mem_cons.mp hy with e2 | hy
          · rw [e2]
            exact h
          · exact q y hy⟩
      · exact .inr q
    · right
      have hl : t.length < (pt t z ()).length := by
        have := congrArg List.length (pt_keys t z ())
        rw [if_neg h, List.length_map, List.length_append, List.length_map] at this
        simp at this
        omega
      rcases addU_grow zs (pt t z ()) with ⟨e, _⟩ | q
      · rw [e]
        exact hl
      · omega
end Pb
set_option Elab.async false
set_option linter.all false
set_option maxRecDepth 100000
set_option maxHeartbeats 4000000

namespace Pb
open PySem PySem.Spec PyProof.Rows L2
section
variable {P : Program} {w : World} {K : PySem.W.Frag} {mg : Str → Option Value} {base : Heap} {T : Tb}

def spClosure (T : Tb) : Sp := fun vs H Q _ => ∃ (a b : Addr) (rs : List Ru) (xs : List Int), vs = [.ref a, .ref b] ∧ Rus H a rs ∧ HT H b xs ∧ IsS 5 xs ∧ rs.length ≤ 100 ∧ (∀ r ∈ rs, IsS 5 r.1 ∧ IsS 5 r.2) ∧
  ∀ H' p cl, Ex T H H' → HT H' p cl → IsS 5 cl → Clo rs xs cl → Q (.ref p) H'
/-- the dict of held marks -/
structure Held (rs : List Ru) (th : List Int) (t : List (Int × Unit)) : Prop where
  nd : (t.map (·.1)).Nodup
  dom : ∀ m, (lk t m).isSome = true → m ∈ U
  has : ∀ m ∈ th, (lk t m).isSome = true
  sound : ∀ P : Int → Prop, (∀ m ∈ th, P m) → (∀ r ∈ rs, (∀ m ∈ r.1, P m) → ∀ m ∈ r.2, P m) → ∀ m, (lk t m).isSome = true → P m
theorem Held.len {rs : List Ru} {th : List Int} {t : List (Int × Unit)} (h : Held rs th t) : t.length ≤ 5 := by
  have := nodup_le h.nd fun x hx => h.dom x (lk_mem.mpr hx)
  rw [List.length_map] at this
  exact this
theorem Held.init {rs : List Ru} {th : List Int} (h : IsS 5 th) : Held rs th (addV (fun _ => ()) [] th) := by
  have key : ∀ m, (lk (addV (fun _ : Int => ()) [] th) m).isSome = true ↔ m ∈ th := fun m => by
    rw [lk_addV]
    by_cases q : m ∈ th
    · rw [if_pos q]
      exact ⟨fun _ => q, fun _ => rfl⟩
    · rw [if_neg q]
      exact ⟨fun z => (nomatch z), fun z => absurd z q⟩
  exact ⟨addV_nodup _ _ _ List.nodup_nil, fun m q => mem_U.mpr (h.1 m ((key m).mp q)), fun m q => (key m).mpr q, fun P p0 _ m q => p0 m ((key m).mp q)⟩
theorem Held.step {rs : List Ru} {th : List Int} {t : List (Int × Unit)} {r : Ru} (h : Held rs th t) (hr : r ∈ rs) (hi : IsS 5 r.2) (ha : ∀ m ∈ r.1, (lk t m).isSome = true) : Held rs th (addV (fun _ => ()) t r.2) := by
  have key : ∀ m, (lk (addV (fun _ : Int => ()) t r.2) m).isSome = true ↔ m ∈ r.2 ∨ (lk t m).isSome = true := fun m => by
    rw [lk_addV]
    by_cases q : m ∈ r.2
    · rw [if_pos q]
      exact ⟨fun _ => .inl q, fun _ => rfl⟩
    · rw [if_neg q]
      exact ⟨fun z => .inr z, fun z => z.resolve_left q⟩
  refine ⟨addV_nodup _ _ _ h.nd, fun m q => ?_, fun m q => (key m).mpr (.inr (h.has m q)), fun P p0 p1 m q => ?_⟩
  · rcases (key m).mp q with q | q
    · exact mem_U.mpr (hi.1 m q)
    · exact h.dom m q
  · rcases (key m).mp q with q | q
    · exact p1 r hr (fun j hj => h.sound P p0 p1 j (ha j hj)) m q
    · exact h.sound P p0 p1 m q

abbrev N_closure : List Str := ["rules", "thing", "held", "many", "premise", "conclusion", "mark"]
theorem sc_closure : FnScope N_closure ["rules", "thing"] (defScope sClosure) := ⟨rfl, rfl, rfl, by decide +kernel, rfl, by decide +kernel, by decide +kernel⟩
theorem c_closure (G : Gx K mg) : C8.Cal P w K mg base 3 "closure" (spClosure T) [] := by
  refine calOf G 7 rfl rfl sc_closure (fun _ _ _ _ _ _ us hl => match us, hl with | [_, _], _ => rfl) (fun vs H Q E h => ?_) (fun f cdv A outer s H vs Q E hr h => ?_)
  · obtain ⟨a, b, rs, xs, rfl, hrs, hb, hs, hl, hru, k⟩ := h
    rfl
  · obtain ⟨a, b, rs, xs, rfl, hrs, hb, hs, hl, hru, k⟩ := h
    refine ⟨_, (pss_cons (ps_par (i := 2) (j := 3) rfl sc_closure.nd rfl rfl (by decide) rfl rfl (pa_cons (pe_dc (own := [("mark", 6)]) (g := gName 6) rfl sc_closure.nd (pi_tup (pv 1)) (blkOk_by (own := [("mark", 6)]) (N := N_closure) (sc := defScope sClosure) (by decide +kernel)) (fun _ _ _ _ _ => (pg_name (i := 6) sc_closure.nd rfl (Or.inl rfl))) (fun _ _ _ _ _ => pts_nil) (fun _ _ _ _ _ => (pv 6)) (fun _ _ _ _ _ => pe_bl)) (pa_cons (pe_un un_neg pe_int) pa_nil)) (by rfl))
      (pss_cons (ps_while PassesOwn.never (pt_cmpR op_ne (pv 3) (pe_callB call_lenD (by rfl) G.b_len (by decide +kernel) (pa_cons (pv 2) pa_nil)) (nomark _))
        (pss_cons (ps_set (i := 3) sc_closure.nd rfl (Or.inl rfl) (pe_callB call_lenD (by rfl) G.b_len (by decide +kernel) (pa_cons (pv 2) pa_nil)))
          (pss_one (ps_for PassesOwn.never rfl (pi_tup (pv 0)) (pg_tup rfl (pgs_cons (pg_name (i := 4) sc_closure.nd rfl (Or.inl rfl)) (pgs_cons (pg_name (i := 5) sc_closure.nd rfl (Or.inl rfl)) pgs_nil)))
            (pss_one (ps_if (pt_val (C8.pe_c (c_is_within (T := T) G) hr (by decide) (by rfl) (pa_cons (pv 4) (pa_cons (pv 2) pa_nil))))
                (pss_one (ps_expr (pe_bm PySem.F.plainAttrs_dict PySem.F.slot_dict_update PySem.F.type_dict_update mt_update (pv 2) (pa_cons (pe_dc (own := [("mark", 6)]) (g := gName 6) rfl sc_closure.nd (pi_tup (pv 5)) (blkOk_by (own := [("mark", 6)]) (N := N_closure) (sc := defScope sClosure) (by decide +kernel)) (fun _ _ _ _ _ => (pg_name (i := 6) sc_closure.nd rfl (Or.inl rfl))) (fun _ _ _ _ _ => pts_nil) (fun _ _ _ _ _ => (pv 6)) (fun _ _ _ _ _ => pe_bl)) pa_nil)))) pss_nil))))))
      (pss_one (ps_ret (pe_callTy call_tuple_of (by rfl) G.b_tuple (by decide +kernel) (pa_cons (pe_callB (call_sortedDI rfl) (by rfl) G.b_sorted (by decide +kernel) (pa_cons (pv 2) pa_nil)) pa_nil)))))), ?_⟩
    have l1 := hs.len
    obtain ⟨as, h1, h2, h3⟩ := hrs.sq
    refine ⟨_, rfl, b, rfl, ⟨_, SqT.of hb⟩, fun D hD => ?_⟩
    refine dc_val (T := T) (ds := xs) (f := fun _ => true) (v := fun _ => ()) (e := fun _ => V.bl true) (walk_tup (xs := xs.map V.int)) (by rw [List.length_map]) (by rw [List.length_map]; omega) hD
      (fun H1 x => SqT.of (x.tup hb)) (fun _ _ _ _ _ _ y => yat_ex y) ?_ ?_
    · intro i d v H1 H2 hd _ x y S hS
      obtain ⟨e, q⟩ := y
      subst e
      obtain rfl := at_map q hd
      exact hS _ rfl (evr_yes (roEx T)) (fun _ H3 x3 Q3 k3 => ⟨_, rfl, k3 _ _ (Ex.refl T H3) rfl⟩) (fun _ H3 x3 Q3 k3 => k3 _ _ (Ex.refl T H3) rfl)
    intro H1 x1 hD1
    rw [filter_true] at hD1
    refine ⟨1, rfl, _, _, rfl, ?_⟩
    refine ⟨fun m σ H' => ∃ (n : Int) (t : List (Int × Unit)) (v4 v5 : Option V), σ = [some (.ref a), some (.ref b), some (.ref D), some (.int n), v4, v5, none] ∧ Ex T H H' ∧ H' D = some (.dK (dkv (fun _ => V.bl true) t)) ∧ Held rs xs t ∧
      (n = t.length → ∀ r ∈ rs, (∀ m ∈ r.1, (lk t m).isSome = true) → ∀ m ∈ r.2, (lk t m).isSome = true) ∧ m = 2 * (5 - t.length) + (if n = t.length then 0 else 1), ⟨_, -1, _, none, none, rfl, x1, hD1, Held.init hs, fun z => by omega, rfl⟩, ?_⟩
    rintro m σ H2 ⟨n, t, v4, v5, rfl, x2, hD2, hh, hcl, rfl⟩
    have ht5 := hh.len
    refine ⟨_, rfl, _, rfl, D, _, rfl, hD2, rfl, _, rfl, ?_⟩
    rw [List.length_map]
    by_cases hn : n = t.length
    · rw [hn, decide_eq_true rfl]
      refine iteF ?_
      have nD : H D = none := hD
      refine ⟨_, rfl, D, _, t.map (·.1), rfl, .inl hD2, by rw [List.map_map, List.map_map]; rfl, by rw [List.length_map]; omega, fun zs p hz hp hpn => ?_⟩
      refine ⟨p, _, rfl, .inl ⟨SqL.of upd_same, fun l hln => ?_⟩⟩
      have mem : ∀ m, m ∈ zs ↔ (lk t m).isSome = true := fun m => by rw [hz.mem_iff, lk_mem]
      refine k _ l zs ((x2.push hpn).push hln) upd_same ⟨fun m hm => mem_U.mp (hh.dom m ((mem m).mp hm)), asc_of_perm hz hh.nd hp⟩ ⟨fun m hm => (mem m).mpr (hh.has m hm), fun r hr ha m hm => (mem m).mpr (hcl hn r hr (fun j hj => (mem j).mp (ha j hj)) m hm), fun P p0 p1 m hm => hh.sound P p0 p1 m ((mem m).mp hm)⟩
    · have e : (!decide (V.int n = V.int (t.length : Int))) = true := by
        rw [decide_eq_false (fun z => hn (by injection z))]
        rfl
      rw [e]
      refine iteT ⟨_, fun _ _ h => h, ?_⟩
      refine ⟨_, rfl, D, _, rfl, hD2, ?_⟩
      rw [List.length_map]
      refine ⟨_, rfl, a, rfl, ⟨_, SqT.of (x2.tup h1)⟩, ?_⟩
      refine for_tup (xs := as.map V.ref) (fun i σ H' => ∃ (u : List (Int × Unit)) (v4 v5 : Option V), σ = [some (.ref a), some (.ref b), some (.ref D), some (.int (t.length : Int)), v4, v5, none] ∧ Ex T H H' ∧ H' D = some (.dK (dkv (fun _ => V.bl true) u)) ∧ Held rs xs u ∧ t.length ≤ u.length ∧
        (u.length = t.length → u = t ∧ ∀ j r, j < i → rs[j]? = some r → (∀ m ∈ r.1, (lk u m).isSome = true) → ∀ m ∈ r.2, (lk u m).isSome = true))
        ⟨t, v4, v5, rfl, x2, hD2, hh, Nat.le_refl _, fun _ => ⟨rfl, fun j r z => absurd z (Nat.not_lt_zero j)⟩⟩ ?_ ?_ ?_
      · rintro i σ H3 hi ⟨u, v4, v5, rfl, x3, _⟩
        exact SqT.of (x3.tup h1)
      · rintro i x σ H3 hx ⟨u, v4, v5, rfl, x3, hD3, hu2, hlen, hdone⟩
        obtain ⟨ai, hai, rfl⟩ := at_of hx
        obtain ⟨r, hri, hra⟩ := pair_at h3 hai
        have hr' := List.mem_of_getElem? hri
        refine gRule (hra.im x3.im) fun p c hp hc => ?_
        have hu5 := hu2.len
        refine ⟨_, rfl, _, rfl, p, D, r.1, (fun m => (lk u m).isSome), rfl, hp, by have := (hru r hr').1.len; omega, .inr ⟨_, .inl hD3, fun m => by rw [valV_dkv, Option.isSome_map]⟩, fun H4 x4 => ⟨_, rfl, ?_⟩⟩
        cases hw : r.1.all fun m => (lk u m).isSome with
        | false =>
          refine iteF ⟨u, _, _, rfl, x3.trans x4, x4.dK hD3, hu2, hlen, fun q => ⟨(hdone q).1, fun j r' hj hr2 ha => ?_⟩⟩
          rcases Nat.lt_or_ge j i with z | z
          · exact (hdone q).2 j r' z hr2 ha
          · have ej : j = i := by omega
            rw [ej, hri] at hr2
            obtain rfl := Option.some.inj hr2
            have : (r.1.all fun m => (lk u m).isSome) = true := List.all_eq_true.mpr ha
            rw [hw] at this
            cases this
        | true =>
          rw [List.all_eq_true] at hw
          refine iteT ?_
          refine ⟨_, rfl, .inr (.inr (.inl ⟨rfl, .inl ⟨_, x4.dK hD3⟩⟩)), _, rfl, c, rfl, ⟨_, SqT.of (hc.ex x4)⟩, fun D2 hD2n => ?_⟩
          have hi2 := (hru r hr').2
          have l2 := hi2.len
          refine dc_val (T := T) (ds := r.2) (f := fun _ => true) (v := fun _ => ()) (e := fun _ => V.bl true) (walk_tup (xs := r.2.map V.int)) (by rw [List.length_map]) (by rw [List.length_map]; omega) hD2n
            (fun H1 x => SqT.of (x.tup (hc.ex x4))) (fun _ _ _ _ _ _ y => yat_ex y) ?_ ?_
          · intro i d v H5 H6 hd _ x y S hS
            obtain ⟨e, q⟩ := y
            subst e
            obtain rfl := at_map q hd
            exact hS _ rfl (evr_yes (roEx T)) (fun _ H3 x3 Q3 k3 => ⟨_, rfl, k3 _ _ (Ex.refl T H3) rfl⟩) (fun _ H3 x3 Q3 k3 => k3 _ _ (Ex.refl T H3) rfl)
          · intro H5 x5 hD5
            rw [filter_true, addV_new _ _ _ (asc_nodup hi2.2) (fun z _ => rfl), List.nil_append] at hD5
            have hDD := x5.dK (x4.dK hD3)
            have hst := hu2.step hr' hi2 hw
            have hst5 := hst.len
            refine ⟨D, D2, _, _, rfl, rfl, ne_of_none (x4.dK hD3) hD2n, hDD, hD5, ?_, ?_⟩
            · rw [List.length_map, List.length_map, List.length_map]
              exact Nat.le_trans (by omega : _ ≤ 10) (by decide)
            · rw [mergeK_of, fold_map]
              refine ⟨_, _, _, rfl, Ex.mut ((x3.trans x4).trans x5) (NT.of hD) hDD trivial, upd_same, hst, ?_, fun q => ?_⟩
              · rcases addU_grow r.2 u with ⟨e, _⟩ | q
                · rw [e]
                  exact hlen
                · omega
              · rcases addU_grow r.2 u with ⟨e, hall⟩ | q2
                · rw [e] at q ⊢
                  refine ⟨(hdone q).1, fun j r' hj hr2 ha => ?_⟩
                  rcases Nat.lt_or_ge j i with z | z
                  · exact (hdone q).2 j r' z hr2 ha
                  · have ej : j = i := by omega
                    rw [ej, hri] at hr2
                    obtain rfl := Option.some.inj hr2
                    exact hall
                · omega
      · rintro σ H3 ⟨u, v4, v5, rfl, x3, hD3, hu2, hlen, hdone⟩
        have hu5 := hu2.len
        refine ⟨2 * (5 - u.length) + (if ((t.length : Nat) : Int) = u.length then 0 else 1), ?_, _, u, v4, v5, rfl, x3, hD3, hu2, fun q r hr ha => ?_, rfl⟩
        · rw [if_neg hn]
          split <;> omega
        · obtain ⟨j, hj, hjr⟩ := List.getElem_of_mem hr
          have hj2 : rs[j]? = some r := by rw [List.getElem?_eq_getElem hj, hjr]
          exact (hdone (by omega)).2 j r (by rw [List.length_map]; omega) hj2 ha


end
end Pb
set_option Elab.async false
set_option linter.all false
set_option maxRecDepth 100000
set_option maxHeartbeats 4000000
namespace Pb
open PySem PySem.Spec PyProof.Rows L2
/-- the tables of the two defs with a lambda -/
def Tt (K : PySem.W.Frag) : Tb := [((He.cT K ("in_order", none)).2, "in_order.<locals>.<lambda>"), ((He.cT K ("_law_sets", none)).2, "_law_sets.<locals>.<lambda>")]
structure Gb (K : PySem.W.Frag) (mg : Str → Option Value) (base : Heap) : Prop where
  g : Gx K mg
  tn : (He.cT K ("in_order", none)).2 ≠ (He.cT K ("_law_sets", none)).2
  tb : ∀ p ∈ tfL, LamX.TabB base mg (He.cT K p).1 (He.cT K p).2
section
variable {P : Program} {w : World} {K : PySem.W.Frag} {mg : Str → Option Value} {base : Heap}
/-- a def's promise from its body, its code object told -/
theorem calOfC (G : Gx K mg) {x : Str} {st : Stmt} {N ps : List Str} {k : Nat} {sp : Sp} (i : Nat) (hi : fnL[i]? = some ⟨(x, none), x, x, defArgs st, defBody st, defScope st, [], []⟩) (hj : faL[i]? = some (.glo x)) (S : FnScope N ps (defScope st))
    (hb : ∀ (kV doc pm : Value) (an : Option Addr) (cdv ct : Value) (us : List Value), us.length = ps.length → bindArgs (PySem.W.fnOf x x (defArgs st) (defBody st) (defScope st) .none kV doc pm an cdv ct) ⟨us, []⟩ = pure (ps.zip us)) (len : ∀ vs H Q E, sp vs H Q E → vs.length = ps.length)
    (hbody : ∀ (f : Addr) (cdv : Value) (A : Around) (outer : List Env) (s : Shared) (H : Hp) (vs : List V) (Q : VK) (E : XK), cdv = .ref (He.cT K (x, none)).1 → Room k (A.deeper (envOfC x (defScope st) s.heap.objs.size f cdv)) → sp vs H Q E →
      ∃ t, PSs (cxOf C8.CX0 P w K mg base N x (defScope st) f cdv A outer s H E).nox (defBody st) t ∧ t { nx := fun _ H' => Q .non H', rt := Q } (start N vs) H) : C8.Cal P w K mg base (k + 1) x sp [] := by
  obtain ⟨fd, F⟩ := G.d.def_ i hi
  refine ⟨_, fd, ps, [], ?_, G.glo i hj, F.kp, F.bindsN hb, .nil⟩
  obtain ⟨oc, od, dV, kV, doc, pm, an, cdv, ct, osl, rfl, lk, hcd, _, _⟩ := F.ex
  obtain ⟨c, ec⟩ := He.codeIn_ref hcd
  have ec2 : cdv = .ref (He.cT K (x, none)).1 := by
    have := He.codeOf_eq (K := K) (p := (x, none)) lk ec
    rw [ec]
    exact congrArg Value.ref this.symm
  exact fn_of lk hcd S len fun A outer s H vs Q E hr h => let ⟨t, h1, h2⟩ := hbody _ cdv A outer s H vs Q E ec2 hr h; ⟨t, h1.nox, h2⟩
def spInOrder (T : Tb) : Sp := fun vs H Q _ => ∃ (a : Addr) (bs : List (Addr × List Int)), vs = [.ref a] ∧ LamX.Tabs T H ∧ H a = some (.lst (bs.map fun b => V.ref b.1)) ∧ (∀ b ∈ bs, HT H b.1 b.2) ∧
  ∀ (H' : Hp) (p : Addr) (bs' : List (Addr × List Int)), Ex T H H' → H' p = some (.lst (bs'.map fun b => V.ref b.1)) → bs'.Perm bs → Q (.ref p) H'
abbrev N_in_order : List Str := ["sets"]
theorem sc_in_order : FnScope N_in_order ["sets"] (defScope sInOrder) := ⟨rfl, rfl, rfl, by decide +kernel, rfl, by decide +kernel, by decide +kernel⟩
theorem c_in_order (B : Gb K mg base) : C8.Cal P w K mg base 1 "in_order" (spInOrder (Tt K)) [] := by
  have G := B.g
  refine calOfC G 5 rfl rfl sc_in_order (fun _ _ _ _ _ _ us hl => match us, hl with | [_], _ => rfl) (fun vs H Q E h => ?_) (fun f cdv A outer s H vs Q E hc hr h => ?_)
  · obtain ⟨a, bs, rfl, _⟩ := h
    rfl
  · obtain ⟨a, bs, rfl, ht, ha, hbs, k⟩ := h
    have tb := B.tb ("in_order", none) (by simp [tfL])
    have hqual : (envOfC "in_order" (defScope sInOrder) s.heap.objs.size f cdv).qual ++ "<lambda>" = "in_order.<locals>.<lambda>" := by
      show (Str.ofString "in_order" ++ Str.ofString ".<locals>.") ++ Str.ofString "<lambda>" = Str.ofString "in_order.<locals>.<lambda>"
      decide +kernel
    refine ⟨_, pss_one (ps_ret (pe_sortK (T := Tt K) hr (by rfl) G.b_sorted G.b_len (pv 0) tb (by rw [hc]; rfl) ?_ ?_ rfl (by decide) (by decide) (fun _ _ _ _ _ _ => rfl))), ?_⟩
    · rw [show (cxOf C8.CX0 P w K mg base N_in_order "in_order" (defScope sInOrder) f cdv A outer s H E).nox.env.qual ++ "<lambda>" = "in_order.<locals>.<lambda>" from hqual]
      simp [Tt]
    · intro p hp e
      rw [show (cxOf C8.CX0 P w K mg base N_in_order "in_order" (defScope sInOrder) f cdv A outer s H E).nox.env.qual ++ "<lambda>" = "in_order.<locals>.<lambda>" from hqual]
      rcases List.mem_cons.mp hp with q | q
      · rw [q]
      · rw [List.mem_singleton.mp q] at e
        exact absurd e.symm B.tn
    · exact ⟨_, rfl, ht, a, bs, rfl, ha, hbs, fun H2 p bs' x hn hper => k _ p bs' (x.push hn) upd_same hper⟩
end
end Pb
set_option Elab.async false
set_option linter.all false
set_option maxRecDepth 100000
set_option maxHeartbeats 4000000
namespace Pb
open PySem PySem.Spec PyProof.Rows L2
section
variable {K : PySem.W.Frag} {T : Tb} {H : Hp}
theorem paired_refs {α : Type} {k : α → List Int} : ∀ {ds : List α} {acc : List V}, Paired (fun d v => ∃ b, v = V.ref b ∧ HT H b (k d)) ds acc → ∃ ns : List (Addr × List Int), acc = ns.map (fun b => V.ref b.1) ∧ (∀ b ∈ ns, HT H b.1 b.2) ∧ ns.map (·.2) = ds.map k
  | _, _, .nil => ⟨[], rfl, fun b h => (nomatch h), rfl⟩
  | d :: _, _, .cons h t => by
    obtain ⟨b, rfl, hb⟩ := h
    obtain ⟨ns, h1, h2, h3⟩ := paired_refs t
    refine ⟨(b, k d) :: ns, by rw [h1]; rfl, fun c hc => ?_, by rw [List.map_cons, List.map_cons, h3]⟩
    rcases List.mem_cons.mp hc with e | hc
    · rw [e]
      exact hb
    · exact h2 c hc
theorem rCatA_any {a b : Addr} {xs ys : List Int} {Q : VK} (ha : HT H a xs) (hb : HT H b ys) (hl : xs.length + ys.length ≤ 1000) (q : ∀ c H', Ex T H H' → HT H' c (xs ++ ys) → Q (.ref c) H') : rCatA K (.ref a) (.ref b) H Q := by
  refine ⟨a, b, _, _, rfl, rfl, SqT.of ha, SqT.of hb, by rw [List.length_map, List.length_map]; exact Nat.le_trans hl (by decide), fun e => ?_, fun _ e => ?_, fun _ _ p hp => ?_⟩
  · have e' : xs = [] := List.map_eq_nil_iff.mp e
    subst e'
    exact q b H (Ex.refl T H) hb
  · have e' : ys = [] := List.map_eq_nil_iff.mp e
    subst e'
    exact q a H (Ex.refl T H) (by rw [List.append_nil]; exact ha)
  · refine q p _ (Ex.new hp) ?_
    unfold HT
    rw [upd_same, List.map_append]
theorem subsN_len {n : Nat} (h : n ≤ 5) : (subsN n).length ≤ 32 := by
  have hM : n = 0 ∨ n = 1 ∨ n = 2 ∨ n = 3 ∨ n = 4 ∨ n = 5 := by omega
  rcases hM with rfl | rfl | rfl | rfl | rfl | rfl <;> decide +kernel
end
/-- the list at p holds the sets bs -/
def Sts (H : Hp) (p : Addr) (bs : List (Addr × List Int)) : Prop := H p = some (.lst (bs.map fun b => V.ref b.1)) ∧ ∀ b ∈ bs, HT H b.1 b.2
theorem Sts.ex {T : Tb} {H H' : Hp} {p : Addr} {bs : List (Addr × List Int)} (h : Sts H p bs) (x : Ex T H H') : Sts H' p bs := ⟨x.lst h.1, fun b hb => (h.2 b hb).ex x⟩
def spSetsOf (T : Tb) : Sp := fun vs H Q _ => ∃ M : Int, vs = [.int M] ∧ 0 ≤ M ∧ M ≤ 5 ∧ LamX.Tabs T H ∧ ∀ (H' : Hp) (p : Addr) (bs : List (Addr × List Int)), Ex T H H' → Sts H' p bs → (bs.map (·.2)).Perm (subs M) → Q (.ref p) H'
end Pb
set_option Elab.async false
set_option linter.all false
set_option maxRecDepth 100000
set_option maxHeartbeats 4000000

namespace Pb
open PySem PySem.Spec PyProof.Rows L2
section
variable {P : Program} {w : World} {K : PySem.W.Frag} {mg : Str → Option Value} {base : Heap} {T : Tb}

abbrev N_sets_of : List Str := ["marks", "found", "mark", "one"]
theorem sc_sets_of : FnScope N_sets_of ["marks"] (defScope sSetsOf) := ⟨rfl, rfl, rfl, by decide +kernel, rfl, by decide +kernel, by decide +kernel⟩
theorem c_sets_of (B : Gb K mg base) : C8.Cal P w K mg base 2 "sets_of" (spSetsOf (Tt K)) [] := by
  have G := B.g
  refine calOf G 6 rfl rfl sc_sets_of (fun _ _ _ _ _ _ us hl => match us, hl with | [_], _ => rfl) (fun vs H Q E h => ?_) (fun f cdv A outer s H vs Q E hr h => ?_)
  · obtain ⟨M, rfl, h0, h5, htab, k⟩ := h
    rfl
  · obtain ⟨M, rfl, h0, h5, htab, k⟩ := h
    refine ⟨_, (pss_cons (ps_set (i := 1) sc_sets_of.nd rfl (Or.inl rfl) (pe_lst (pa_cons (pe_tup pa_nil) pa_nil)))
      (pss_cons (ps_for PassesOwn.never rfl (pi_range1 (by rfl) G.b_range (pa_cons (pv 0) pa_nil)) (pg_name (i := 2) sc_sets_of.nd rfl (Or.inr rfl))
        (pss_one (ps_set (i := 1) sc_sets_of.nd rfl (Or.inl rfl) (pe_lst (pa_starK (K := K) rfl (pv 1) (pa_starK (K := K) rfl (pe_lc (own := [("one", 3)]) (g := gName 3) rfl sc_sets_of.nd (pi_list (pv 1)) (blkOk_by (own := [("one", 3)]) (N := N_sets_of) (sc := defScope sSetsOf) (by decide +kernel)) (fun _ _ _ _ _ => (pg_name (i := 3) sc_sets_of.nd rfl (Or.inl rfl))) (fun _ _ _ _ _ => pts_nil) (fun _ _ _ _ _ => (pe_tup (pa_starK (K := K) rfl (pv 3) (pa_cons (pv 2) pa_nil))))) pa_nil))))))
      (pss_one (ps_ret (C8.pe_c (c_in_order B) hr (by decide) (by rfl) (pa_cons (pv 1) pa_nil)))))), ?_⟩
    refine ⟨by show 0 ≤ sizeLine; exact Nat.zero_le _, fun t ht => ?_⟩
    refine ⟨by show 1 ≤ sizeLine; decide, fun l hl => ?_⟩
    have x0 : Ex (Tt K) H (upd (upd H t (.tup [])) l (.lst [.ref t])) := (Ex.new ht).push hl
    have hM : (M.toNat : Int) = M := by omega
    refine ⟨_, rfl, M, rfl, by omega, by omega, ?_⟩
    refine for_it (n := M.toNat) walk_range (fun i σ H' => ∃ (l : Addr) (bs : List (Addr × List Int)) (v2 : Option V), σ = [some (.int M), some (.ref l), v2, none] ∧ Ex (Tt K) H H' ∧ Sts H' l bs ∧ bs.map (·.2) = subsN i)
      ⟨l, [(t, [])], none, rfl, x0, ⟨upd_same, fun b hb => ?_⟩, rfl⟩ (fun _ _ _ _ _ => trivial) ?_ ?_
    · rw [List.mem_singleton.mp hb]
      exact (Ex.new (T := Tt K) hl).tup upd_same
    · rintro i x σ H1 H1' hi ⟨l, bs, v2, rfl, x1, hs, hb⟩ ⟨rfl, rfl⟩
      have hlen : bs.length ≤ 32 := by
        have := subsN_len (n := i) (by omega)
        rw [← hb, List.length_map] at this
        exact this
      have e0 : (0 : Int) + (i : Int) = i := by omega
      dsimp only
      rw [e0]
      refine ⟨_, rfl, l, _, rfl, .inr (SqL.of hs.1), ?_⟩
      refine ⟨_, rfl, l, rfl, ⟨_, SqL.of hs.1⟩, fun D hD => ?_⟩
      refine lc_f (roEx (Tt K)) trivial (walk_list (xs := bs.map fun b => V.ref b.1)) (ds := bs) (by rw [List.length_map]) (by rw [List.length_map]; omega) hD (fun H2 x => SqL.of (x.lst hs.1)) (fun _ _ _ _ _ _ y => yat_ex y) (fun _ => true)
        (fun d v H' => ∃ b, v = V.ref b ∧ HT H' b (d.2 ++ [(i : Int)])) (fun d v H2 H3 im ⟨b, e, h⟩ => ⟨b, e, h.im im⟩) ?_ ?_
      · intro j d v H2 H3 hd _ x y S hS
        obtain ⟨e, q⟩ := y
        subst e
        obtain rfl := at_map q hd
        have hd2 := hs.2 d (List.mem_of_getElem? hd)
        have hd5 : d.2.length ≤ 5 := by
          have hm : d.2 ∈ subsN i := by
            rw [← hb]
            exact List.mem_map_of_mem (List.mem_of_getElem? hd)
          exact ((subsN_is i _ hm).mono (by omega)).len
        refine hS _ rfl (evr_yes (roEx (Tt K))) fun _ H4 x4 Q4 k4 => ?_
        refine ⟨_, rfl, d.1, _, rfl, .inl (SqT.of ((hd2.ex x).ex x4)), _, rfl, ?_, fun t ht => ?_⟩
        · rw [List.length_append, List.length_map]
          exact Nat.le_trans (by show _ + 1 ≤ 10; omega) (by decide : 10 ≤ sizeLine)
        · refine k4 _ _ (Ex.new ht) ⟨t, rfl, ?_⟩
          unfold HT
          rw [upd_same, List.map_append]
          rfl
      · intro acc H2 x2 hD2 hp
        rw [filter_true] at hp
        obtain ⟨ns, rfl, g1, g2⟩ := paired_refs hp
        have hs2 := hs.ex x2
        have hnl : ns.length ≤ 32 := by
          have := congrArg List.length g2
          rw [List.length_map, List.length_map] at this
          omega
        refine ⟨D, _, rfl, .inr (SqL.of hD2), ?_, fun p hpn => ?_⟩
        · rw [List.append_nil, List.length_append, List.length_map, List.length_map]
          exact Nat.le_trans (by omega : _ ≤ 64) (by decide)
        rw [List.append_nil]
        refine ⟨p, bs ++ ns, _, rfl, (x1.trans x2).push hpn, ⟨by rw [upd_same, List.map_append], fun b hbm => ?_⟩, ?_⟩
        · refine HT.ex (T := Tt K) ?_ (Ex.new hpn)
          rcases List.mem_append.mp hbm with q | q
          · exact hs2.2 b q
          · exact g1 b q
        · rw [List.map_append, hb, g2]
          show _ = subsN i ++ (subsN i).map fun s => s ++ [(i : Int)]
          rw [← hb, List.map_map]
          rfl
    · rintro σ H1 ⟨l, bs, v2, rfl, x1, hs, hb⟩
      refine ⟨_, rfl, l, bs, rfl, x1.2 htab, hs.1, hs.2, fun H2 p bs' x2 hp hper => ?_⟩
      refine k _ p bs' (x1.trans x2) ⟨hp, fun b hb2 => (hs.2 b (hper.mem_iff.mp hb2)).ex x2⟩ ?_
      have := hper.map (·.2)
      rw [hb] at this
      exact this


abbrev N_law_sets : List Str := ["_law_marks", "_law_found", "_law_mark", "_law_one"]
theorem sc_law_sets : FnScope N_law_sets ["_law_marks"] (defScope sLSets) := ⟨rfl, rfl, rfl, by decide +kernel, rfl, by decide +kernel, by decide +kernel⟩
theorem c_law_sets (B : Gb K mg base) : C8.Cal P w K mg base 1 "_law_sets" (spSetsOf (Tt K)) [] := by
  have G := B.g
  refine calOfC G 25 rfl rfl sc_law_sets (fun _ _ _ _ _ _ us hl => match us, hl with | [_], _ => rfl) (fun vs H Q E h => ?_) (fun f cdv A outer s H vs Q E hc hr h => ?_)
  · obtain ⟨M, rfl, h0, h5, htab, k⟩ := h
    rfl
  · obtain ⟨M, rfl, h0, h5, htab, k⟩ := h
    have tb := B.tb ("_law_sets", none) (by simp [tfL])
    have hqual : (cxOf C8.CX0 P w K mg base N_law_sets "_law_sets" (defScope sLSets) f cdv A outer s H E).nox.env.qual ++ "<lambda>" = "_law_sets.<locals>.<lambda>" := by
      show (Str.ofString "_law_sets" ++ Str.ofString ".<locals>.") ++ Str.ofString "<lambda>" = Str.ofString "_law_sets.<locals>.<lambda>"
      decide +kernel
    have hmT : ((He.cT K ("_law_sets", none)).2, (cxOf C8.CX0 P w K mg base N_law_sets "_law_sets" (defScope sLSets) f cdv A outer s H E).nox.env.qual ++ "<lambda>") ∈ Tt K := by
      rw [hqual]
      simp [Tt]
    have huT : ∀ p ∈ Tt K, p.1 = (He.cT K ("_law_sets", none)).2 → p.2 = (cxOf C8.CX0 P w K mg base N_law_sets "_law_sets" (defScope sLSets) f cdv A outer s H E).nox.env.qual ++ "<lambda>" := by
      intro p hp e
      rw [hqual]
      rcases List.mem_cons.mp hp with q | q
      · rw [q] at e
        exact absurd e B.tn
      · rw [List.mem_singleton.mp q]
    refine ⟨_, (pss_cons (ps_set (i := 1) sc_law_sets.nd rfl (Or.inl rfl) (pe_lst (pa_cons (pe_tup pa_nil) pa_nil)))
      (pss_cons (ps_for PassesOwn.never rfl (pi_range1 (by rfl) G.b_range (pa_cons (pv 0) pa_nil)) (pg_name (i := 2) sc_law_sets.nd rfl (Or.inr rfl))
        (pss_one (ps_set (i := 1) sc_law_sets.nd rfl (Or.inl rfl) (pe_op op_cat (pv 1) (pe_lc (own := [("_law_one", 3)]) (g := gName 3) rfl sc_law_sets.nd (pi_list (pv 1)) (blkOk_by (own := [("_law_one", 3)]) (N := N_law_sets) (sc := defScope sLSets) (by decide +kernel)) (fun _ _ _ _ _ => (pg_name (i := 3) sc_law_sets.nd rfl (Or.inl rfl))) (fun _ _ _ _ _ => pts_nil) (fun _ _ _ _ _ => (pe_op (op_catK (K := K) rfl) (pv 3) (pe_tup (pa_cons (pv 2) pa_nil)))))))))
      (pss_one (ps_ret (pe_sortK (T := Tt K) hr (by rfl) G.b_sorted G.b_len (pv 1) tb (by rw [hc]; rfl) hmT huT rfl (by decide) (by decide) (fun _ _ _ _ _ _ => rfl)))))), ?_⟩
    refine ⟨by show 0 ≤ sizeLine; exact Nat.zero_le _, fun t ht => ?_⟩
    refine ⟨by show 1 ≤ sizeLine; decide, fun l hl => ?_⟩
    have x0 : Ex (Tt K) H (upd (upd H t (.tup [])) l (.lst [.ref t])) := (Ex.new ht).push hl
    have hM : (M.toNat : Int) = M := by omega
    refine ⟨_, rfl, M, rfl, by omega, by omega, ?_⟩
    refine for_it (n := M.toNat) walk_range (fun i σ H' => ∃ (l : Addr) (bs : List (Addr × List Int)) (v2 : Option V), σ = [some (.int M), some (.ref l), v2, none] ∧ Ex (Tt K) H H' ∧ Sts H' l bs ∧ bs.map (·.2) = subsN i)
      ⟨l, [(t, [])], none, rfl, x0, ⟨upd_same, fun b hb => ?_⟩, rfl⟩ (fun _ _ _ _ _ => trivial) ?_ ?_
    · rw [List.mem_singleton.mp hb]
      exact (Ex.new (T := Tt K) hl).tup upd_same
    · rintro i x σ H1 H1' hi ⟨l, bs, v2, rfl, x1, hs, hb⟩ ⟨rfl, rfl⟩
      have hlen : bs.length ≤ 32 := by
        have := subsN_len (n := i) (by omega)
        rw [← hb, List.length_map] at this
        exact this
      have e0 : (0 : Int) + (i : Int) = i := by omega
      dsimp only
      rw [e0]
      refine ⟨_, rfl, _, rfl, l, rfl, ⟨_, SqL.of hs.1⟩, fun D hD => ?_⟩
      refine lc_f (roEx (Tt K)) trivial (walk_list (xs := bs.map fun b => V.ref b.1)) (ds := bs) (by rw [List.length_map]) (by rw [List.length_map]; omega) hD (fun H2 x => SqL.of (x.lst hs.1)) (fun _ _ _ _ _ _ y => yat_ex y) (fun _ => true)
        (fun d v H' => ∃ b, v = V.ref b ∧ HT H' b (d.2 ++ [(i : Int)])) (fun d v H2 H3 im ⟨b, e, h⟩ => ⟨b, e, h.im im⟩) ?_ ?_
      · intro j d v H2 H3 hd _ x y S hS
        obtain ⟨e, q⟩ := y
        subst e
        obtain rfl := at_map q hd
        have hd2 := hs.2 d (List.mem_of_getElem? hd)
        have hd5 : d.2.length ≤ 5 := by
          have hm : d.2 ∈ subsN i := by
            rw [← hb]
            exact List.mem_map_of_mem (List.mem_of_getElem? hd)
          exact ((subsN_is i _ hm).mono (by omega)).len
        refine hS _ rfl (evr_yes (roEx (Tt K))) fun _ H4 x4 Q4 k4 => ?_
        refine ⟨_, rfl, _, rfl, by show 1 ≤ sizeLine; decide, fun t ht => ?_⟩
        have x5 : Ex (Tt K) H4 (upd H4 t (.tup [.int (i : Int)])) := Ex.new ht
        refine rCatA_any (K := K) (T := Tt K) (xs := d.2) (ys := [(i : Int)]) (((hd2.ex x).ex x4).ex x5) upd_same (by show _ + 1 ≤ 1000; omega) fun c H5 x6 hc => k4 _ _ (x5.trans x6) ⟨c, rfl, hc⟩
      · intro acc H2 x2 hD2 hp
        rw [filter_true] at hp
        obtain ⟨ns, rfl, g1, g2⟩ := paired_refs hp
        have hs2 := hs.ex x2
        have hnl : ns.length ≤ 32 := by
          have := congrArg List.length g2
          rw [List.length_map, List.length_map] at this
          omega
        refine ⟨l, D, _, _, rfl, rfl, hs2.1, hD2, ?_, fun p hpn => ?_⟩
        · rw [List.length_map, List.length_map]
          exact Nat.le_trans (by omega : _ ≤ 64) (by decide)
        refine ⟨p, bs ++ ns, _, rfl, (x1.trans x2).push hpn, ⟨by rw [upd_same, List.map_append], fun b hbm => ?_⟩, ?_⟩
        · refine HT.ex (T := Tt K) ?_ (Ex.new hpn)
          rcases List.mem_append.mp hbm with q | q
          · exact hs2.2 b q
          · exact g1 b q
        · rw [List.map_append, hb, g2]
          show _ = subsN i ++ (subsN i).map fun s => s ++ [(i : Int)]
          rw [← hb, List.map_map]
          rfl
    · rintro σ H1 ⟨l, bs, v2, rfl, x1, hs, hb⟩
      refine ⟨_, rfl, x1.2 htab, l, bs, rfl, hs.1, hs.2, fun H2 p bs' x2 hpn hper => ?_⟩
      refine k _ p bs' ((x1.trans x2).push hpn) ⟨upd_same, fun b hb2 => ((hs.2 b (hper.mem_iff.mp hb2)).ex x2).ex (T := Tt K) (Ex.new hpn)⟩ ?_
      have := hper.map (·.2)
      rw [hb] at this
      exact this


end
end Pb
set_option Elab.async false
set_option linter.all false
set_option maxRecDepth 100000
set_option maxHeartbeats 4000000
namespace Pb
open PySem PySem.Spec PyProof.Rows L2
/-- a book, a set and prices in the heap -/
structure Pr (K : PySem.W.Frag) (H : Hp) (b a pr : Addr) (M : Int) (rs : List Ru) (th ws : List Int) : Prop where
  bk : Bk K H b M rs
  ht : HT H a th
  hp : HT H pr ws
  m1 : 1 ≤ M
  m5 : M ≤ 5
  hth : IsS M th
  nr : rs.length ≤ 16
  hr : ∀ r ∈ rs, IsS M r.1 ∧ IsS M r.2
  nw : ws.length = rs.length
  hw : ∀ w ∈ ws, 1 ≤ w ∧ w ≤ 9
section
variable {K : PySem.W.Frag} {T : Tb} {H H' : Hp} {b a pr : Addr} {M : Int} {rs : List Ru} {th ws : List Int}
theorem Pr.ex (p : Pr K H b a pr M rs th ws) (x : Ex T H H') : Pr K H' b a pr M rs th ws := { p with bk := p.bk.ex x, ht := p.ht.ex x, hp := p.hp.ex x }
theorem Pr.ok (p : Pr K H b a pr M rs th ws) : RsOk M (rs.zip ws) := fun r hr => by
  have h := List.of_mem_zip (a := r.1) (b := r.2) hr
  exact ⟨(p.hr _ h.1).1, (p.hr _ h.1).2, (p.hw _ h.2).1, (p.hw _ h.2).2⟩
theorem Pr.fst (p : Pr K H b a pr M rs th ws) : (rs.zip ws).map (·.1) = rs := by
  rw [List.map_fst_zip]
  rw [p.nw]
  exact Nat.le_refl _
theorem Pr.len (p : Pr K H b a pr M rs th ws) : (rs.zip ws).length = rs.length := by
  rw [List.length_zip, p.nw]
  omega
theorem Pr.at_ (p : Pr K H b a pr M rs th ws) {i : Nat} {r : Ru} (h : rs[i]? = some r) : ∃ w, ws[i]? = some w ∧ (rs.zip ws)[i]? = some (r, w) := by
  have hi := (List.getElem?_eq_some_iff.mp h).1
  have hw : ws[i]? = some (ws[i]'(by rw [p.nw]; exact hi)) := List.getElem?_eq_getElem _
  exact ⟨_, hw, by rw [List.getElem?_zip_eq_some]; exact ⟨h, hw⟩⟩
end
def wS (wd : Bool) : Str := if wd = true then "sum" else "most"
/-- .. read, though it may be locked -/
def KR (H : Hp) (d : Addr) (t : List (Int × Int)) : Prop := Rd H d (.dK (dk t))
theorem KR.ex {T : Tb} {H H' : Hp} {d : Addr} {t : List (Int × Int)} (h : KR H d t) (x : Ex T H H') : KR H' d t := x.rd h (fun _ z => by cases z)
theorem dget_kr {H : Hp} {d : Addr} {t : List (Int × Int)} {m v : Int} (h : KR H d t) (e : lk t m = some v) : DGet H d (.int m) (some (.int v)) :=
  .inl ⟨_, kI m, h, rfl, by rw [valV_dk, e]; rfl⟩
theorem dget_kd {H : Hp} {d : Addr} {t : List (Int × Int)} {m v : Int} (h : KD H d t) (e : lk t m = some v) : DGet H d (.int m) (some (.int v)) := dget_kr (.inl h) e
theorem fmax_eq {ns : List Int} {m : Int} (hm : m ∈ ns) (h : ∀ y ∈ ns, y ≤ m) (h0 : 0 ≤ m) : ns.foldl max 0 = m := by
  obtain ⟨h1, h2, h3⟩ := foldMax 0 ns
  have := h3 m hm
  rcases h1 with e | e
  · omega
  · have := h _ e
    omega
end Pb
set_option Elab.async false
set_option linter.all false
set_option maxRecDepth 100000
set_option maxHeartbeats 4000000

namespace Pb
open PySem PySem.Spec PyProof.Rows L2
section
variable {P : Program} {w : World} {K : PySem.W.Frag} {mg : Str → Option Value} {base : Heap} {T : Tb}

def spCheckBill (T : Tb) (K : PySem.W.Frag) : Sp := fun vs H Q _ => ∃ (b a pr : Addr) (M : Int) (rs : List Ru) (th ws : List Int), vs = [.ref b, .ref a, .ref pr] ∧ Pr K H b a pr M rs th ws ∧ ∀ H', Ex T H H' → Q .non H'
def spCheckCosts (T : Tb) (K : PySem.W.Frag) : Sp := fun vs H Q _ => ∃ (b a pr : Addr) (wd : Bool) (M : Int) (rs : List Ru) (th ws : List Int), vs = [.ref b, .ref a, .ref pr, .str (wS wd)] ∧ Pr K H b a pr M rs th ws ∧ ∀ H', Ex T H H' → Q .non H'
def spPaid (T : Tb) : Sp := fun vs H Q _ => ∃ (d a : Addr) (w : Int) (wd : Bool) (t : List (Int × Int)) (p : List Int), vs = [.ref d, .ref a, .int w, .str (wS wd)] ∧ KR H d t ∧ HT H a p ∧ p.length ≤ 100 ∧ ap (lk t) p ∧ (∀ m ∈ p, 0 ≤ gv (lk t) m) ∧ ∀ H', Ex T H H' → Q (.int (pay wd (lk t) p w)) H'

abbrev N_check_bill : List Str := ["book", "thing", "prices", "price"]
theorem sc_check_bill : FnScope N_check_bill ["book", "thing", "prices"] (defScope sCheckBill) := ⟨rfl, rfl, rfl, by decide +kernel, rfl, by decide +kernel, by decide +kernel⟩
theorem c_check_bill (G : Gx K mg) : C8.Cal P w K mg base 4 "check_bill" (spCheckBill T K) [] := by
  refine calOf G 10 rfl rfl sc_check_bill (fun _ _ _ _ _ _ us hl => match us, hl with | [_, _, _], _ => rfl) (fun vs H Q E h => ?_) (fun f cdv A outer s H vs Q E hr h => ?_)
  · obtain ⟨b, a, pr, M, rs, th, ws, rfl, hP, k⟩ := h
    rfl
  · obtain ⟨b, a, pr, M, rs, th, ws, rfl, hP, k⟩ := h
    refine ⟨_, (pss_cons (ps_expr (C8.pe_c (c_check_book (T := T) G) hr (by decide) (by rfl) (pa_cons (pv 0) pa_nil)))
      (pss_cons (ps_expr (C8.pe_c (c_check_set (T := T) G) hr (by decide) (by rfl) (pa_cons (pe_slK (K := K) rfl (pv 0)) (pa_cons (pv 1) pa_nil))))
      (pss_cons (ps_if (PW.pt (pw_or (pt_not (pt_val (pe_callB call_isi (by rfl) G.b_isinstance (by decide +kernel) (pa_cons (pv 2) (pa_cons (pe_bltn (v := .ty "tuple") (by rfl) G.b_tuple (by decide +kernel) rfl) pa_nil))))) (pw_or1 (pt_cmpR op_ne (pe_callB call_len_seq (by rfl) G.b_len (by decide +kernel) (pa_cons (pv 2) pa_nil)) (pe_callB (lenB (T := T) G rfl rfl hr (by decide)) (by rfl) G.b_len (by decide +kernel) (pa_cons (pv 0) pa_nil)) (nomark _)))))
        (pss_one ps_never) pss_nil)
      (pss_one (ps_if (pt_not (pt_val (pe_callB (cr_all rfl) (by rfl) G.b_all (by decide +kernel) (pa_cons (pe_lc (own := [("price", 3)]) (g := gName 3) rfl sc_check_bill.nd (pi_tup (pv 2)) (blkOk_by (own := [("price", 3)]) (N := N_check_bill) (sc := defScope sCheckBill) (by decide +kernel)) (fun _ _ _ _ _ => (pg_name (i := 3) sc_check_bill.nd rfl (Or.inl rfl))) (fun _ _ _ _ _ => pts_nil) (fun _ _ _ _ _ => (C8.pe_c (c_is_integer (T := T) G) hr (by decide) (by rfl) (pa_cons (pv 3) (pa_cons pe_int (pa_cons (C8.pe_gc (by rfl) G.v_most_price) pa_nil)))))) pa_nil))))
        (pss_one ps_never) pss_nil))))), ?_⟩
    refine ⟨_, rfl, b, M, rs, rfl, hP.bk, fun H1 x1 => ?_⟩
    have hP1 := hP.ex x1
    obtain ⟨dx, r, hsl, _⟩ := hP1.bk
    refine ⟨_, rfl, b, _, dx, _, _, 0, _, rfl, hsl, G.sclsB, G.slM, rfl, _, rfl, M, a, th, rfl, hP1.ht, hP.hth, hP.m5, fun H2 x2 => ?_⟩
    have hP2 := hP1.ex x2
    refine ⟨_, rfl, _, _, _, _, _, rfl, .ty "tuple", .base (.tup hP2.hp), kit_ty (by decide +kernel), true, rfl, iteF ?_⟩
    refine ⟨_, rfl, pr, _, rfl, .inr (SqT.of hP2.hp), _, rfl, rLenB (T := T) hP2.bk (by have := hP.nr; omega) fun H3 x3 => ⟨rfl, _, rfl, ?_⟩⟩
    have hP3 := hP2.ex x3
    rw [List.length_map, hP.nw, decide_eq_true rfl]
    refine iteF ?_
    refine ⟨_, rfl, pr, rfl, ⟨_, SqT.of hP3.hp⟩, fun D hD => ?_⟩
    refine lc_bl (T := T) (ds := ws) (b := fun m => decide (1 ≤ m ∧ m ≤ 9)) (walk_tup (xs := ws.map V.int)) (by rw [List.length_map]) (by rw [List.length_map]; have := hP.nw; have := hP.nr; omega) hD (fun H1 x => SqT.of (hP3.hp.ex x)) (fun _ _ _ _ _ _ y => yat_ex y) ?_ ?_
    · intro i d v H1 H2 hd _ x y S hS
      obtain ⟨e, q⟩ := y
      subst e
      obtain rfl := at_map q hd
      exact hS _ rfl fun H3 x3 Q3 k3 => ⟨_, rfl, d, 1, 9, rfl, k3 _ _ (Ex.refl T H3) rfl⟩
    · intro H4 x4 hD4
      have e1 : (ws.map fun m => decide (1 ≤ m ∧ m ≤ 9)).all id = true := by
        rw [all_id, List.all_eq_true]
        intro m hm
        exact decide_eq_true (hP.hw m hm)
      exact ⟨D, _, rfl, SqL.of hD4, true, by rw [e1], iteF (k _ (((x1.trans x2).trans x3).trans x4))⟩


abbrev N_check_costs : List Str := ["book", "thing", "prices", "word"]
theorem sc_check_costs : FnScope N_check_costs ["book", "thing", "prices", "word"] (defScope sCheckCosts) := ⟨rfl, rfl, rfl, by decide +kernel, rfl, by decide +kernel, by decide +kernel⟩
theorem c_check_costs (G : Gx K mg) : C8.Cal P w K mg base 5 "check_costs" (spCheckCosts T K) [] := by
  refine calOf G 11 rfl rfl sc_check_costs (fun _ _ _ _ _ _ us hl => match us, hl with | [_, _, _, _], _ => rfl) (fun vs H Q E h => ?_) (fun f cdv A outer s H vs Q E hr h => ?_)
  · obtain ⟨b, a, pr, wd, M, rs, th, ws, rfl, hP, k⟩ := h
    rfl
  · obtain ⟨b, a, pr, wd, M, rs, th, ws, rfl, hP, k⟩ := h
    obtain ⟨wa, hw1, hw2⟩ := G.words
    refine ⟨_, (pss_cons (ps_expr (C8.pe_c (c_check_bill (T := T) G) hr (by decide) (by rfl) (pa_cons (pv 0) (pa_cons (pv 1) (pa_cons (pv 2) pa_nil)))))
      (pss_one (ps_if (PW.pt (pw_or (pt_not (pt_val (pe_callB call_isi (by rfl) G.b_isinstance (by decide +kernel) (pa_cons (pv 3) (pa_cons (pe_bltn (v := .ty "str") (by rfl) G.b_str (by decide +kernel) rfl) pa_nil))))) (pw_or1 (pt_cmpR (op_notInK (K := K) rfl) (pv 3) (C8.pe_gc (v := .ref wa) (by rfl) ⟨_, hw1, rfl⟩) (by rfl)))))
        (pss_one ps_never) pss_nil))), ?_⟩
    refine ⟨_, rfl, _, rfl, _, rfl, b, a, pr, M, rs, th, ws, rfl, hP, fun H1 x1 => ?_⟩
    refine ⟨_, rfl, _, _, _, _, _, rfl, .ty "str", .base (.str _), kit_ty (by decide +kernel), true, rfl, iteF ?_⟩
    refine ⟨_, rfl, wa, _, rfl, .inr (hw2 H1), rfl, rfl, false, ?_, iteF (k _ x1)⟩
    cases wd <;> decide +kernel


abbrev N_paid : List Str := ["costs", "premise", "price", "word", "rows", "mark"]
theorem sc_paid : FnScope N_paid ["costs", "premise", "price", "word"] (defScope sPaid) := ⟨rfl, rfl, rfl, by decide +kernel, rfl, by decide +kernel, by decide +kernel⟩
theorem c_paid (G : Gx K mg) : C8.Cal P w K mg base 1 "paid" (spPaid T) [] := by
  refine calOf G 12 rfl rfl sc_paid (fun _ _ _ _ _ _ us hl => match us, hl with | [_, _, _, _], _ => rfl) (fun vs H Q E h => ?_) (fun f cdv A outer s H vs Q E hr h => ?_)
  · obtain ⟨d, a, w, wd, t, p, rfl, hd, ha, hl, hap, h0, k⟩ := h
    rfl
  · obtain ⟨d, a, w, wd, t, p, rfl, hd, ha, hl, hap, h0, k⟩ := h
    have hu := hu_of hr
    refine ⟨_, (pss_cons (ps_setLc (i := 4) (own := [("mark", 5)]) (g := gName 5) rfl sc_paid.nd rfl rfl (sw_true rfl rfl rfl (by decide +kernel)) (pi_tup (pv 1)) (blkOk_by (own := [("mark", 5)]) (N := N_paid) (sc := defScope sPaid) (by decide +kernel)) (fun _ _ _ _ _ => (pg_name (i := 5) sc_paid.nd rfl (Or.inl rfl))) (fun _ _ _ _ _ => pts_nil) (fun _ _ _ _ _ => (pe_dget hu (pv 0) (pv 5) (fun _ _ => rfl))))
      (pss_one (ps_ret (pe_op op_add (pv 2) (pe_ifExp (pt_cmpR op_eq (pv 3) pe_str (nomark _)) (pe_callB (cr_sum rfl) (by rfl) G.b_sum (by decide +kernel) (pa_cons (pv 4) pa_nil)) (pe_callBK (cr_maxD rfl hu) (by rfl) G.b_max (by decide +kernel) (pa_cons (pv 4) pa_nil) (pk_cons pe_int pk_nil))))))), ?_⟩
    have hl2 : p.length ≤ 10000 := by omega
    refine ⟨_, rfl, a, rfl, ⟨_, SqT.of ha⟩, fun D hD => ?_⟩
    refine lc_all (T := T) (ds := p) (k := fun m => V.int (gv (lk t) m)) (walk_tup (xs := p.map V.int)) (by rw [List.length_map]) (by rw [List.length_map]; exact hl2) hD (fun H1 x => SqT.of (ha.ex x)) (fun _ _ _ _ _ _ y => yat_ex y) ?_ ?_
    · intro i d v H1 H2 hd0 _ x y S hS
      obtain ⟨e, q⟩ := y
      subst e
      obtain rfl := at_map q hd0
      refine hS _ rfl fun H3 x3 Q3 k3 => ?_
      have e1 := isSome_gv (hap d (List.mem_of_getElem? hd0))
      exact ⟨_, rfl, _, rfl, _, _, rfl, dget_kr (t := t) (hd.ex (x.trans x3)) e1, k3 _ _ (Ex.refl T H3) rfl⟩
    · intro H1 x1 hD1
      have hD1 : H1 D = some (.lst ((p.map (gv (lk t))).map V.int)) := by rw [hD1, List.map_map]; rfl
      have hnn : ∀ y ∈ p.map (gv (lk t)), 0 ≤ y := fun y hy => by
        obtain ⟨m, hm, rfl⟩ := List.mem_map.mp hy
        exact h0 m hm
      refine ⟨_, rfl, _, rfl, rfl, _, rfl, ?_⟩
      unfold pay at k
      cases wd with
      | true =>
        refine iteT ?_
        refine ⟨_, rfl, D, _, rfl, SqL.of hD1, _, _, rfl, rfl, ?_⟩
        exact k _ x1
      | false =>
        refine iteF ?_
        refine ⟨_, rfl, D, _, 0, rfl, rfl, SqL.of hD1, fun e => ⟨_, _, rfl, rfl, ?_⟩, fun m hm hall => ⟨_, _, rfl, rfl, ?_⟩⟩
        · have := k _ x1
          rw [if_neg (by decide), e] at this
          exact this
        · have := k _ x1
          rw [if_neg (by decide), fmax_eq hm hall (hnn m hm)] at this
          exact this


abbrev N_law_paid : List Str := ["_law_table", "_law_first", "_law_price", "_law_word", "_law_rows", "_law_mark"]
theorem sc_law_paid : FnScope N_law_paid ["_law_table", "_law_first", "_law_price", "_law_word"] (defScope sLPaid) := ⟨rfl, rfl, rfl, by decide +kernel, rfl, by decide +kernel, by decide +kernel⟩
theorem c_law_paid (G : Gx K mg) : C8.Cal P w K mg base 1 "_law_paid" (spPaid T) [] := by
  refine calOf G 30 rfl rfl sc_law_paid (fun _ _ _ _ _ _ us hl => match us, hl with | [_, _, _, _], _ => rfl) (fun vs H Q E h => ?_) (fun f cdv A outer s H vs Q E hr h => ?_)
  · obtain ⟨d, a, w, wd, t, p, rfl, hd, ha, hl, hap, h0, k⟩ := h
    rfl
  · obtain ⟨d, a, w, wd, t, p, rfl, hd, ha, hl, hap, h0, k⟩ := h
    have hu := hu_of hr
    refine ⟨_, (pss_cons (ps_setLc (i := 4) (own := [("_law_mark", 5)]) (g := gName 5) rfl sc_law_paid.nd rfl rfl (sw_true rfl rfl rfl (by decide +kernel)) (pi_tup (pv 1)) (blkOk_by (own := [("_law_mark", 5)]) (N := N_law_paid) (sc := defScope sLPaid) (by decide +kernel)) (fun _ _ _ _ _ => (pg_name (i := 5) sc_law_paid.nd rfl (Or.inl rfl))) (fun _ _ _ _ _ => pts_nil) (fun _ _ _ _ _ => (pe_dget hu (pv 0) (pv 5) (fun _ _ => rfl))))
      (pss_one (ps_ret (pe_op op_add (pv 2) (pe_ifExp (pt_cmpR op_eq (pv 3) pe_str (nomark _)) (pe_callB (cr_sum rfl) (by rfl) G.b_sum (by decide +kernel) (pa_cons (pv 4) pa_nil)) (pe_callB (cr_max rfl) (by rfl) G.b_max (by decide +kernel) (pa_cons (pe_op op_cat (pv 4) (pe_lst (pa_cons pe_int pa_nil))) pa_nil))))))), ?_⟩
    have hl2 : p.length ≤ 10000 := by omega
    refine ⟨_, rfl, a, rfl, ⟨_, SqT.of ha⟩, fun D hD => ?_⟩
    refine lc_all (T := T) (ds := p) (k := fun m => V.int (gv (lk t) m)) (walk_tup (xs := p.map V.int)) (by rw [List.length_map]) (by rw [List.length_map]; exact hl2) hD (fun H1 x => SqT.of (ha.ex x)) (fun _ _ _ _ _ _ y => yat_ex y) ?_ ?_
    · intro i d v H1 H2 hd0 _ x y S hS
      obtain ⟨e, q⟩ := y
      subst e
      obtain rfl := at_map q hd0
      refine hS _ rfl fun H3 x3 Q3 k3 => ?_
      have e1 := isSome_gv (hap d (List.mem_of_getElem? hd0))
      exact ⟨_, rfl, _, rfl, _, _, rfl, dget_kr (t := t) (hd.ex (x.trans x3)) e1, k3 _ _ (Ex.refl T H3) rfl⟩
    · intro H1 x1 hD1
      have hD1 : H1 D = some (.lst ((p.map (gv (lk t))).map V.int)) := by rw [hD1, List.map_map]; rfl
      have hnn : ∀ y ∈ p.map (gv (lk t)), 0 ≤ y := fun y hy => by
        obtain ⟨m, hm, rfl⟩ := List.mem_map.mp hy
        exact h0 m hm
      refine ⟨_, rfl, _, rfl, rfl, _, rfl, ?_⟩
      unfold pay at k
      cases wd with
      | true =>
        refine iteT ?_
        refine ⟨_, rfl, D, _, rfl, SqL.of hD1, _, _, rfl, rfl, ?_⟩
        exact k _ x1
      | false =>
        refine iteF ?_
        refine ⟨_, rfl, by show 1 ≤ sizeLine; decide, fun l hln => ?_⟩
        have hD2 : upd H1 l (.lst [.int 0]) D = some (.lst ((p.map (gv (lk t))).map V.int)) := by rw [upd_ne (ne_of_none hD1 hln)]; exact hD1
        refine ⟨D, l, _, _, rfl, rfl, hD2, upd_same, ?_, fun p2 hp2 => ?_⟩
        · rw [List.length_map, List.length_map]
          exact Nat.le_trans (by show _ + 1 ≤ 10001; omega) (by decide : 10001 ≤ sizeLine)
        have hcat : (p.map (gv (lk t))).map V.int ++ [V.int 0] = (p.map (gv (lk t)) ++ [0]).map V.int := by rw [List.map_append]; rfl
        rw [hcat]
        refine ⟨p2, _, rfl, SqL.of upd_same, by rw [List.length_append]; simp, fun m hm hall => ⟨_, _, rfl, rfl, ?_⟩⟩
        have x2 := (x1.push hln (o := .lst [.int 0])).push hp2 (o := .lst ((p.map (gv (lk t)) ++ [0]).map V.int))
        have := k _ x2
        have em : (p.map (gv (lk t))).foldl max 0 = m := by
          have h0m := hall 0 (by simp)
          rcases List.mem_append.mp hm with q | q
          · exact fmax_eq q (fun y hy => hall y (List.mem_append_left _ hy)) h0m
          · have e0 : m = 0 := by simpa using q
            obtain ⟨f1, f2, f3⟩ := foldMax 0 (p.map (gv (lk t)))
            rcases f1 with f1 | f1
            · omega
            · have := hall _ (List.mem_append_left _ f1)
              omega
        rw [if_neg (by decide), em] at this
        exact this


abbrev N_law_within : List Str := ["_law_one", "_law_other", "_law_mark"]
theorem sc_law_within : FnScope N_law_within ["_law_one", "_law_other"] (defScope sLWithin) := ⟨rfl, rfl, rfl, by decide +kernel, rfl, by decide +kernel, by decide +kernel⟩
theorem c_law_within (G : Gx K mg) : C8.Cal P w K mg base 1 "_law_within" (spIsWithin T K) [] := by
  refine calOf G 26 rfl rfl sc_law_within (fun _ _ _ _ _ _ us hl => match us, hl with | [_, _], _ => rfl) (fun vs H Q E h => ?_) (fun f cdv A outer s H vs Q E hr h => ?_)
  · obtain ⟨a, b, xs, fn, rfl, ha, hl, hb, k⟩ := h
    rfl
  · obtain ⟨a, b, xs, fn, rfl, ha, hl, hb, k⟩ := h
    have hu := hu_of hr
    refine ⟨_, (pss_one (ps_ret (pe_callB (cr_all rfl) (by rfl) G.b_all (by decide +kernel) (pa_cons (pe_lc (own := [("_law_mark", 2)]) (g := gName 2) rfl sc_law_within.nd (pi_tup (pv 0)) (blkOk_by (own := [("_law_mark", 2)]) (N := N_law_within) (sc := defScope sLWithin) (by decide +kernel)) (fun _ _ _ _ _ => (pg_name (i := 2) sc_law_within.nd rfl (Or.inl rfl))) (fun _ _ _ _ _ => pts_nil) (fun _ _ _ _ _ => (pe_cmpR (op_inK (K := K) hu rfl) (pv 2) (pv 1) (by rfl)))) pa_nil)))), ?_⟩
    refine ⟨_, rfl, a, rfl, ⟨_, SqT.of ha⟩, fun D hD => ?_⟩
    refine lc_bl (T := T) (ds := xs) (b := fn) walk_tup (by rw [List.length_map]) (by rw [List.length_map]; omega) hD (fun H1 x => SqT.of (ha.ex x)) (fun _ _ _ _ _ _ y => yat_ex y) ?_ ?_
    · intro i d v H1 H2 hd _ x y S hS
      obtain ⟨e, q⟩ := y
      subst e
      obtain rfl := at_map q hd
      refine hS _ rfl fun H3 x3 Q3 k3 => ?_
      refine ⟨_, rfl, _, rfl, Mem.in_ ((hb.ex x).ex x3) ?_⟩
      exact k3 _ _ (Ex.refl T H3) rfl
    · intro H1 x1 hD1
      refine ⟨D, _, rfl, SqL.of hD1, ?_⟩
      rw [all_id]
      exact k _ x1


abbrev N_law_joined : List Str := ["_law_one", "_law_other", "_law_mark"]
theorem sc_law_joined : FnScope N_law_joined ["_law_one", "_law_other"] (defScope sLJoined) := ⟨rfl, rfl, rfl, by decide +kernel, rfl, by decide +kernel, by decide +kernel⟩
theorem c_law_joined (G : Gx K mg) : C8.Cal P w K mg base 1 "_law_joined" (spJoined T) [] := by
  refine calOf G 29 rfl rfl sc_law_joined (fun _ _ _ _ _ _ us hl => match us, hl with | [_, _], _ => rfl) (fun vs H Q E h => ?_) (fun f cdv A outer s H vs Q E hr h => ?_)
  · obtain ⟨a, b, xs, ys, rfl, ha, hb, hs, ht, k⟩ := h
    rfl
  · obtain ⟨a, b, xs, ys, rfl, ha, hb, hs, ht, k⟩ := h
    refine ⟨_, (pss_one (ps_ret (pe_callTy call_tuple_of (by rfl) G.b_tuple (by decide +kernel) (pa_cons (pe_callB cr_sortedI (by rfl) G.b_sorted (by decide +kernel) (pa_cons (pe_op op_cat (pe_callTy call_list_of (by rfl) G.b_list (by decide +kernel) (pa_cons (pv 0) pa_nil)) (pe_lc (own := [("_law_mark", 2)]) (g := gName 2) rfl sc_law_joined.nd (pi_tup (pv 1)) (blkOk_by (own := [("_law_mark", 2)]) (N := N_law_joined) (sc := defScope sLJoined) (by decide +kernel)) (fun _ _ _ _ _ => (pg_name (i := 2) sc_law_joined.nd rfl (Or.inl rfl))) (fun _ _ _ _ _ => pts_one (pt_cmpR (op_notInK (K := K) rfl) (pv 2) (pv 0) (by rfl))) (fun _ _ _ _ _ => (pv 2)))) pa_nil)) pa_nil)))), ?_⟩
    have l1 := hs.len
    have l2 := ht.len
    refine ⟨_, rfl, a, _, rfl, .inr (SqT.of ha), fun l hln => ?_⟩
    have x0 : Ex T H (upd H l (.lst (xs.map V.int))) := Ex.new hln
    refine ⟨_, rfl, b, rfl, ⟨_, SqT.of (hb.ex x0)⟩, fun D hD => ?_⟩
    refine lc_val (T := T) (ds := ys) (f := fun m => !decide (m ∈ xs)) (k := V.int) (walk_tup (xs := ys.map V.int)) (by rw [List.length_map]) (by rw [List.length_map]; omega) hD (fun H1 x => SqT.of ((hb.ex x0).ex x)) (fun _ _ _ _ _ _ y => yat_ex y) ?_ ?_
    · intro i d v H1 H2 hd _ x y S hS
      obtain ⟨e, q⟩ := y
      subst e
      obtain rfl := at_map q hd
      refine hS _ rfl (fun H3 x3 Q3 k3 => ?_) (fun _ H3 x3 Q3 k3 => ⟨_, rfl, k3 _ _ (Ex.refl T H3) rfl⟩)
      refine ⟨_, rfl, _, rfl, a, _, rfl, .inr (SqT.of (((ha.ex x0).ex x).ex x3)), rfl, flat_ints xs, _, rfl, ?_⟩
      refine k3 _ _ (Ex.refl T H3) ?_
      show (!inV (V.int d) (xs.map V.int)) = _
      rw [inV_int]
    · intro H1 x1 hD1
      have hl1 := x1.lst (upd_same (H := H) (a := l) (o := .lst (xs.map V.int)))
      refine ⟨l, D, _, _, rfl, rfl, hl1, hD1, ?_, fun p hpn => ?_⟩
      · have := List.length_filter_le (fun m => !decide (m ∈ xs)) ys
        rw [List.length_map, List.length_map]
        exact Nat.le_trans (by omega : _ ≤ 10) (by decide)
      rw [← List.map_append]
      refine ⟨p, _, rfl, SqL.of upd_same, fun zs q hz hs2 hqn => ?_⟩
      refine ⟨q, _, rfl, .inl ⟨SqL.of upd_same, fun t htn => ?_⟩⟩
      have hnd : (xs ++ ys.filter fun m => !decide (m ∈ xs)).Nodup := by
        rw [List.nodup_append]
        refine ⟨asc_nodup hs.2, (asc_nodup ht.2).filter _, fun x hx y hy e => ?_⟩
        have := (List.mem_filter.mp hy).2
        rw [← e] at this
        simp [hx] at this
      have e : zs = jn xs ys := by
        refine asc_ext (asc_of_perm hz hnd hs2) (asc_f _) fun m => ?_
        rw [hz.mem_iff, mem_jn hs ht, List.mem_append, List.mem_filter]
        by_cases h : m ∈ xs
        · exact ⟨fun _ => .inl h, fun _ => .inl h⟩
        · simp [h]
      subst e
      exact k _ t ((((x0.trans x1).push hpn).push hqn).push htn) upd_same


end
end Pb
set_option Elab.async false
set_option linter.all false
set_option maxRecDepth 100000
set_option maxHeartbeats 4000000
namespace Pb
open PySem PySem.Spec PyProof.Rows L2
/-- a paper of costs -/
def CoA (K : PySem.W.Frag) (H : Hp) (c : Addr) (t us : List (Int × Int)) : Prop := ∃ dx p q, H c = some (.ins (He.ga K "Costs") dx [("costs", .ref p), ("uses", .ref q)]) ∧ KD H p t ∧ KD H q us
theorem CoA.ex {K : PySem.W.Frag} {T : Tb} {H H' : Hp} {c : Addr} {t us : List (Int × Int)} (h : CoA K H c t us) (x : Ex T H H') : CoA K H' c t us := by
  obtain ⟨dx, p, q, h1, h2, h3⟩ := h
  exact ⟨dx, p, q, x.ins h1, x.dK h2, x.dK h3⟩
theorem KD.ex {T : Tb} {H H' : Hp} {d : Addr} {t : List (Int × Int)} (h : KD H d t) (x : Ex T H H') : KD H' d t := x.dK h
end Pb
set_option Elab.async false
set_option linter.all false
set_option maxRecDepth 100000
set_option maxHeartbeats 4000000

namespace Pb
open PySem PySem.Spec PyProof.Rows L2
section
variable {P : Program} {w : World} {K : PySem.W.Frag} {mg : Str → Option Value} {base : Heap} {T : Tb}

def spCostsInit (T : Tb) (K : PySem.W.Frag) : Sp := fun vs H Q _ => ∃ (x dx a b : Addr) (t us : List (Int × Int)), vs = [.ref x, .ref a, .ref b] ∧ H x = some (.ins (He.ga K "Costs") dx []) ∧ KD H a t ∧ KD H b us ∧ ∀ H', Eb T [x] H H' → CoA K H' x t us → Q .non H'
def spIsLeast (T : Tb) (K : PySem.W.Frag) : Sp := fun vs H Q _ => ∃ (c b a pr : Addr) (wd : Bool) (M : Int) (rs : List Ru) (th ws : List Int) (t us : List (Int × Int)), vs = [.ref c, .ref b, .ref pr, .str (wS wd)] ∧ CoA K H c t us ∧ Pr K H b a pr M rs th ws ∧ NN (lk t) ∧
  (∀ r ∈ rs, ap (lk t) r.1 → ap (lk t) r.2) ∧ ∀ H', Ex T H H' → Q (.bl (leastB (rs.zip ws) wd (lk t))) H'
def spIsPaid (T : Tb) (K : PySem.W.Frag) : Sp := fun vs H Q _ => ∃ (c b a pr : Addr) (wd : Bool) (m : Int) (M : Int) (rs : List Ru) (th ws : List Int) (t us : List (Int × Int)), vs = [.ref c, .ref b, .ref pr, .str (wS wd), .int m] ∧ CoA K H c t us ∧ Pr K H b a pr M rs th ws ∧ NN (lk t) ∧
  (lk us m).isSome = true ∧ (lk t m).isSome = true ∧ ∀ H', Ex T H H' → Q (.bl (paidB (rs.zip ws) wd (lk t) us m)) H'

abbrev N_Costs_init : List Str := ["self", "costs", "uses"]
theorem sc_Costs_init : FnScope N_Costs_init ["self", "costs", "uses"] (defScope sCostsInit) := ⟨rfl, rfl, rfl, by decide +kernel, rfl, by decide +kernel, by decide +kernel⟩
theorem f_Costs_init (G : Gx K mg) : ∃ fd, FnOk P w K mg base C8.CX0 1 (He.ma K (He.ga K "Costs") "__init__") fd ["self", "costs", "uses"] (spCostsInit T K) ∧ Binds K fd ["self", "costs", "uses"] [] := by
  refine fnOf G 40 rfl sc_Costs_init (fun _ _ _ _ _ _ us hl => match us, hl with | [_, _, _], _ => rfl) (fun vs H Q E h => ?_) (fun f cdv A outer s H vs Q E hr h => ?_)
  · obtain ⟨x, dx, a, b, t, us, rfl, hx, ha, hb, k⟩ := h
    rfl
  · obtain ⟨x, dx, a, b, t, us, rfl, hx, ha, hb, k⟩ := h
    refine ⟨_, (pss_cons (ps_fld (pv 0) (pe_callTy call_dictD (by rfl) G.b_dict (by decide +kernel) (pa_cons (pv 1) pa_nil)) rfl)
      (pss_one (ps_fld (pv 0) (pe_callTy call_dictD (by rfl) G.b_dict (by decide +kernel) (pa_cons (pv 2) pa_nil)) rfl))), ?_⟩
    refine ⟨_, rfl, a, _, rfl, .inl ha, fun p hp => ?_⟩
    have x1 : Ex T H (upd H p (.dK (dk t))) := Ex.new hp
    refine ⟨_, rfl, x, _, dx, _, rfl, x1.ins hx, G.cls_Costs, G.na_costs, by decide, ?_⟩
    have e1 : Eb T [x] H (upd (upd H p (.dK (dk t))) x (.ins (He.ga K "Costs") dx [("costs", .ref p)])) := Eb.put (Eb.of x1) (by simp) (x1.ins hx) (fun _ z => by cases z) fun _ _ => code_ins
    have hbx : b ≠ x := ne_of hb hx (fun z => by cases z)
    have hb2 : KD (upd (upd H p (.dK (dk t))) x (.ins (He.ga K "Costs") dx [("costs", .ref p)])) b us := by
      unfold KD
      rw [upd_ne hbx]
      exact x1.dK hb
    refine ⟨_, rfl, b, _, rfl, .inl hb2, fun q hq => ?_⟩
    refine ⟨_, rfl, x, _, dx, _, rfl, (Ex.new (T := T) hq).ins upd_same, G.cls_Costs, G.na_uses, by show 1 < 1000; decide, ?_⟩
    have px : p ≠ x := (ne_of_none hx hp).symm
    have qx : x ≠ q := ne_of_none upd_same hq
    have pq : p ≠ q := by
      refine ne_of_none (o := .dK (dk t)) ?_ hq
      rw [upd_ne px, upd_same]
    refine k _ (Eb.put (e1.trans (Eb.of (Ex.new hq))) (by simp) ((Ex.new (T := T) hq).ins upd_same) (fun _ z => by cases z) fun _ _ => code_ins) ⟨dx, p, q, by rw [upd_same]; rfl, ?_, ?_⟩
    · unfold KD
      rw [upd_ne px, upd_ne pq, upd_ne px, upd_same]
    · unfold KD
      rw [upd_ne (Ne.symm qx), upd_same]


abbrev N_Costs_is_least : List Str := ["self", "book", "prices", "word", "premise", "conclusion", "price", "bill", "mark"]
theorem sc_Costs_is_least : FnScope N_Costs_is_least ["self", "book", "prices", "word"] (defScope sCostsIsLeast) := ⟨rfl, rfl, rfl, by decide +kernel, rfl, by decide +kernel, by decide +kernel⟩
theorem f_Costs_is_least (G : Gx K mg) : ∃ fd, FnOk P w K mg base C8.CX0 3 (He.ma K (He.ga K "Costs") "is_least") fd ["self", "book", "prices", "word"] (spIsLeast T K) ∧ Binds K fd ["self", "book", "prices", "word"] [] := by
  refine fnOf G 42 rfl sc_Costs_is_least (fun _ _ _ _ _ _ us hl => match us, hl with | [_, _, _, _], _ => rfl) (fun vs H Q E h => ?_) (fun f cdv A outer s H vs Q E hr h => ?_)
  · obtain ⟨c, b, a, pr, wd, M, rs, th, ws, t, us, rfl, hc, hP, hnn, hdom, k⟩ := h
    rfl
  · obtain ⟨c, b, a, pr, wd, M, rs, th, ws, t, us, rfl, hc, hP, hnn, hdom, k⟩ := h
    have hu := hu_of hr
    refine ⟨_, (pss_cons (ps_for PassesOwn.never rfl (RZ.pi_zipA (by rfl) G.b_zip (pa_cons (pe_slK (K := K) rfl (pv 1)) (pa_cons (pv 2) pa_nil))) (pg_tup rfl (pgs_cons (pg_tup rfl (pgs_cons (pg_name (i := 4) sc_Costs_is_least.nd rfl (Or.inl rfl)) (pgs_cons (pg_name (i := 5) sc_Costs_is_least.nd rfl (Or.inl rfl)) pgs_nil))) (pgs_cons (pg_name (i := 6) sc_Costs_is_least.nd rfl (Or.inl rfl)) pgs_nil)))
        (pss_one (ps_if (pt_val (C8.pe_c (c_is_within (T := T) G) hr (by decide) (by rfl) (pa_cons (pv 4) (pa_cons (pe_fldK (K := K) rfl (pv 0) rfl) pa_nil))))
            (pss_cons (ps_set (i := 7) sc_Costs_is_least.nd rfl (Or.inr rfl) (C8.pe_c (c_paid (T := T) G) hr (by decide) (by rfl) (pa_cons (pe_fldK (K := K) rfl (pv 0) rfl) (pa_cons (pv 4) (pa_cons (pv 6) (pa_cons (pv 3) pa_nil))))))
              (pss_one (ps_if (pt_val (pe_callB (cr_any rfl) (by rfl) G.b_any (by decide +kernel) (pa_cons (pe_lc (own := [("mark", 8)]) (g := gName 8) rfl sc_Costs_is_least.nd (pi_tup (pv 5)) (blkOk_by (own := [("mark", 8)]) (N := N_Costs_is_least) (sc := defScope sCostsIsLeast) (by decide +kernel)) (fun _ _ _ _ _ => (pg_name (i := 8) sc_Costs_is_least.nd rfl (Or.inl rfl))) (fun _ _ _ _ _ => pts_nil) (fun _ _ _ _ _ => (pe_cmpR op_gt (pe_dget hu (pe_fldK (K := K) rfl (pv 0) rfl) (pv 8) (fun _ _ => rfl)) (pv 7) (nomark _)))) pa_nil)))
                (pss_one (ps_ret pe_bl)) pss_nil))) pss_nil)))
      (pss_one (ps_ret pe_bl))), ?_⟩
    obtain ⟨dx, r, hsl, hrus⟩ := hP.bk
    obtain ⟨as, h1, h2, h3⟩ := hrus.sq
    have hRl := hP.len
    refine ⟨_, rfl, b, _, dx, _, _, 1, _, rfl, hsl, G.sclsB, G.slR, rfl, _, rfl, r, pr, _, _, rfl, .inr ⟨SqT.of h1, SqT.of hP.hp, ?_⟩⟩
    have hn : (rs.zip ws).length = min (as.map V.ref).length (ws.map V.int).length := by
      rw [List.length_map, List.length_map, h2, hP.nw, hRl]
      omega
    refine for_it (walk_zipA hn) (fun i σ H' => ∃ v4 v5 v6 v7, σ = [some (.ref c), some (.ref b), some (.ref pr), some (.str (wS wd)), v4, v5, v6, v7, none] ∧ Ex T H H' ∧
        ((rs.zip ws).take i).all (fun r => !(apB (lk t) r.1.1 && r.1.2.any fun m => decide (gv (lk t) m > pay wd (lk t) r.1.1 r.2))) = true)
      ⟨none, none, none, none, rfl, Ex.refl T H, rfl⟩ ?_ ?_ ?_
    · rintro i σ H1 hi ⟨v4, v5, v6, v7, rfl, x1, _⟩
      exact ⟨SqT.of (x1.tup h1), SqT.of (x1.tup hP.hp)⟩
    · rintro i x σ H1 H1' hi ⟨v4, v5, v6, v7, rfl, x1, hall⟩ ⟨z, u1, u2, rfl, hz, rfl, g1, g2⟩
      obtain ⟨ai, hai, rfl⟩ := at_of g1
      obtain ⟨w, hwi, rfl⟩ := at_of g2
      obtain ⟨ru, hri, hra⟩ := pair_at h3 hai
      have hRi : (rs.zip ws)[i]? = some (ru, w) := by rw [List.getElem?_zip_eq_some]; exact ⟨hri, hwi⟩
      have hrm := List.mem_of_getElem? hri
      have x2 := x1.push hz (o := .tup [V.ref ai, V.int w])
      refine gZip (r := ru) upd_same (hra.im x2.im) fun p cc hp hcc => ?_
      obtain ⟨dc, ct, cu, hc1, hc2, hc3⟩ := hc.ex x2
      have hru := hP.hr ru hrm
      refine ⟨_, rfl, _, rfl, c, _, dc, _, _, rfl, hc1, G.cls_Costs, G.na_costs, rfl, p, ct, ru.1, (fun m => (lk t m).isSome), rfl, hp, by have := (hru.1.mono hP.m5).len; omega, Mem.dk hc2, fun H3 x3 => ⟨_, rfl, ?_⟩⟩
      cases e : apB (lk t) ru.1 with
      | false =>
        have e' : (ru.1.all fun m => (lk t m).isSome) = false := e
        rw [e']
        refine iteF ⟨_, _, _, _, rfl, x2.trans x3, ?_⟩
        rw [take_snoc hRi, List.all_append, hall, List.all_cons, e]
        rfl
      | true =>
        have e' : (ru.1.all fun m => (lk t m).isSome) = true := e
        rw [e']
        have hap := apB_iff.mp e
        refine iteT ⟨_, rfl, c, _, dc, _, _, rfl, x3.ins hc1, G.cls_Costs, G.na_costs, rfl, _, rfl, _, rfl, _, rfl, ct, p, w, wd, t, ru.1, rfl, .inl (hc2.ex x3), hp.ex x3, by have := (hru.1.mono hP.m5).len; omega, hap, fun m _ => gv_nn hnn m, fun H4 x4 => ?_⟩
        refine ⟨_, rfl, cc, rfl, ⟨_, SqT.of ((hcc.ex x3).ex x4)⟩, fun D hD => ?_⟩
        refine lc_bl (T := T) (ds := ru.2) (b := fun m => decide (gv (lk t) m > pay wd (lk t) ru.1 w)) (walk_tup (xs := ru.2.map V.int)) (by rw [List.length_map]) (by rw [List.length_map]; have := (hru.2.mono hP.m5).len; omega) hD (fun H5 x => SqT.of (((hcc.ex x3).ex x4).ex x)) (fun _ _ _ _ _ _ y => yat_ex y) ?_ ?_
        · intro j d v H5 H6 hd _ x5 y S hS
          obtain ⟨e, q⟩ := y
          subst e
          obtain rfl := at_map q hd
          refine hS _ rfl fun H7 x7 Q7 k7 => ?_
          have xx := ((x3.trans x4).trans x5).trans x7
          refine ⟨_, rfl, c, _, dc, _, _, rfl, xx.ins hc1, G.cls_Costs, G.na_costs, rfl, _, rfl, _, _, rfl, dget_kd (hc2.ex xx) (isSome_gv (hdom ru hrm hap d (List.mem_of_getElem? hd))), _, rfl, _, _, rfl, rfl, ?_⟩
          exact k7 _ _ (Ex.refl T H7) rfl
        · intro H5 x5 hD5
          refine ⟨D, _, rfl, SqL.of hD5, _, rfl, ?_⟩
          rw [any_id]
          have xx := ((x2.trans x3).trans x4).trans x5
          cases e2 : ru.2.any fun m => decide (gv (lk t) m > pay wd (lk t) ru.1 w) with
          | false =>
            refine iteF ⟨_, _, _, _, rfl, xx, ?_⟩
            rw [take_snoc hRi, List.all_append, hall, List.all_cons, e, e2]
            rfl
          | true =>
            refine iteT ?_
            have ef : leastB (rs.zip ws) wd (lk t) = false := by
              unfold leastB
              rw [List.all_eq_false]
              refine ⟨_, List.mem_of_getElem? hRi, ?_⟩
              show ¬ (!(apB (lk t) ru.1 && ru.2.any fun m => decide (gv (lk t) m > pay wd (lk t) ru.1 w))) = true
              rw [e, e2]
              simp
            have := k _ xx
            rw [ef] at this
            exact this
    · rintro σ H1 ⟨v4, v5, v6, v7, rfl, x1, hall⟩
      rw [List.take_length] at hall
      have := k _ x1
      rw [show leastB (rs.zip ws) wd (lk t) = true from hall] at this
      exact this


abbrev N_Costs_is_paid : List Str := ["self", "book", "prices", "word", "mark", "index", "premise", "conclusion"]
theorem sc_Costs_is_paid : FnScope N_Costs_is_paid ["self", "book", "prices", "word", "mark"] (defScope sCostsIsPaid) := ⟨rfl, rfl, rfl, by decide +kernel, rfl, by decide +kernel, by decide +kernel⟩
theorem f_Costs_is_paid (G : Gx K mg) : ∃ fd, FnOk P w K mg base C8.CX0 3 (He.ma K (He.ga K "Costs") "is_paid") fd ["self", "book", "prices", "word", "mark"] (spIsPaid T K) ∧ Binds K fd ["self", "book", "prices", "word", "mark"] [] := by
  refine fnOf G 43 rfl sc_Costs_is_paid (fun _ _ _ _ _ _ us hl => match us, hl with | [_, _, _, _, _], _ => rfl) (fun vs H Q E h => ?_) (fun f cdv A outer s H vs Q E hr h => ?_)
  · obtain ⟨c, b, a, pr, wd, m, M, rs, th, ws, t, us, rfl, hc, hP, hnn, hum, htm, k⟩ := h
    rfl
  · obtain ⟨c, b, a, pr, wd, m, M, rs, th, ws, t, us, rfl, hc, hP, hnn, hum, htm, k⟩ := h
    have hu := hu_of hr
    refine ⟨_, (pss_cons (ps_set (i := 5) sc_Costs_is_paid.nd rfl (Or.inl rfl) (pe_dget hu (pe_fldK (K := K) rfl (pv 0) rfl) (pv 4) (fun _ _ => rfl)))
      (pss_cons (ps_if (pt_not (pt_val (C8.pe_c (c_is_integer (T := T) G) hr (by decide) (by rfl) (pa_cons (pv 5) (pa_cons pe_int (pa_cons (pe_op op_sub (pe_callB (lenB (T := T) G rfl rfl hr (by decide)) (by rfl) G.b_len (by decide +kernel) (pa_cons (pv 1) pa_nil)) pe_int) pa_nil))))))
        (pss_one (ps_ret pe_bl)) pss_nil)
      (pss_cons (ps_asg (pe_ix (ix_tupK (K := K) rfl) (pe_slK (K := K) rfl (pv 1)) (pv 5) (fun _ _ => rfl)) (pg_tup rfl (pgs_cons (pg_name (i := 6) sc_Costs_is_paid.nd rfl (Or.inl rfl)) (pgs_cons (pg_name (i := 7) sc_Costs_is_paid.nd rfl (Or.inl rfl)) pgs_nil))))
      (pss_cons (ps_if (PW.pt (pw_or (pt_cmpR (op_notInK (K := K) rfl) (pv 4) (pv 7) (by rfl)) (pw_or1 (pt_not (pt_val (C8.pe_c (c_is_within (T := T) G) hr (by decide) (by rfl) (pa_cons (pv 6) (pa_cons (pe_fldK (K := K) rfl (pv 0) rfl) pa_nil))))))))
        (pss_one (ps_ret pe_bl)) pss_nil)
      (pss_one (ps_ret (pe_cmpR op_eq (pe_dget hu (pe_fldK (K := K) rfl (pv 0) rfl) (pv 4) (fun _ _ => rfl)) (C8.pe_c (c_paid (T := T) G) hr (by decide) (by rfl) (pa_cons (pe_fldK (K := K) rfl (pv 0) rfl) (pa_cons (pv 6) (pa_cons (pe_ix (ix_tupK (K := K) rfl) (pv 2) (pv 5) (fun _ _ => rfl)) (pa_cons (pv 3) pa_nil))))) (nomark _)))))))), ?_⟩
    obtain ⟨i, ei⟩ := Option.isSome_iff_exists.mp hum
    obtain ⟨dc, ct, cu, hc1, hc2, hc3⟩ := hc
    have hRl := hP.len
    refine ⟨_, rfl, c, _, dc, _, _, rfl, hc1, G.cls_Costs, G.na_uses, rfl, _, rfl, _, _, rfl, dget_kd hc3 ei, ?_⟩
    refine ⟨_, rfl, _, rfl, rLenB (T := T) hP.bk (by have := hP.nr; omega) fun H1 x1 => ⟨_, _, rfl, rfl, i, 0, (rs.length : Int) - 1, rfl, _, rfl, ?_⟩⟩
    by_cases hi : 0 ≤ i ∧ i < rs.length
    · rw [decide_eq_true (⟨hi.1, by omega⟩ : 0 ≤ i ∧ i ≤ (rs.length : Int) - 1)]
      refine iteF ?_
      obtain ⟨dx, r, hsl, hrus⟩ := hP.bk.ex x1
      obtain ⟨as, h1, h2, h3⟩ := hrus.sq
      have hk : i.toNat < rs.length := by omega
      have hik : ((i.toNat : Nat) : Int) = i := by omega
      have hri : rs[i.toNat]? = some rs[i.toNat] := List.getElem?_eq_getElem hk
      obtain ⟨w, hwi, hRi⟩ := hP.at_ hri
      obtain ⟨ai, hai, hra⟩ := pair_at' h3 hri
      have hrm := List.mem_of_getElem? hri
      have hru := hP.hr _ hrm
      generalize rs[i.toNat] = ru at hri hRi hra hrm hru
      refine ⟨_, rfl, b, _, dx, _, _, 1, _, rfl, hsl, G.sclsB, G.slR, rfl, _, rfl, r, _, i, .ref ai, rfl, rfl, SqT.of h1, ?_, gRule hra fun p cc hp hcc => ?_⟩
      · rw [← hik]
        exact atI_nat (by rw [List.getElem?_map, hai]; rfl)
      have epd : paidB (rs.zip ws) wd (lk t) us m = (decide (m ∈ ru.2) && apB (lk t) ru.1 && decide (gv (lk t) m = pay wd (lk t) ru.1 w)) := by
        unfold paidB
        rw [ei]
        simp only [hRi]
        rw [decide_eq_true hi.1, decide_eq_true (by rw [hRl]; exact hi.2), Bool.true_and, Bool.true_and]
      refine ⟨_, rfl, _, rfl, cc, _, rfl, .inr (SqT.of hcc), rfl, flat_ints _, _, rfl, ?_⟩
      show (if (!inV (V.int m) (ru.2.map V.int)) = true then _ else _)
      rw [inV_int]
      by_cases hm : m ∈ ru.2
      · rw [decide_eq_true hm]
        refine iteF ?_
        have hc1' := x1.ins hc1
        refine ⟨_, rfl, _, rfl, c, _, dc, _, _, rfl, hc1', G.cls_Costs, G.na_costs, rfl, p, ct, ru.1, (fun m => (lk t m).isSome), rfl, hp, by have := (hru.1.mono hP.m5).len; omega, Mem.dk (hc2.ex x1), fun H3 x3 => ⟨_, rfl, ?_⟩⟩
        cases e : apB (lk t) ru.1 with
        | false =>
          have e' : (ru.1.all fun m => (lk t m).isSome) = false := e
          rw [e']
          refine iteT ?_
          have := k _ (x1.trans x3)
          rw [epd, e, Bool.and_false, Bool.false_and] at this
          exact this
        | true =>
          have e' : (ru.1.all fun m => (lk t m).isSome) = true := e
          rw [e']
          refine iteF ?_
          have x13 := x1.trans x3
          refine ⟨_, rfl, c, _, dc, _, _, rfl, x13.ins hc1, G.cls_Costs, G.na_costs, rfl, _, rfl, _, _, rfl, dget_kd (hc2.ex x13) (isSome_gv htm), ?_⟩
          refine ⟨_, rfl, c, _, dc, _, _, rfl, x13.ins hc1, G.cls_Costs, G.na_costs, rfl, _, rfl, _, rfl, _, rfl, pr, _, i, .int w, rfl, rfl, SqT.of (hP.hp.ex x13), ?_, _, rfl, ct, p, w, wd, t, ru.1, rfl, .inl (hc2.ex x13), hp.ex x3, by have := (hru.1.mono hP.m5).len; omega, apB_iff.mp e, fun j _ => gv_nn hnn j, fun H4 x4 => ⟨rfl, ?_⟩⟩
          · rw [← hik]
            exact atI_nat (by rw [List.getElem?_map, hwi]; rfl)
          · have := k _ (x13.trans x4)
            rw [epd, e, decide_eq_true hm, Bool.true_and, Bool.true_and] at this
            rw [dV]
            exact this
      · rw [decide_eq_false hm]
        refine iteT ?_
        have := k _ x1
        rw [epd, decide_eq_false hm, Bool.false_and, Bool.false_and] at this
        exact this
    · rw [decide_eq_false (fun z => hi ⟨z.1, by omega⟩)]
      refine iteT ?_
      have epd : paidB (rs.zip ws) wd (lk t) us m = false := by
        unfold paidB
        rw [ei]
        show (decide (0 ≤ i) && decide (i < (rs.zip ws).length) && _) = false
        rw [hRl]
        by_cases q : 0 ≤ i
        · rw [decide_eq_false (fun z => hi ⟨q, z⟩), Bool.and_false, Bool.false_and]
        · rw [decide_eq_false q, Bool.false_and, Bool.false_and]
      have := k _ x1
      rw [epd] at this
      exact this


end
end Pb
set_option Elab.async false
set_option linter.all false
set_option maxRecDepth 100000
set_option maxHeartbeats 4000000
namespace Pb
open PySem PySem.Spec PyProof.Rows L2
section
variable {P : Program} {w : World} {K : PySem.W.Frag} {mg : Str → Option Value} {base : Heap} {T : Tb}
theorem c_Costs (G : Gx K mg) : C8.Mak P w K mg base 1 "Costs" (He.ga K "Costs") (spCostsInit T K) [] := by
  obtain ⟨fd, F, b⟩ := f_Costs_init (P := P) (w := w) (base := base) (T := T) G
  exact ⟨_, fd, _, [], G.mk_Costs, F, G.g_Costs, b, .nil⟩
theorem m_is_least (G : Gx K mg) : C8.Met P w K mg base 3 (He.ga K "Costs") "is_least" (spIsLeast T K) [] := by
  obtain ⟨fd, F, b⟩ := f_Costs_is_least (P := P) (w := w) (base := base) (T := T) G
  exact ⟨_, fd, _, [], G.cls_Costs, G.me_Costs_is_least, F, b, .nil⟩
theorem m_is_paid (G : Gx K mg) : C8.Met P w K mg base 3 (He.ga K "Costs") "is_paid" (spIsPaid T K) [] := by
  obtain ⟨fd, F, b⟩ := f_Costs_is_paid (P := P) (w := w) (base := base) (T := T) G
  exact ⟨_, fd, _, [], G.cls_Costs, G.me_Costs_is_paid, F, b, .nil⟩
end
theorem Clo.sub {M : Int} {rs : List Ru} {th cl : List Int} (C : Clo rs th cl) (hs : IsS 5 cl) (ht : IsS M th) (hr : ∀ r ∈ rs, IsS M r.1 ∧ IsS M r.2) : IsS M cl :=
  ⟨C.least (fun m => 0 ≤ m ∧ m < M) ht.1 fun r hr2 _ m hm => (hr r hr2).2.1 m hm, hs.2⟩
theorem rMinD_any {K : PySem.W.Frag} {a : Addr} {ns : List Int} {d : Int} {H : Hp} {Q : VK} (hs : SqL K H a (ns.map V.int)) (q : ∀ m, ((ns = [] ∧ m = d) ∨ (m ∈ ns ∧ ∀ y ∈ ns, m ≤ y)) → Q (.int m) H) : rMinD K [.ref a] [.int d] H Q :=
  ⟨a, ns, d, rfl, rfl, hs, fun e => q d (.inl ⟨e, rfl⟩), fun m hm h => q m (.inr ⟨hm, h⟩)⟩
theorem min_neg {t : List (Int × Int)} {m : Int} (hm : m ∈ t.map (·.2)) (h : ∀ y ∈ t.map (·.2), m ≤ y) : decide (m < 0) = !(t.all fun p => decide (0 ≤ p.2)) := by
  cases e : t.all fun p => decide (0 ≤ p.2) with
  | true =>
    rw [List.all_eq_true] at e
    obtain ⟨p, hp, rfl⟩ := List.mem_map.mp hm
    have := of_decide_eq_true (e p hp)
    exact decide_eq_false (by omega)
  | false =>
    rw [List.all_eq_false] at e
    obtain ⟨p, hp, hn⟩ := e
    have := h p.2 (List.mem_map_of_mem hp)
    simp only [decide_eq_true_eq] at hn
    exact decide_eq_true (by omega)
end Pb
set_option Elab.async false
set_option linter.all false
set_option maxRecDepth 100000
set_option maxHeartbeats 4000000

namespace Pb
open PySem PySem.Spec PyProof.Rows L2
section
variable {P : Program} {w : World} {K : PySem.W.Frag} {mg : Str → Option Value} {base : Heap} {T : Tb}

def spCostsShows (T : Tb) (K : PySem.W.Frag) : Sp := fun vs H Q _ => ∃ (c b a pr : Addr) (wd : Bool) (M : Int) (rs : List Ru) (th ws : List Int) (t us : List (Int × Int)), vs = [.ref c, .ref b, .ref a, .ref pr, .str (wS wd)] ∧ CoA K H c t us ∧ Pr K H b a pr M rs th ws ∧ (t.map (·.1)).Nodup ∧
  ∀ H' cl, Ex T H H' → IsS M cl → Clo rs th cl → Q (.bl (showsB (rs.zip ws) th wd cl t us)) H'

abbrev N_Costs_shows : List Str := ["self", "book", "thing", "prices", "word", "due", "later", "mark"]
theorem sc_Costs_shows : FnScope N_Costs_shows ["self", "book", "thing", "prices", "word"] (defScope sCostsShows) := ⟨rfl, rfl, rfl, by decide +kernel, rfl, by decide +kernel, by decide +kernel⟩
theorem f_Costs_shows (G : Gx K mg) : ∃ fd, FnOk P w K mg base C8.CX0 6 (He.ma K (He.ga K "Costs") "shows") fd ["self", "book", "thing", "prices", "word"] (spCostsShows T K) ∧ Binds K fd ["self", "book", "thing", "prices", "word"] [] := by
  refine fnOf G 41 rfl sc_Costs_shows (fun _ _ _ _ _ _ us hl => match us, hl with | [_, _, _, _, _], _ => rfl) (fun vs H Q E h => ?_) (fun f cdv A outer s H vs Q E hr h => ?_)
  · obtain ⟨c, b, a, pr, wd, M, rs, th, ws, t, us, rfl, hc, hP, hnd, k⟩ := h
    rfl
  · obtain ⟨c, b, a, pr, wd, M, rs, th, ws, t, us, rfl, hc, hP, hnd, k⟩ := h
    have hu := hu_of hr
    refine ⟨_, (pss_cons (ps_expr (C8.pe_c (c_check_costs (T := T) G) hr (by decide) (by rfl) (pa_cons (pv 1) (pa_cons (pv 2) (pa_cons (pv 3) (pa_cons (pv 4) pa_nil))))))
      (pss_cons (ps_set (i := 5) sc_Costs_shows.nd rfl (Or.inl rfl) (C8.pe_c (c_closure (T := T) G) hr (by decide) (by rfl) (pa_cons (pe_slK (K := K) rfl (pv 1)) (pa_cons (pv 2) pa_nil))))
      (pss_cons (ps_setLc (i := 6) (own := [("mark", 7)]) (g := gName 7) rfl sc_Costs_shows.nd rfl rfl (sw_true rfl rfl rfl (by decide +kernel)) (pi_tup (pv 5)) (blkOk_by (own := [("mark", 7)]) (N := N_Costs_shows) (sc := defScope sCostsShows) (by decide +kernel)) (fun _ _ _ _ _ => (pg_name (i := 7) sc_Costs_shows.nd rfl (Or.inl rfl))) (fun _ _ _ _ _ => pts_one (pt_cmpR (op_notInK (K := K) rfl) (pv 7) (pv 2) (by rfl))) (fun _ _ _ _ _ => (pv 7)))
      (pss_cons (ps_if (PW.pt (pw_or (pt_cmpR op_ne (pe_callB call_lenD (by rfl) G.b_len (by decide +kernel) (pa_cons (pe_fldK (K := K) rfl (pv 0) rfl) pa_nil)) (pe_callB call_len_seq (by rfl) G.b_len (by decide +kernel) (pa_cons (pv 5) pa_nil)) (nomark _)) (pw_or1 (pt_not (pt_val (pe_callB (cr_all rfl) (by rfl) G.b_all (by decide +kernel) (pa_cons (pe_lc (own := [("mark", 7)]) (g := gName 7) rfl sc_Costs_shows.nd (pi_tup (pv 5)) (blkOk_by (own := [("mark", 7)]) (N := N_Costs_shows) (sc := defScope sCostsShows) (by decide +kernel)) (fun _ _ _ _ _ => (pg_name (i := 7) sc_Costs_shows.nd rfl (Or.inl rfl))) (fun _ _ _ _ _ => pts_nil) (fun _ _ _ _ _ => (pe_cmp (pc_din hu (pv 7) (pe_fldK (K := K) rfl (pv 0) rfl))))) pa_nil)))))))
        (pss_one (ps_ret pe_bl)) pss_nil)
      (pss_cons (ps_if (PW.pt (pw_or (pt_cmpR op_ne (pe_callB call_lenD (by rfl) G.b_len (by decide +kernel) (pa_cons (pe_fldK (K := K) rfl (pv 0) rfl) pa_nil)) (pe_callB call_len_seq (by rfl) G.b_len (by decide +kernel) (pa_cons (pv 6) pa_nil)) (nomark _)) (pw_or1 (pt_not (pt_val (pe_callB (cr_all rfl) (by rfl) G.b_all (by decide +kernel) (pa_cons (pe_lc (own := [("mark", 7)]) (g := gName 7) rfl sc_Costs_shows.nd (pi_list (pv 6)) (blkOk_by (own := [("mark", 7)]) (N := N_Costs_shows) (sc := defScope sCostsShows) (by decide +kernel)) (fun _ _ _ _ _ => (pg_name (i := 7) sc_Costs_shows.nd rfl (Or.inl rfl))) (fun _ _ _ _ _ => pts_nil) (fun _ _ _ _ _ => (pe_cmp (pc_din hu (pv 7) (pe_fldK (K := K) rfl (pv 0) rfl))))) pa_nil)))))))
        (pss_one (ps_ret pe_bl)) pss_nil)
      (pss_cons (ps_if (PW.pt (pw_or (pt_val (pe_callB (cr_any rfl) (by rfl) G.b_any (by decide +kernel) (pa_cons (pe_lc (own := [("mark", 7)]) (g := gName 7) rfl sc_Costs_shows.nd (pi_tup (pv 2)) (blkOk_by (own := [("mark", 7)]) (N := N_Costs_shows) (sc := defScope sCostsShows) (by decide +kernel)) (fun _ _ _ _ _ => (pg_name (i := 7) sc_Costs_shows.nd rfl (Or.inl rfl))) (fun _ _ _ _ _ => pts_nil) (fun _ _ _ _ _ => (pe_cmpR op_ne (pe_dget hu (pe_fldK (K := K) rfl (pv 0) rfl) (pv 7) (fun _ _ => rfl)) pe_int (nomark _)))) pa_nil))) (pw_or1 (pt_cmpR op_lt (pe_callBK (cr_minD rfl hu) (by rfl) G.b_min (by decide +kernel) (pa_cons (pe_listVals rfl (pe_fldK (K := K) rfl (pv 0) rfl) (by rfl) G.b_list (by decide +kernel)) pa_nil) (pk_cons pe_int pk_nil)) pe_int (nomark _)))))
        (pss_one (ps_ret pe_bl)) pss_nil)
      (pss_one (ps_ret (pe_and (C8.pe_mt (m_is_least (T := T) G) hr (by decide) (pv 0) (pa_cons (pv 1) (pa_cons (pv 3) (pa_cons (pv 4) pa_nil)))) (pe_one (pe_callB (cr_all rfl) (by rfl) G.b_all (by decide +kernel) (pa_cons (pe_lc (own := [("mark", 7)]) (g := gName 7) rfl sc_Costs_shows.nd (pi_list (pv 6)) (blkOk_by (own := [("mark", 7)]) (N := N_Costs_shows) (sc := defScope sCostsShows) (by decide +kernel)) (fun _ _ _ _ _ => (pg_name (i := 7) sc_Costs_shows.nd rfl (Or.inl rfl))) (fun _ _ _ _ _ => pts_nil) (fun _ _ _ _ _ => (C8.pe_mt (m_is_paid (T := T) G) hr (by decide) (pv 0) (pa_cons (pv 1) (pa_cons (pv 3) (pa_cons (pv 4) (pa_cons (pv 7) pa_nil))))))) pa_nil)))))))))))), ?_⟩
    refine ⟨_, rfl, _, rfl, _, rfl, _, rfl, b, a, pr, wd, M, rs, th, ws, rfl, hP, fun H1 x1 => ?_⟩
    have hP1 := hP.ex x1
    obtain ⟨dx, r, hsl, hrus⟩ := hP1.bk
    refine ⟨_, rfl, b, _, dx, _, _, 1, _, rfl, hsl, G.sclsB, G.slR, rfl, _, rfl, r, a, rs, th, rfl, hrus, hP1.ht, hP.hth.mono hP.m5, by have := hP.nr; omega, fun r hr => ⟨(hP.hr r hr).1.mono hP.m5, (hP.hr r hr).2.mono hP.m5⟩, fun H2 p cl x2 hcl hs5 C => ?_⟩
    have hsM := C.sub hs5 hP.hth hP.hr
    have l5 := hs5.len
    have x12 := x1.trans x2
    have hP2 := hP.ex x12
    refine ⟨_, rfl, p, rfl, ⟨_, SqT.of hcl⟩, fun D hD => ?_⟩
    refine lc_val (T := T) (ds := cl) (f := fun m => !decide (m ∈ th)) (k := V.int) (walk_tup (xs := cl.map V.int)) (by rw [List.length_map]) (by rw [List.length_map]; omega) hD (fun H1 x => SqT.of (hcl.ex x)) (fun _ _ _ _ _ _ y => yat_ex y) ?_ ?_
    · intro i d v H1 H2 hd _ x y S hS
      obtain ⟨e, q⟩ := y
      subst e
      obtain rfl := at_map q hd
      refine hS _ rfl (fun H3 x3 Q3 k3 => ?_) (fun _ H3 x3 Q3 k3 => ⟨_, rfl, k3 _ _ (Ex.refl T H3) rfl⟩)
      refine ⟨_, rfl, _, rfl, a, _, rfl, .inr (SqT.of (((hP2.ht.ex x).ex x3))), rfl, flat_ints th, _, rfl, ?_⟩
      refine k3 _ _ (Ex.refl T H3) ?_
      show (!inV (V.int d) (th.map V.int)) = _
      rw [inV_int]
    intro H3 x3 hD3
    have x13 := x12.trans x3
    have hla : later th cl = cl.filter fun m => !decide (m ∈ th) := rfl
    rw [← hla] at hD3
    have hlater : ∀ m ∈ later th cl, m ∈ cl := fun m hm => (List.mem_filter.mp hm).1
    have ll5 : (later th cl).length ≤ 5 := by
      have := List.length_filter_le (fun m => !decide (m ∈ th)) cl
      rw [← hla] at this
      omega
    generalize hgl : later th cl = la at hD3 hlater ll5
    have kk : ∀ H' (bb : Bool), Ex T H H' → showsB (rs.zip ws) th wd cl t us = bb → Q (.bl bb) H' := fun H' bb x e => by
      rw [← e]
      exact k _ cl x hsM C
    have eS : showsB (rs.zip ws) th wd cl t us = (decide (t.length = cl.length) && (cl.all fun m => (lk t m).isSome) && (decide (us.length = la.length) && la.all fun m => (lk us m).isSome) && ((th.all fun m => decide (gv (lk t) m = 0)) && t.all fun p => decide (0 ≤ p.2)) && (leastB (rs.zip ws) wd (lk t) && la.all (paidB (rs.zip ws) wd (lk t) us))) := by
      unfold showsB
      rw [hgl]
    have hcl3 := hcl.ex x3
    obtain ⟨dc, ct, cu, hc1, hc2, hc3⟩ := hc.ex x13
    refine ⟨_, rfl, c, _, dc, _, _, rfl, hc1, G.cls_Costs, G.na_costs, rfl, ct, _, rfl, hc2, _, rfl, p, _, rfl, .inr (SqT.of hcl3), rfl, _, rfl, ?_⟩
    rw [List.length_map, List.length_map, dV]
    by_cases hn1 : ((t.length : Nat) : Int) = (cl.length : Nat)
    · rw [decide_eq_true hn1]
      have hn1' : t.length = cl.length := by omega
      refine iteF ?_
      refine ⟨_, rfl, p, rfl, ⟨_, SqT.of hcl3⟩, fun D2 hD2 => ?_⟩
      refine lc_bl (T := T) (ds := cl) (b := fun m => (lk t m).isSome) (walk_tup (xs := cl.map V.int)) (by rw [List.length_map]) (by rw [List.length_map]; omega) hD2 (fun H1 x => SqT.of (hcl3.ex x)) (fun _ _ _ _ _ _ y => yat_ex y) ?_ ?_
      · intro i d v H4 H5 hd _ x y S hS
        obtain ⟨e, q⟩ := y
        subst e
        obtain rfl := at_map q hd
        refine hS _ rfl fun H6 x6 Q6 k6 => ?_
        refine ⟨_, rfl, _, rfl, c, _, dc, _, _, rfl, (x.trans x6).ins hc1, G.cls_Costs, G.na_costs, rfl, ct, _, rfl, DGet.k (k := kI d) (hc2.ex (x.trans x6)), k6 _ _ (Ex.refl T H6) ?_⟩
        rw [valV_dk, Option.isSome_map]
      intro H4 x4 hD4
      refine ⟨D2, _, rfl, SqL.of hD4, _, rfl, ?_⟩
      rw [all_id]
      have x14 := x13.trans x4
      cases e1 : cl.all fun m => (lk t m).isSome with
      | false =>
        refine iteT (kk _ _ x14 ?_)
        rw [eS, e1, Bool.and_false, Bool.false_and, Bool.false_and, Bool.false_and]
      | true =>
        refine iteF ?_
        have hall := List.all_eq_true.mp e1
        refine ⟨_, rfl, c, _, dc, _, _, rfl, x4.ins hc1, G.cls_Costs, G.na_uses, rfl, cu, _, rfl, hc3.ex x4, _, rfl, D, _, rfl, .inl (SqL.of (x4.lst hD3)), rfl, _, rfl, ?_⟩
        rw [List.length_map, List.length_map, dV]
        by_cases hn2 : ((us.length : Nat) : Int) = (la.length : Nat)
        · rw [decide_eq_true hn2]
          have hn2' : us.length = la.length := by omega
          refine iteF ?_
          refine ⟨_, rfl, D, rfl, ⟨_, SqL.of (x4.lst hD3)⟩, fun D3 hD3n => ?_⟩
          refine lc_bl (T := T) (ds := la) (b := fun m => (lk us m).isSome) (walk_list (xs := la.map V.int)) (by rw [List.length_map]) (by rw [List.length_map]; omega) hD3n (fun H1 x => SqL.of (x.lst (x4.lst hD3))) (fun _ _ _ _ _ _ y => yat_ex y) ?_ ?_
          · intro i d v H5 H6 hd _ x y S hS
            obtain ⟨e, q⟩ := y
            subst e
            obtain rfl := at_map q hd
            refine hS _ rfl fun H7 x7 Q7 k7 => ?_
            have xx := (x4.trans x).trans x7
            refine ⟨_, rfl, _, rfl, c, _, dc, _, _, rfl, xx.ins hc1, G.cls_Costs, G.na_uses, rfl, cu, _, rfl, DGet.k (k := kI d) (hc3.ex xx), k7 _ _ (Ex.refl T H7) ?_⟩
            rw [valV_dk, Option.isSome_map]
          intro H5 x5 hD5
          refine ⟨D3, _, rfl, SqL.of hD5, _, rfl, ?_⟩
          rw [all_id]
          have x15 := x14.trans x5
          have x45 := x4.trans x5
          cases e2 : la.all fun m => (lk us m).isSome with
          | false =>
            refine iteT (kk _ _ x15 ?_)
            rw [eS, e2, Bool.and_false, Bool.and_false, Bool.false_and, Bool.false_and]
          | true =>
            refine iteF ?_
            have hall2 := List.all_eq_true.mp e2
            have hP5 := hP.ex x15
            refine ⟨_, rfl, a, rfl, ⟨_, SqT.of hP5.ht⟩, fun D4 hD4n => ?_⟩
            refine lc_bl (T := T) (ds := th) (b := fun m => !decide (gv (lk t) m = 0)) (walk_tup (xs := th.map V.int)) (by rw [List.length_map]) (by rw [List.length_map]; have := (hP.hth.mono hP.m5).len; omega) hD4n (fun H1 x => SqT.of (hP5.ht.ex x)) (fun _ _ _ _ _ _ y => yat_ex y) ?_ ?_
            · intro i d v H6 H7 hd _ x y S hS
              obtain ⟨e, q⟩ := y
              subst e
              obtain rfl := at_map q hd
              refine hS _ rfl fun H8 x8 Q8 k8 => ?_
              have xx := (x45.trans x).trans x8
              refine ⟨_, rfl, c, _, dc, _, _, rfl, xx.ins hc1, G.cls_Costs, G.na_costs, rfl, _, rfl, _, _, rfl, dget_kd (hc2.ex xx) (isSome_gv (hall d (C.has d (List.mem_of_getElem? hd)))), rfl, ?_⟩
              rw [dV]
              exact k8 _ _ (Ex.refl T H8) rfl
            intro H6 x6 hD6
            refine ⟨D4, _, rfl, SqL.of hD6, _, rfl, ?_⟩
            rw [any_id]
            have x16 := x15.trans x6
            have x46 := x45.trans x6
            have eth : (th.any fun m => !decide (gv (lk t) m = 0)) = !(th.all fun m => decide (gv (lk t) m = 0)) := by
              rw [List.not_all_eq_any_not]
            rw [eth]
            cases e3 : th.all fun m => decide (gv (lk t) m = 0) with
            | false =>
              refine iteT (iteT (kk _ _ x16 ?_))
              rw [eS, e3, Bool.false_and, Bool.and_false, Bool.false_and]
            | true =>
              refine iteF ?_
              refine ⟨_, rfl, c, _, dc, _, _, rfl, x46.ins hc1, G.cls_Costs, G.na_costs, rfl, ct, _, rfl, hc2.ex x46, fun D5 hD5n => ?_⟩
              have x17 := x16.push hD5n (o := .lst ((dk t).map (·.2)))
              have x57 := x46.push hD5n (o := .lst ((dk t).map (·.2)))
              have evals : (dk t).map (·.2) = (t.map (·.2)).map V.int := by
                rw [List.map_map, List.map_map]
                rfl
              have hc2' := hc2.ex x57
              dsimp only [tNil, tC, tCons]
              refine rMinD_any (K := K) (a := D5) (ns := t.map (·.2)) (d := 0) (H := upd H6 D5 (.lst ((dk t).map (·.2)))) (SqL.of (by rw [upd_same, evals])) ?_
              intro m hm
              refine ⟨_, _, rfl, rfl, _, rfl, ?_⟩
              have em : decide (m < 0) = !(t.all fun p => decide (0 ≤ p.2)) := by
                rcases hm with ⟨e, rfl⟩ | ⟨h1, h2⟩
                · rw [List.map_eq_nil_iff] at e
                  rw [e]
                  rfl
                · exact min_neg h1 h2
              rw [em]
              cases e4 : t.all fun p => decide (0 ≤ p.2) with
              | false =>
                refine iteT (kk _ _ x17 ?_)
                rw [eS, e4, Bool.and_false, Bool.and_false, Bool.false_and]
              | true =>
                refine iteF ?_
                have hnn : NN (lk t) := fun m v e => of_decide_eq_true ((List.all_eq_true.mp e4) _ (lk_in e))
                have hback : ∀ m, (lk t m).isSome = true → m ∈ cl := fun m q => keys_back hnd (asc_nodup hsM.2) (by rw [List.length_map]; exact hn1') (fun x hx => lk_mem.mp (hall x hx)) m (lk_mem.mp q)
                refine ⟨_, rfl, c, dc, _, rfl, x57.ins hc1, rfl, _, rfl, _, rfl, _, rfl, c, b, a, pr, wd, M, rs, th, ws, t, us, rfl, hc.ex (x13.trans x57), hP.ex x17, hnn, fun r hr ha m hm => hall m (C.closed r hr (fun j hj => hback j (ha j hj)) m hm), fun H7 x7 => ⟨_, rfl, ?_⟩⟩
                have x18 := x17.trans x7
                cases e5 : leastB (rs.zip ws) wd (lk t) with
                | false =>
                  refine iteF (kk _ _ x18 ?_)
                  rw [eS, e5, Bool.false_and, Bool.and_false]
                | true =>
                  refine iteT ?_
                  have x58 := x57.trans x7
                  refine ⟨_, rfl, D, rfl, ⟨_, SqL.of (x58.lst hD3)⟩, fun D6 hD6n => ?_⟩
                  refine lc_bl (T := T) (ds := la) (b := paidB (rs.zip ws) wd (lk t) us) (walk_list (xs := la.map V.int)) (by rw [List.length_map]) (by rw [List.length_map]; omega) hD6n (fun H1 x => SqL.of (x.lst (x58.lst hD3))) (fun _ _ _ _ _ _ y => yat_ex y) ?_ ?_
                  · intro i d v H8 H9 hd _ x y S hS
                    obtain ⟨e, q⟩ := y
                    subst e
                    obtain rfl := at_map q hd
                    refine hS _ rfl fun H10 x10 Q10 k10 => ?_
                    have xx := (x58.trans x).trans x10
                    have hdm := List.mem_of_getElem? hd
                    exact ⟨_, rfl, c, dc, _, rfl, xx.ins hc1, rfl, _, rfl, _, rfl, _, rfl, _, rfl, c, b, a, pr, wd, d, M, rs, th, ws, t, us, rfl, hc.ex (x13.trans xx), hP.ex (x13.trans xx), hnn, hall2 d hdm, hall d (hlater d hdm), fun H11 x11 => k10 _ _ x11 rfl⟩
                  · intro H8 x8 hD8
                    refine ⟨D6, _, rfl, SqL.of hD8, ?_⟩
                    rw [all_id]
                    refine kk _ _ (x18.trans x8) ?_
                    rw [eS, decide_eq_true hn1', e1, decide_eq_true hn2', e2, e3, e4, e5]
                    simp
        · rw [decide_eq_false hn2]
          refine iteT (iteT (kk _ _ x14 ?_))
          rw [eS, decide_eq_false (p := us.length = la.length) (fun z => hn2 (by omega)), Bool.false_and, Bool.and_false, Bool.false_and, Bool.false_and]
    · rw [decide_eq_false hn1]
      refine iteT (iteT (kk _ _ x13 ?_))
      rw [eS, decide_eq_false (fun z => hn1 (by omega)), Bool.false_and, Bool.false_and, Bool.false_and, Bool.false_and]


end
end Pb
set_option Elab.async false
set_option linter.all false
set_option maxRecDepth 100000
set_option maxHeartbeats 4000000
namespace Pb
open PySem PySem.Spec PyProof.Rows L2
theorem hu2_of {k : Nat} {A : Around} (hr : Room k A) : A.units + 2 < cLine := by
  have := hr.un
  omega
/-! ### lists of data compared with the empty list -/
theorem shaped_list {ds : List PyData} (h : ∀ d ∈ ds, d.canLay0 = true ∧ d.depth ≤ 60) : SeqAt.shaped (.list ds) = true := by
  have h1 : PyData.canLayAll0 ds = true := by
    induction ds with
    | nil => simp [PyData.canLayAll0]
    | cons x r ih =>
      simp only [PyData.canLayAll0, Bool.and_eq_true]
      exact ⟨(h x List.mem_cons_self).1, ih fun d hd => h d (List.mem_cons_of_mem _ hd)⟩
  have h2 : PyData.depthAll ds ≤ 60 := by
    clear h1
    induction ds with
    | nil => exact Nat.zero_le _
    | cons x r ih =>
      have e1 := (h x List.mem_cons_self).2
      have e2 := ih fun d hd => h d (List.mem_cons_of_mem _ hd)
      show max x.depth (PyData.depthAll r) ≤ 60
      omega
  unfold SeqAt.shaped
  rw [Bool.and_eq_true]
  refine ⟨by simp only [PyData.canLay0]; exact h1, decide_eq_true ?_⟩
  simp only [PyData.depth]
  omega
theorem eqv_nil (ds : List PyData) : PyData.eqv (.list ds) (.list []) = ds.isEmpty := by
  cases ds <;> simp [PyData.eqv, PyData.eqvAll]
/-- a list of data at l -/
def DL (K : PySem.W.Frag) (H : Hp) (l : Addr) (ds : List PyData) : Prop := (∃ vs, H l = some (.lst vs) ∧ DpAll K H vs ds) ∧ ∀ d ∈ ds, d.canLay0 = true ∧ d.depth ≤ 60
theorem ne_nil {K : PySem.W.Frag} {H : Hp} {l e : Addr} {ds : List PyData} {Q : VK} (h : DL K H l ds) (he : H e = some (.lst [])) (q : Q (.bl (!ds.isEmpty)) H) : rNeD K (.ref l) (.ref e) H Q := by
  obtain ⟨⟨vs, h1, h2⟩, h3⟩ := h
  refine ⟨.list ds, .list [], .lst (SqL.of h1) h2, .lst (SqL.of he) .nil, shaped_list h3, shaped_list (fun d hd => nomatch hd), ?_⟩
  rw [eqv_nil]
  exact q
theorem tri_ok (t : Int × Int × Int) : (tri t).canLay0 = true ∧ (tri t).depth ≤ 60 := ⟨by simp [tri, PyData.canLay0, PyData.canLayAll0], by simp [tri, PyData.depth, PyData.depthAll]⟩
mutual
theorem Dp.im {K : PySem.W.Frag} {H H' : Hp} (hl : ∀ b xs, SqL K H b xs → SqL K H' b xs) (ht : ∀ b xs, SqT K H b xs → SqT K H' b xs) : ∀ {v : V} {d : PyData}, Dp K H v d → Dp K H' v d
  | _, _, .non => .non
  | _, _, .bl b => .bl b
  | _, _, .int i => .int i
  | _, _, .str x => .str x
  | _, _, .lst h1 h2 => .lst (hl _ _ h1) (DpAll.im hl ht h2)
  | _, _, .tup h1 h2 => .tup (ht _ _ h1) (DpAll.im hl ht h2)
theorem DpAll.im {K : PySem.W.Frag} {H H' : Hp} (hl : ∀ b xs, SqL K H b xs → SqL K H' b xs) (ht : ∀ b xs, SqT K H b xs → SqT K H' b xs) : ∀ {v : List V} {d : List PyData}, DpAll K H v d → DpAll K H' v d
  | _, _, .nil => .nil
  | _, _, .cons h1 h2 => .cons (Dp.im hl ht h1) (DpAll.im hl ht h2)
end
theorem DL.ex {K : PySem.W.Frag} {T : Tb} {H H' : Hp} {l : Addr} {ds : List PyData} (h : DL K H l ds) (x : Ex T H H') : DL K H' l ds := by
  obtain ⟨⟨vs, h1, h2⟩, h3⟩ := h
  exact ⟨⟨vs, x.lst h1, DpAll.im (fun _ _ q => x.sqL q) (fun _ _ q => x.sqT q) h2⟩, h3⟩
theorem DL.tri {K : PySem.W.Frag} {H : Hp} {l : Addr} {ps : List Addr} {ts : List (Int × Int × Int)} (h : H l = some (.lst (ps.map V.ref))) (p : Paired (TriAt H) ps ts) : DL K H l (ts.map tri) :=
  ⟨⟨_, h, dpTri K p⟩, fun d hd => by
    obtain ⟨t, _, rfl⟩ := List.mem_map.mp hd
    exact tri_ok t⟩
/-! ### the rows of costs_for -/
def rowsAt (R : List PR) (wd : Bool) (f : Int → Option Int) (i : Nat) : List (Int × Int × Int) := match R[i]? with
  | none => []
  | some r => if apB f r.1.1 = true then (r.1.2.filter fun m => !(f m).isSome).map fun m => (pay wd f r.1.1 r.2, m, (i : Int)) else []
def rowsTo (R : List PR) (wd : Bool) (f : Int → Option Int) : Nat → List (Int × Int × Int)
  | 0 => []
  | n + 1 => rowsTo R wd f n ++ rowsAt R wd f n
theorem mem_rowsAt {R : List PR} {wd : Bool} {f : Int → Option Int} {i : Nat} {t : Int × Int × Int} : t ∈ rowsAt R wd f i ↔ ∃ r, R[i]? = some r ∧ ap f r.1.1 ∧ t.2.1 ∈ r.1.2 ∧ f t.2.1 = none ∧ t.1 = pay wd f r.1.1 r.2 ∧ t.2.2 = (i : Int) := by
  unfold rowsAt
  cases e : R[i]? with
  | none => exact ⟨fun h => (nomatch h), fun ⟨r, h, _⟩ => (nomatch h)⟩
  | some r =>
    show t ∈ (if apB f r.1.1 = true then _ else _) ↔ _
    by_cases q : apB f r.1.1 = true
    · rw [if_pos q, List.mem_map]
      constructor
      · rintro ⟨m, hm, rfl⟩
        obtain ⟨h1, h2⟩ := List.mem_filter.mp hm
        have hn : f m = none := by
          cases e2 : f m with
          | none => rfl
          | some v => rw [e2] at h2; cases h2
        exact ⟨r, rfl, apB_iff.mp q, h1, hn, rfl, rfl⟩
      · rintro ⟨r', h1, h2, h3, h4, h5, h6⟩
        obtain rfl := Option.some.inj h1
        exact ⟨t.2.1, List.mem_filter.mpr ⟨h3, by rw [h4]; rfl⟩, by rw [← h5, ← h6]⟩
    · rw [if_neg q]
      refine ⟨fun h => (nomatch h), fun ⟨r', h1, h2, _⟩ => ?_⟩
      obtain rfl := Option.some.inj h1
      exact absurd (apB_iff.mpr h2) q
theorem mem_rowsTo {R : List PR} {wd : Bool} {f : Int → Option Int} {t : Int × Int × Int} : ∀ {n : Nat}, t ∈ rowsTo R wd f n ↔ ∃ i, i < n ∧ t ∈ rowsAt R wd f i
  | 0 => ⟨fun h => (nomatch h), fun ⟨i, h, _⟩ => absurd h (Nat.not_lt_zero i)⟩
  | n + 1 => by
    show t ∈ rowsTo R wd f n ++ rowsAt R wd f n ↔ _
    rw [List.mem_append, mem_rowsTo]
    constructor
    · rintro (⟨i, h1, h2⟩ | h)
      · exact ⟨i, by omega, h2⟩
      · exact ⟨n, by omega, h⟩
    · rintro ⟨i, h1, h2⟩
      by_cases e : i = n
      · rw [e] at h2
        exact .inr h2
      · exact .inl ⟨i, by omega, h2⟩
theorem rowsTo_len {M : Int} {R : List PR} {wd : Bool} {f : Int → Option Int} (hM : M ≤ 5) (hR : RsOk M R) : ∀ n : Nat, (rowsTo R wd f n).length ≤ 5 * n
  | 0 => Nat.le_refl _
  | n + 1 => by
    have ih := rowsTo_len (wd := wd) (f := f) hM hR n
    show (rowsTo R wd f n ++ rowsAt R wd f n).length ≤ _
    rw [List.length_append]
    have : (rowsAt R wd f n).length ≤ 5 := by
      unfold rowsAt
      cases e : R[n]? with
      | none => exact Nat.zero_le _
      | some r =>
        have h5 := ((hR r (List.mem_of_getElem? e)).2.1.mono hM).len
        show (if apB f r.1.1 = true then _ else _ : List (Int × Int × Int)).length ≤ 5
        split
        · rw [List.length_map]
          exact Nat.le_trans (List.length_filter_le _ _) h5
        · exact Nat.zero_le _
    omega
theorem lk_tab {v : Int → Int} {zs : List Int} (n : zs.Nodup) : addV v [] zs = zs.map fun z => (z, v z) := by
  rw [addV_new v zs [] n (fun z _ => rfl)]
  rfl
/-- a table copied key by key, in order -/
theorem lk_copy {t : List (Int × Int)} {zs : List Int} (h : zs.Perm (t.map (·.1))) : lk (addV (gv (lk t)) [] zs) = lk t := by
  funext m
  rw [lk_addV]
  by_cases q : m ∈ zs
  · rw [if_pos q]
    exact (isSome_gv (lk_mem.mpr (h.mem_iff.mp q))).symm
  · rw [if_neg q]
    cases e : lk t m with
    | none => rfl
    | some v => exact absurd (h.mem_iff.mpr (lk_mem.mp (by rw [e]; rfl))) q
theorem paired_tri {H : Hp} {α : Type} {k : α → Int × Int × Int} : ∀ {ds : List α} {acc : List V}, Paired (fun d v => ∃ q, v = V.ref q ∧ TriAt H q (k d)) ds acc → ∃ ps : List Addr, acc = ps.map V.ref ∧ Paired (TriAt H) ps (ds.map k)
  | _, _, .nil => ⟨[], rfl, .nil⟩
  | _, _, .cons h t => by
    obtain ⟨q, rfl, hq⟩ := h
    obtain ⟨ps, h1, h2⟩ := paired_tri t
    exact ⟨q :: ps, by rw [h1]; rfl, .cons hq h2⟩
theorem paired_append {α β : Type} {F : α → β → Prop} : ∀ {a a' : List α} {b b' : List β}, Paired F a b → Paired F a' b' → Paired F (a ++ a') (b ++ b')
  | _, _, _, _, .nil, h => h
  | _, _, _, _, .cons h t, h2 => .cons h (paired_append t h2)
theorem TriAt.im {H H' : Hp} {p : Addr} {t : Int × Int × Int} (h : TriAt H p t) (k : Im H H') : TriAt H' p t := k p _ h
end Pb
set_option Elab.async false
set_option linter.all false
set_option maxRecDepth 100000
set_option maxHeartbeats 4000000

namespace Pb
open PySem PySem.Spec PyProof.Rows L2
section
variable {P : Program} {w : World} {K : PySem.W.Frag} {mg : Str → Option Value} {base : Heap} {T : Tb}

def spCostsFor (T : Tb) (K : PySem.W.Frag) : Sp := fun vs H Q _ => ∃ (b a pr : Addr) (wd : Bool) (M : Int) (rs : List Ru) (th ws : List Int), vs = [.ref b, .ref a, .ref pr, .str (wS wd)] ∧ Pr K H b a pr M rs th ws ∧
  ∀ (H' : Hp) (q d1 d2 : Addr) (t us : List (Int × Int)) (B : Int), Ex T H H' → H' q = some (.tup [.ref d1, .ref d2]) → KD H' d1 t → KD H' d2 us → Dj M (rs.zip ws) th wd (lk t) (lk us) B → Sol (rs.zip ws) th wd (lk t) → (t.map (·.1)).Pairwise (· < ·) → (us.map (·.1)).Pairwise (· < ·) → Q (.ref q) H'

abbrev N_costs_for : List Str := ["book", "thing", "prices", "word", "mark", "costs", "uses", "rows", "index", "premise", "conclusion", "bill"]
theorem sc_costs_for : FnScope N_costs_for ["book", "thing", "prices", "word"] (defScope sCostsFor) := ⟨rfl, rfl, rfl, by decide +kernel, rfl, by decide +kernel, by decide +kernel⟩
theorem c_costs_for (G : Gx K mg) : C8.Cal P w K mg base 3 "costs_for" (spCostsFor T K) [] := by
  refine calOf G 13 rfl rfl sc_costs_for (fun _ _ _ _ _ _ us hl => match us, hl with | [_, _, _, _], _ => rfl) (fun vs H Q E h => ?_) (fun f cdv A outer s H vs Q E hr h => ?_)
  · obtain ⟨b, a, pr, wd, M, rs, th, ws, rfl, hP, k⟩ := h
    rfl
  · obtain ⟨b, a, pr, wd, M, rs, th, ws, rfl, hP, k⟩ := h
    have hu := hu_of hr
    refine ⟨_, (pss_cons (ps_asg (pe_tup (pa_cons (pe_dc (own := [("mark", 4)]) (g := gName 4) rfl sc_costs_for.nd (pi_tup (pv 1)) (blkOk_by (own := [("mark", 4)]) (N := N_costs_for) (sc := defScope sCostsFor) (by decide +kernel)) (fun _ _ _ _ _ => (pg_name (i := 4) sc_costs_for.nd rfl (Or.inl rfl))) (fun _ _ _ _ _ => pts_nil) (fun _ _ _ _ _ => (pv 4)) (fun _ _ _ _ _ => pe_int)) (pa_cons pe_dnewK (pa_cons (pe_lst (pa_cons pe_non pa_nil)) pa_nil)))) (pg_tup rfl (pgs_cons (pg_name (i := 5) sc_costs_for.nd rfl (Or.inr rfl)) (pgs_cons (pg_name (i := 6) sc_costs_for.nd rfl (Or.inr rfl)) (pgs_cons (pg_name (i := 7) sc_costs_for.nd rfl (Or.inl rfl)) pgs_nil)))))
      (pss_cons (ps_while PassesOwn.never (pt_cmpR (op_neD hr.units) (pv 7) (pe_lst pa_nil) (nomark _))
        (pss_cons (ps_set (i := 7) sc_costs_for.nd rfl (Or.inl rfl) (pe_lst pa_nil))
          (pss_cons (ps_for PassesOwn.never rfl (pi_enumT (by rfl) G.b_enumerate (pa_cons (pe_slK (K := K) rfl (pv 0)) pa_nil)) (pg_tup rfl (pgs_cons (pg_name (i := 8) sc_costs_for.nd rfl (Or.inr rfl)) (pgs_cons (pg_tup rfl (pgs_cons (pg_name (i := 9) sc_costs_for.nd rfl (Or.inl rfl)) (pgs_cons (pg_name (i := 10) sc_costs_for.nd rfl (Or.inl rfl)) pgs_nil))) pgs_nil)))
            (pss_one (ps_if (pt_val (C8.pe_c (c_is_within (T := T) G) hr (by decide) (by rfl) (pa_cons (pv 9) (pa_cons (pv 5) pa_nil))))
                (pss_cons (ps_set (i := 11) sc_costs_for.nd rfl (Or.inr rfl) (C8.pe_c (c_paid (T := T) G) hr (by decide) (by rfl) (pa_cons (pv 5) (pa_cons (pv 9) (pa_cons (pe_ix (ix_tupK (K := K) rfl) (pv 2) (pv 8) (fun _ _ => rfl)) (pa_cons (pv 3) pa_nil))))))
                  (pss_one (ps_expr (pe_bm PySem.F.plainAttrs_list PySem.F.slot_list_extend PySem.F.type_list_extend mt_extend (pv 7) (pa_cons (pe_lc (own := [("mark", 4)]) (g := gName 4) rfl sc_costs_for.nd (pi_tup (pv 10)) (blkOk_by (own := [("mark", 4)]) (N := N_costs_for) (sc := defScope sCostsFor) (by decide +kernel)) (fun _ _ _ _ _ => (pg_name (i := 4) sc_costs_for.nd rfl (Or.inl rfl))) (fun _ _ _ _ _ => pts_one (pt_cmp (pc_dnotin hu (pv 4) (pv 5)))) (fun _ _ _ _ _ => (pe_tup (pa_cons (pv 11) (pa_cons (pv 4) (pa_cons (pv 8) pa_nil)))))) pa_nil))))) pss_nil)))
          (pss_one (ps_if (pt_cmpR (op_neD hr.units) (pv 7) (pe_lst pa_nil) (nomark _))
            (pss_cons (ps_asg (pe_callB (cr_minTri rfl (hu2_of hr)) (by rfl) G.b_min (by decide +kernel) (pa_cons (pv 7) pa_nil)) (pg_tup rfl (pgs_cons (pg_name (i := 11) sc_costs_for.nd rfl (Or.inr rfl)) (pgs_cons (pg_name (i := 4) sc_costs_for.nd rfl (Or.inl rfl)) (pgs_cons (pg_name (i := 8) sc_costs_for.nd rfl (Or.inr rfl)) pgs_nil)))))
              (pss_cons (ps_dput hu (pv 5) (pv 4) (pv 11) rfl)
              (pss_one (ps_dput hu (pv 6) (pv 4) (pv 8) rfl)))) pss_nil)))))
      (pss_one (ps_ret (pe_tup (pa_cons (pe_dc (own := [("mark", 4)]) (g := gName 4) rfl sc_costs_for.nd (pi_list (pe_callB (call_sortedDI rfl) (by rfl) G.b_sorted (by decide +kernel) (pa_cons (pv 5) pa_nil))) (blkOk_by (own := [("mark", 4)]) (N := N_costs_for) (sc := defScope sCostsFor) (by decide +kernel)) (fun _ _ _ _ _ => (pg_name (i := 4) sc_costs_for.nd rfl (Or.inl rfl))) (fun _ _ _ _ _ => pts_nil) (fun _ _ _ _ _ => (pv 4)) (fun _ _ _ _ _ => (pe_dget hu (pv 5) (pv 4) (fun _ _ => rfl)))) (pa_cons (pe_dc (own := [("mark", 4)]) (g := gName 4) rfl sc_costs_for.nd (pi_list (pe_callB (call_sortedDI rfl) (by rfl) G.b_sorted (by decide +kernel) (pa_cons (pv 6) pa_nil))) (blkOk_by (own := [("mark", 4)]) (N := N_costs_for) (sc := defScope sCostsFor) (by decide +kernel)) (fun _ _ _ _ _ => (pg_name (i := 4) sc_costs_for.nd rfl (Or.inl rfl))) (fun _ _ _ _ _ => pts_nil) (fun _ _ _ _ _ => (pv 4)) (fun _ _ _ _ _ => (pe_dget hu (pv 6) (pv 4) (fun _ _ => rfl)))) pa_nil))))))), ?_⟩
    have hR := hP.ok
    have hRl := hP.len
    have hnr := hP.nr
    have hth5 := hP.hth.mono hP.m5
    have lth := hth5.len
    obtain ⟨dx, r, hsl, hrus⟩ := hP.bk
    obtain ⟨as, h1, h2, h3⟩ := hrus.sq
    refine ⟨_, rfl, a, rfl, ⟨_, SqT.of hP.ht⟩, fun D hD => ?_⟩
    refine dc_val (T := T) (ds := th) (f := fun _ => true) (v := fun _ => (0 : Int)) (e := V.int) (walk_tup (xs := th.map V.int)) (by rw [List.length_map]) (by rw [List.length_map]; omega) hD
      (fun H1 x => SqT.of (hP.ht.ex x)) (fun _ _ _ _ _ _ y => yat_ex y) ?_ ?_
    · intro i d v H1 H2 hd _ x y S hS
      obtain ⟨e, q⟩ := y
      subst e
      obtain rfl := at_map q hd
      exact hS _ rfl (evr_yes (roEx T)) (fun _ H3 x3 Q3 k3 => ⟨_, rfl, k3 _ _ (Ex.refl T H3) rfl⟩) (fun _ H3 x3 Q3 k3 => k3 _ _ (Ex.refl T H3) rfl)
    intro H1 x1 hD1
    rw [filter_true] at hD1
    intro U hU
    refine ⟨by show 1 ≤ sizeLine; decide, fun l0 hl0 => ?_⟩
    refine ⟨by show 3 ≤ sizeLine; decide, fun q0 hq0 => ?_⟩
    refine ⟨q0, _, rfl, SqT.of upd_same, rfl, _, _, rfl, _, _, rfl, _, _, rfl, rfl, ?_⟩
    have xU : Ex T H1 (upd H1 U (.dK [])) := Ex.new hU
    have xl := (Ex.new (T := T) hl0 (o := .lst [.non])).push hq0 (o := .tup [.ref D, .ref U, .ref l0])
    have x2 := (x1.trans xU).trans xl
    have ez : lk (addV (fun _ => (0 : Int)) [] th) = z0 th := by
      funext m
      rw [lk_addV]
      rfl
    have nD : NT H D := NT.of hD
    have nU : NT H U := NT.new x1 hU
    have hDU : D ≠ U := ne_of_none hD1 hU
    refine ⟨fun m σ H' => ∃ (t us : List (Int × Int)) (B : Int) (l : Addr) (v4 v8 v9 v10 v11 : Option V) (ds : List PyData), σ = [some (.ref b), some (.ref a), some (.ref pr), some (.str (wS wd)), v4, some (.ref D), some (.ref U), some (.ref l), v8, v9, v10, v11] ∧
      Ex T H H' ∧ KD H' D t ∧ KD H' U us ∧ (t.map (·.1)).Nodup ∧ (us.map (·.1)).Nodup ∧ Dj M (rs.zip ws) th wd (lk t) (lk us) B ∧ DL K H' l ds ∧ (ds = [] → ∀ r ∈ rs.zip ws, ap (lk t) r.1.1 → ∀ m ∈ r.1.2, lk t m ≠ none) ∧ m = 2 * (5 - cn (lk t)) + (if ds.isEmpty = true then 0 else 1),
      ⟨_, addV (fun _ => (0 : Int)) [] th, [], 0, l0, none, none, none, none, none, [.none], rfl, x2, (xU.trans xl).dK hD1, xl.dK upd_same, addV_nodup (fun _ => (0 : Int)) th [] List.nodup_nil, List.nodup_nil, by rw [ez]; exact Dj.init hR hP.hth, ⟨⟨[.non], (Ex.new (T := T) hq0).lst upd_same, .cons .non .nil⟩, fun d hd => by
        rw [List.mem_singleton.mp hd]
        exact ⟨by simp [PyData.canLay0], by simp [PyData.depth]⟩⟩, fun z => (nomatch z), rfl⟩, ?_⟩
    rintro m σ H2 ⟨t, us, B, l, v4, v8, v9, v10, v11, ds, rfl, x2, hKD, hKU, hnt, hnu, hDj, hDL, hnil, rfl⟩
    have ht5 : t.length ≤ 5 := by
      have := nodup_le hnt (m := Pb.U) fun x hx => mem_U.mpr (by have := hDj.dom x (lk_mem.mpr hx); have := hP.m5; omega)
      rw [List.length_map] at this
      exact this
    have hu5 : us.length ≤ 5 := by
      have := nodup_le hnu (m := Pb.U) fun x hx => mem_U.mpr (by have := hDj.dom x ((hDj.us2 x).mp (lk_mem.mpr hx)).1; have := hP.m5; omega)
      rw [List.length_map] at this
      exact this
    refine ⟨_, rfl, by show 0 ≤ sizeLine; exact Nat.zero_le _, fun e he => ?_⟩
    have xe : Ex T H2 (upd H2 e (.lst [])) := Ex.new he
    refine ne_nil (hDL.ex xe) upd_same ⟨_, rfl, ?_⟩
    have x3 := x2.trans xe
    cases ds with
    | nil =>
      refine iteF ?_
      have S := hDj.sol (hnil rfl)
      have hKD3 := hKD.ex xe
      refine ⟨_, rfl, D, _, t.map (·.1), rfl, .inl hKD3, by rw [List.map_map, List.map_map]; rfl, by rw [List.length_map]; omega, fun zs1 p1 hz1 hp1 hpn1 => ⟨p1, rfl, ⟨_, SqL.of upd_same⟩, fun D1 hD1 => ?_⟩⟩
      have x4 := x3.push hpn1 (o := .lst (zs1.map V.int))
      refine dc_val (T := T) (ds := zs1) (f := fun _ => true) (v := gv (lk t)) (e := V.int) (walk_list (xs := zs1.map V.int)) (by rw [List.length_map]) (by rw [List.length_map]; have := hz1.length_eq; rw [List.length_map] at this; omega) hD1
        (fun Hx x => SqL.of (x.lst upd_same)) (fun _ _ _ _ _ _ y => yat_ex y) ?_ ?_
      · intro i d v Hx Hy hd _ x y S hS
        obtain ⟨e, q⟩ := y
        subst e
        obtain rfl := at_map q hd
        have hdm := hz1.mem_iff.mp (List.mem_of_getElem? hd)
        refine hS _ rfl (evr_yes (roEx T)) (fun _ Hz xz Q3 k3 => ⟨_, rfl, k3 _ _ (Ex.refl T Hz) rfl⟩) fun _ Hz xz Q3 k3 => ?_
        exact ⟨_, rfl, _, rfl, D, _, rfl, dget_kd (hKD3.ex (((Ex.new (T := T) hpn1)).trans (x.trans xz))) (isSome_gv (lk_mem.mpr hdm)), k3 _ _ (Ex.refl T Hz) rfl⟩
      intro H5 x5 hD5
      rw [filter_true] at hD5
      have x6 := x4.trans x5
      have hKU5 : KD H5 U us := (hKU.ex xe).ex ((Ex.new (T := T) hpn1).trans x5)
      refine ⟨_, rfl, U, _, us.map (·.1), rfl, .inl hKU5, by rw [List.map_map, List.map_map]; rfl, by rw [List.length_map]; omega, fun zs2 p2 hz2 hp2 hpn2 => ⟨p2, rfl, ⟨_, SqL.of upd_same⟩, fun D2 hD2 => ?_⟩⟩
      have x7 := x6.push hpn2 (o := .lst (zs2.map V.int))
      refine dc_val (T := T) (ds := zs2) (f := fun _ => true) (v := gv (lk us)) (e := V.int) (walk_list (xs := zs2.map V.int)) (by rw [List.length_map]) (by rw [List.length_map]; have := hz2.length_eq; rw [List.length_map] at this; omega) hD2
        (fun Hx x => SqL.of (x.lst upd_same)) (fun _ _ _ _ _ _ y => yat_ex y) ?_ ?_
      · intro i d v Hx Hy hd _ x y S hS
        obtain ⟨e, q⟩ := y
        subst e
        obtain rfl := at_map q hd
        have hdm := hz2.mem_iff.mp (List.mem_of_getElem? hd)
        refine hS _ rfl (evr_yes (roEx T)) (fun _ Hz xz Q3 k3 => ⟨_, rfl, k3 _ _ (Ex.refl T Hz) rfl⟩) fun _ Hz xz Q3 k3 => ?_
        exact ⟨_, rfl, _, rfl, U, _, rfl, dget_kd (hKU5.ex (((Ex.new (T := T) hpn2)).trans (x.trans xz))) (isSome_gv (lk_mem.mpr hdm)), k3 _ _ (Ex.refl T Hz) rfl⟩
      intro H6 x8 hD6
      rw [filter_true] at hD6
      refine ⟨by show 2 ≤ sizeLine; decide, fun q hq => ?_⟩
      have xq : Ex T H6 (upd H6 q (.tup [.ref D1, .ref D2])) := Ex.new hq
      have a1 := asc_of_perm hz1 hnt hp1
      have a2 := asc_of_perm hz2 hnu hp2
      refine k _ q D1 D2 (addV (gv (lk t)) [] zs1) (addV (gv (lk us)) [] zs2) B ((x7.trans x8).trans xq) upd_same (xq.dK (((Ex.new (T := T) hpn2).trans x8).dK hD5)) (xq.dK hD6) ?_ ?_ ?_ ?_
      · rw [lk_copy hz1, lk_copy hz2]
        exact hDj
      · rw [lk_copy hz1]
        exact S
      · rw [lk_tab (asc_nodup a1), List.map_map]
        show (zs1.map id).Pairwise _
        rw [List.map_id]
        exact a1
      · rw [lk_tab (asc_nodup a2), List.map_map]
        show (zs2.map id).Pairwise _
        rw [List.map_id]
        exact a2
    | cons d0 dr =>
      refine iteT ⟨_, fun _ _ h => h, ?_⟩
      refine ⟨by show 0 ≤ sizeLine; exact Nat.zero_le _, fun l1 hl1 => ?_⟩
      have xl1 : Ex T (upd H2 e (.lst [])) (upd (upd H2 e (.lst [])) l1 (.lst [])) := Ex.new hl1
      have x4 := x3.trans xl1
      have nL : NT H l1 := NT.new x3 hl1
      have hP4 := hP.ex x4
      obtain ⟨dx, r, hsl, hrus⟩ := hP4.bk
      obtain ⟨as, h1, h2, h3⟩ := hrus.sq
      generalize hH4 : upd (upd H2 e (.lst [])) l1 (.lst []) = H4 at x4 hP4 hsl hrus h1 h3
      have hKD4 : KD H4 D t := by rw [← hH4]; exact (hKD.ex xe).ex xl1
      have hKU4 : KD H4 U us := by rw [← hH4]; exact (hKU.ex xe).ex xl1
      have hl4 : H4 l1 = some (.lst []) := by rw [← hH4]; exact upd_same
      refine ⟨_, rfl, b, _, dx, _, _, 1, _, rfl, hsl, G.sclsB, G.slR, rfl, r, _, rfl, SqT.of h1, ?_⟩
      refine for_it (walk_enumT (xs := as.map V.ref)) (fun i σ H' => ∃ (v8 v9 v10 v11 : Option V) (ps : List Addr), σ = [some (.ref b), some (.ref a), some (.ref pr), some (.str (wS wd)), v4, some (.ref D), some (.ref U), some (.ref l1), v8, v9, v10, v11] ∧
        Ex T H H' ∧ Im H4 H' ∧ KD H' D t ∧ KD H' U us ∧ H' l1 = some (.lst (ps.map V.ref)) ∧ Paired (TriAt H') ps (rowsTo (rs.zip ws) wd (lk t) i)) ⟨v8, v9, v10, v11, [], rfl, x4, Im.refl _, hKD4, hKU4, hl4, .nil⟩ ?_ ?_ ?_
      · rintro i σ H5 hi ⟨v8, v9, v10, v11, ps, rfl, x5, i5, _⟩
        exact SqT.of (i5 _ _ h1)
      · rintro i x σ H5 H5' hi ⟨v8, v9, v10, v11, ps, rfl, x5, i5, hKD5, hKU5, hl5, hps⟩ ⟨z, u1, u2, rfl, hz, rfl, g1, g2⟩
        obtain rfl : V.int (i : Int) = u1 := Option.some.inj g1
        obtain ⟨ai, hai, rfl⟩ := at_of g2
        obtain ⟨ru, hri, hra⟩ := pair_at h3 hai
        obtain ⟨w, hwi, hRi⟩ := hP.at_ hri
        have hrm := List.mem_of_getElem? hri
        have hru := hP.hr ru hrm
        have xz : Ex T H5 (upd H5 z (.tup [V.int i, V.ref ai])) := Ex.new hz
        have x6 := x5.trans xz
        refine gEnum upd_same (hra.im (i5.trans xz.im)) fun p cc hp hcc => ?_
        have hKD6 := hKD5.ex xz
        have hKU6 := hKU5.ex xz
        have hl6 := xz.lst hl5
        have hps6 := Paired.imp (fun _ _ q => TriAt.im q xz.im) hps
        have i6 := i5.trans xz.im
        generalize upd H5 z (.tup [V.int i, V.ref ai]) = H6 at *
        refine ⟨_, rfl, _, rfl, p, D, ru.1, (fun m => (lk t m).isSome), rfl, hp, by have := (hru.1.mono hP.m5).len; omega, Mem.dk hKD6, fun H7 x7 => ⟨_, rfl, ?_⟩⟩
        have hrows : rowsTo (rs.zip ws) wd (lk t) (i + 1) = rowsTo (rs.zip ws) wd (lk t) i ++ rowsAt (rs.zip ws) wd (lk t) i := rfl
        cases e : apB (lk t) ru.1 with
        | false =>
          have e' : (ru.1.all fun m => (lk t m).isSome) = false := e
          rw [e']
          refine iteF ⟨_, _, _, _, ps, rfl, x6.trans x7, i6.trans x7.im, hKD6.ex x7, hKU6.ex x7, x7.lst hl6, ?_⟩
          have e2 : rowsAt (rs.zip ws) wd (lk t) i = [] := by
            unfold rowsAt
            rw [hRi]
            show (if apB (lk t) ru.1 = true then _ else _) = _
            rw [e]
            rfl
          rw [hrows, e2, List.append_nil]
          exact Paired.imp (fun _ _ q => TriAt.im q x7.im) hps6
        | true =>
          have e' : (ru.1.all fun m => (lk t m).isSome) = true := e
          rw [e']
          have hap := apB_iff.mp e
          refine iteT ?_
          have x67 := x6.trans x7
          refine ⟨_, rfl, _, rfl, _, rfl, _, rfl, pr, _, (i : Int), .int w, rfl, rfl, SqT.of (hP.hp.ex x67), ?_, _, rfl, D, p, w, wd, t, ru.1, rfl, .inl (hKD6.ex x7), hp.ex x7, by have := (hru.1.mono hP.m5).len; omega, hap, fun m _ => gv_nn hDj.nn m, fun H8 x8 => ?_⟩
          · exact atI_nat (by rw [List.getElem?_map, hwi]; rfl)
          have x78 := x7.trans x8
          have hKD8 := hKD6.ex x78
          refine ⟨_, rfl, .inl ⟨rfl, _, SqL.of (x78.lst hl6)⟩, _, rfl, cc, rfl, ⟨_, SqT.of (hcc.ex x78)⟩, fun D5 hD5 => ?_⟩
          refine lc_f (roEx T) trivial (walk_tup (xs := ru.2.map V.int)) (ds := ru.2) (by rw [List.length_map]) (by rw [List.length_map]; have := (hru.2.mono hP.m5).len; omega) hD5 (fun Hx x => SqT.of (HT.ex (hcc.ex x78) x)) (fun _ _ _ _ _ _ y => yat_ex y) (fun m => !(lk t m).isSome)
            (fun m v H' => ∃ q, v = V.ref q ∧ TriAt H' q (pay wd (lk t) ru.1 w, m, (i : Int))) (fun d v Ha Hb im ⟨q, e, h⟩ => ⟨q, e, h.im im⟩) ?_ ?_
          · intro j d v Hx Hy hd _ x y S hS
            obtain ⟨e, q⟩ := y
            subst e
            obtain rfl := at_map q hd
            refine hS _ rfl (fun Hz xz Q3 k3 => ?_) fun _ Hz xz Q4 k4 => ?_
            · refine ⟨_, rfl, _, rfl, D, _, rfl, DGet.k (k := kI d) (hKD8.ex (x.trans xz)), _, rfl, k3 _ _ (Ex.refl T Hz) ?_⟩
              rw [valV_dk, Option.isSome_map]
            · exact ⟨_, rfl, _, rfl, _, rfl, by show 3 ≤ sizeLine; decide, fun q hq => k4 _ _ (Ex.new hq) ⟨q, rfl, upd_same⟩⟩
          · intro acc H9 x9 hD9 hp9
            obtain ⟨ps2, rfl, hps2⟩ := paired_tri hp9
            have x79 := x78.trans x9
            have hl9 := x79.lst hl6
            have e2 : rowsAt (rs.zip ws) wd (lk t) i = (ru.2.filter fun m => !(lk t m).isSome).map fun m => (pay wd (lk t) ru.1 w, m, (i : Int)) := by
              unfold rowsAt
              rw [hRi]
              show (if apB (lk t) ru.1 = true then _ else _) = _
              rw [if_pos e]
            have hlen1 := Paired.length hps6
            have hlen2 := Paired.length hps2
            have hb1 := rowsTo_len (wd := wd) (f := lk t) hP.m5 hR i
            have hb2 := List.length_filter_le (fun m => !(lk t m).isSome) ru.2
            have hb3 := (hru.2.mono hP.m5).len
            rw [List.length_map] at hlen2
            rw [List.length_map] at hi
            refine ⟨l1, D5, _, _, rfl, rfl, hl9, hD9, ?_, _, _, _, _, ps ++ ps2, rfl, Ex.mut (x6.trans x79) nL hl9 trivial, ?_, ?_, ?_, by rw [upd_same, List.map_append], ?_⟩
            · rw [List.length_map, List.length_map]
              exact Nat.le_trans (by omega : _ ≤ 200) (by decide)
            · exact (i6.trans x79.im).trans (Im.mut hl9 trivial)
            · unfold KD
              rw [upd_ne (ne_of (hKD6.ex x79) hl9 (fun z => by cases z))]
              exact hKD6.ex x79
            · unfold KD
              rw [upd_ne (ne_of (hKU6.ex x79) hl9 (fun z => by cases z))]
              exact hKU6.ex x79
            · rw [hrows, e2]
              have im9 : Im H9 (upd H9 l1 (.lst (ps.map V.ref ++ ps2.map V.ref))) := Im.mut hl9 trivial
              exact paired_append (Paired.imp (fun _ _ q => TriAt.im q (x79.im.trans im9)) hps6) (Paired.imp (fun _ _ q => TriAt.im q im9) hps2)
      · rintro σ H5 ⟨v8, v9, v10, v11, ps, rfl, x5, i5, hKD5, hKU5, hl5, hps⟩
        rw [List.length_map, h2, ← hRl] at hps
        refine ⟨_, rfl, by show 0 ≤ sizeLine; exact Nat.zero_le _, fun e2 he2 => ?_⟩
        have xe2 : Ex T H5 (upd H5 e2 (.lst [])) := Ex.new he2
        refine ne_nil ((DL.tri hl5 hps).ex xe2) upd_same ⟨_, rfl, ?_⟩
        have hKD6 := hKD5.ex xe2
        have hKU6 := hKU5.ex xe2
        have hl6 := xe2.lst hl5
        have hps6 := Paired.imp (fun _ _ q => TriAt.im q xe2.im) hps
        have x6 := x5.trans xe2
        generalize upd H5 e2 (.lst []) = H6 at *
        have hcnle := cn_le (lk t)
        cases ets : rowsTo (rs.zip ws) wd (lk t) (rs.zip ws).length with
        | nil =>
          refine iteF ⟨2 * (5 - cn (lk t)), ?_, t, us, B, l1, v4, v8, v9, v10, v11, [], rfl, x6, hKD6, hKU6, hnt, hnu, hDj, ?_, fun _ r hr ha m hm hn => ?_, rfl⟩
          · show 2 * (5 - cn (lk t)) < 2 * (5 - cn (lk t)) + 1
            omega
          · have := DL.tri (K := K) hl6 hps6
            rw [ets] at this
            exact this
          · obtain ⟨j, hj, hjr⟩ := List.getElem_of_mem hr
            have : (pay wd (lk t) r.1.1 r.2, m, (j : Int)) ∈ rowsTo (rs.zip ws) wd (lk t) (rs.zip ws).length := mem_rowsTo.mpr ⟨j, hj, mem_rowsAt.mpr ⟨r, by rw [List.getElem?_eq_getElem hj, hjr], ha, hm, hn, rfl, rfl⟩⟩
            rw [ets] at this
            cases this
        | cons t0 tr =>
          refine iteT ?_
          refine ⟨_, rfl, l1, ps, _, rfl, SqL.of hl6, hps6, by rw [ets]; exact fun z => (nomatch z), fun j pj tj hj1 hj2 hmin => ?_⟩
          obtain ⟨tj', hj3, hTri⟩ := pair_at hps6 hj1
          rw [hj2] at hj3
          obtain rfl := Option.some.inj hj3
          obtain ⟨i, hi, hrow⟩ := mem_rowsTo.mp (List.mem_of_getElem? hj2)
          obtain ⟨ru, hRi, hap, hmc, hmn, hbill, hidx⟩ := mem_rowsAt.mp hrow
          obtain ⟨bill, mk, ix⟩ := tj
          dsimp only at hmc hmn hbill hidx
          subst hbill hidx
          have hrm := List.mem_of_getElem? hRi
          have hmd : 0 ≤ mk ∧ mk < M := (hR ru hrm).2.1.1 mk hmc
          have hcn := hDj.cn (v := pay wd (lk t) ru.1.1 ru.2) hP.m5 hmd hmn
          have hstep := hDj.step hR hRi hap hmc hmn fun r' hr' ha' m' hm' hn' => by
            obtain ⟨j', hj', hjr'⟩ := List.getElem_of_mem hr'
            exact hmin (pay wd (lk t) r'.1.1 r'.2, m', (j' : Int)) (mem_rowsTo.mpr ⟨j', hj', mem_rowsAt.mpr ⟨r', by rw [List.getElem?_eq_getElem hj', hjr'], ha', hm', hn', rfl, rfl⟩⟩)
          have ef : fu (lk t) mk (pay wd (lk t) ru.1.1 ru.2) = lk (pt t mk (pay wd (lk t) ru.1.1 ru.2)) := by
            funext q
            rw [lk_pt]
            rfl
          have eu : fu (lk us) mk (i : Int) = lk (pt us mk (i : Int)) := by
            funext q
            rw [lk_pt]
            rfl
          rw [ef] at hcn
          rw [ef, eu] at hstep
          have hcnle2 := cn_le (lk (pt t mk (pay wd (lk t) ru.1.1 ru.2)))
          generalize pay wd (lk t) ru.1.1 ru.2 = bill at *
          refine ⟨pj, _, rfl, SqT.of hTri, rfl, _, _, rfl, _, _, rfl, _, _, rfl, rfl, ?_⟩
          refine ⟨_, rfl, _, rfl, _, rfl, D, _, rfl, DPut.k (k := kI mk) hKD6 (by rw [List.length_map]; exact Nat.lt_of_le_of_lt ht5 (by decide)), ?_⟩
          rw [putK_dk]
          have x7 : Ex T H (upd H6 D (.dK (dk (pt t mk bill)))) := Ex.mut x6 nD hKD6 trivial
          have hKU7 : KD (upd H6 D (.dK (dk (pt t mk bill)))) U us := by
            unfold KD
            rw [upd_ne (Ne.symm hDU)]
            exact hKU6
          refine ⟨_, rfl, _, rfl, _, rfl, U, _, rfl, DPut.k (k := kI mk) hKU7 (by rw [List.length_map]; exact Nat.lt_of_le_of_lt hu5 (by decide)), ?_⟩
          rw [putK_dk]
          have lD : l1 ≠ D := ne_of hl6 hKD6 (fun z => by cases z)
          have lU : l1 ≠ U := ne_of hl6 hKU6 (fun z => by cases z)
          refine ⟨2 * (5 - cn (lk (pt t mk bill))) + 1, ?_, pt t mk bill, pt us mk (i : Int), bill, l1, _, _, _, _, _, _, rfl, Ex.mut x7 nU hKU7 trivial, ?_, upd_same, pt_nodup hnt, pt_nodup hnu, hstep, DL.tri (K := K) (ps := ps) (ts := t0 :: tr) ?_ ?_, fun z => (nomatch z), rfl⟩
          · show 2 * (5 - cn (lk (pt t mk bill))) + 1 < 2 * (5 - cn (lk t)) + 1
            omega
          · unfold KD
            rw [upd_ne hDU, upd_same]
          · rw [upd_ne lU, upd_ne lD]
            exact hl6
          · rw [← ets]
            exact Paired.imp (fun _ _ q => TriAt.im q ((Im.mut hKD6 trivial).trans (Im.mut hKU7 trivial))) hps6


end
end Pb
set_option Elab.async false
set_option linter.all false
set_option maxRecDepth 100000
set_option maxHeartbeats 4000000
namespace Pb
open PySem PySem.Spec PyProof.Rows L2
theorem hu0_of {k : Nat} {A : Around} (hr : Room k A) : A.units < cLine := by
  have := hr.un
  omega
def optV : Option Int → V
  | none => .non
  | some i => .int i
theorem getD_opt (o : Option Int) : (o.map V.int).getD .non = optV o := by cases o <;> rfl
/-! ### a dict locked and unlocked -/
def IsDc : HO → Prop
  | .dK _ => True
  | .dT _ => True
  | _ => False
section
variable {K : PySem.W.Frag} {T : Tb} {H H' : Hp} {d a : Addr} {u o : HO}
theorem lock_im (h : H d = some u) (w : IsDc u) : Im H (upd H d o) := fun b xs e => by
  rw [upd_ne]
  · exact e
  · intro z
    rw [z, h] at e
    cases e
    exact w
theorem Bk.lock {b : Addr} {M : Int} {rs : List Ru} (hb : Bk K H b M rs) (h : H d = some u) (w : IsDc u) : Bk K (upd H d o) b M rs := by
  obtain ⟨dx, r, h1, h2⟩ := hb
  refine ⟨dx, r, ?_, h2.im (lock_im h w)⟩
  rcases h1 with ⟨_, z⟩ | ⟨e1, e2⟩
  · cases z
  · refine .inr ⟨?_, ?_⟩
    · rw [upd_ne]
      · exact e1
      · intro z
        rw [z, h] at e1
        cases e1
        exact w
    · rw [upd_ne]
      · exact e2
      · intro z
        rw [z, h] at e2
        cases e2
        exact w
theorem Pr.lock {b a pr : Addr} {M : Int} {rs : List Ru} {th ws : List Int} (p : Pr K H b a pr M rs th ws) (h : H d = some u) (w : IsDc u) : Pr K (upd H d o) b a pr M rs th ws :=
  { p with bk := p.bk.lock h w, ht := p.ht.im (lock_im h w), hp := p.hp.im (lock_im h w) }
theorem lock_ex {od : Obj} (h : H d = some u) (w : IsDc u) (x : Ex T (upd H d (.frz od u)) H') : H' d = some (.frz od u) ∧ Ex T H (upd H' d u) := by
  have hf := x.frz (upd_same (H := H) (a := d) (o := .frz od u))
  have nt : ∀ ps, u ≠ .tbl ps := fun ps z => by rw [z] at w; exact w
  have nc : ∀ c q, u ≠ LamX.CodeO c q := fun c q z => by rw [z] at w; exact w
  refine ⟨hf, fun b o' e n => ?_, fun t => ?_⟩
  · by_cases hb : b = d
    · rw [hb, h] at e
      rw [hb, upd_same]
      exact e
    · rw [upd_ne hb]
      exact x.1 b o' (by rw [upd_ne hb]; exact e) n
  · have t1 := tabs_upd (o := .frz od u) t h nt nc
    exact tabs_upd (x.2 t1) hf (fun _ z => by cases z) (fun c q z => by unfold LamX.CodeO at z; cases z)
end
theorem eqI_eqT (t u : List (Int × Int)) : eqI (dk t) (dk u) = eqT t u := by
  unfold eqI eqT
  rw [List.length_map, List.length_map]
  congr 1
  rw [List.all_map]
  refine List.all_congr rfl fun p => ?_
  show decide (valV (dk u) (kI p.1) = some (V.int p.2)) = decide (lk u p.1 = some p.2)
  rw [valV_dk]
  cases e : lk u p.1 with
  | none => rfl
  | some v =>
    show decide (some (V.int v) = some (V.int p.2)) = decide (some v = some p.2)
    by_cases h : v = p.2
    · rw [h, decide_eq_true rfl, decide_eq_true rfl]
    · rw [decide_eq_false (fun z => h (by injection z with z; injection z)), decide_eq_false (fun z => h (by injection z))]
theorem paired_zero {H : Hp} : ∀ {ds : List Int} {acc : List V}, Paired (fun m v => ∃ q, v = V.ref q ∧ H q = some (.tup [.int m, .int 0])) ds acc → ∃ ps : List Addr, acc = ps.map V.ref ∧ Paired (fun p m => H p = some (.tup [.int m, .int 0])) ps ds
  | _, _, .nil => ⟨[], rfl, .nil⟩
  | _, _, .cons h t => by
    obtain ⟨q, rfl, hq⟩ := h
    obtain ⟨ps, h1, h2⟩ := paired_zero t
    exact ⟨q :: ps, by rw [h1]; rfl, .cons hq h2⟩
theorem allI_dk (t : List (Int × Int)) : AllI (dk t) := fun p hp => by
  obtain ⟨q, _, rfl⟩ := List.mem_map.mp hp
  exact ⟨_, rfl⟩
end Pb
set_option Elab.async false
set_option linter.all false
set_option maxRecDepth 100000
set_option maxHeartbeats 4000000

namespace Pb
open PySem PySem.Spec PyProof.Rows L2
section
variable {P : Program} {w : World} {K : PySem.W.Frag} {mg : Str → Option Value} {base : Heap} {T : Tb}

def spCosts (T : Tb) (K : PySem.W.Frag) : Sp := fun vs H Q _ => ∃ (b a pr : Addr) (wd : Bool) (M : Int) (rs : List Ru) (th ws : List Int), vs = [.ref b, .ref a, .ref pr, .str (wS wd)] ∧ Pr K H b a pr M rs th ws ∧
  ∀ (H' : Hp) (c : Addr) (t us : List (Int × Int)) (B : Int), Ex T H H' → CoA K H' c t us → Dj M (rs.zip ws) th wd (lk t) (lk us) B → Sol (rs.zip ws) th wd (lk t) → (t.map (·.1)).Pairwise (· < ·) → (us.map (·.1)).Pairwise (· < ·) → Q (.ref c) H'
def spMarkCosts (T : Tb) (K : PySem.W.Frag) : Sp := fun vs H Q _ => ∃ (b a pr : Addr) (wd : Bool) (M : Int) (rs : List Ru) (th ws : List Int), vs = [.ref b, .ref a, .ref pr, .str (wS wd)] ∧ Pr K H b a pr M rs th ws ∧
  ∀ (H' : Hp) (c : Addr) (f : Int → Option Int), Ex T H H' → Sol (rs.zip ws) th wd f → H' c = some (.tup ((List.range M.toNat).map fun i : Nat => optV (f (i : Int)))) → Q (.ref c) H'
def spLawCosts (T : Tb) (K : PySem.W.Frag) : Sp := fun vs H Q _ => ∃ (r b a pr : Addr) (wd : Bool) (M : Int) (rs : List Ru) (th ws : List Int), vs = [.ref r, .ref a, .ref pr, .str (wS wd)] ∧ Pr K H b a pr M rs th ws ∧ Rus H r rs ∧
  ∀ (H' : Hp) (d : Addr) (t : List (Int × Int)), Ex T H H' → KD H' d t → (t.map (·.1)).Nodup → Sol (rs.zip ws) th wd (lk t) → Q (.ref d) H'
def spCostsRight (T : Tb) (K : PySem.W.Frag) : Sp := fun vs H Q _ => ∃ (b a pr d e g : Addr) (wd : Bool) (M : Int) (rs : List Ru) (th ws : List Int) (due t us : List (Int × Int)), vs = [.ref b, .ref a, .ref pr, .str (wS wd), .ref d, .ref e, .ref g] ∧ Pr K H b a pr M rs th ws ∧
  KD H d due ∧ KD H e t ∧ KD H g us ∧ (due.map (·.1)).Nodup ∧ NN (lk due) ∧ due.length ≤ 100 ∧ ∀ H', Ex T H H' → Q (.bl (rightB (rs.zip ws) th wd due t us)) H'

abbrev N_costs : List Str := ["book", "thing", "prices", "word", "found"]
theorem sc_costs : FnScope N_costs ["book", "thing", "prices", "word"] (defScope sCosts) := ⟨rfl, rfl, rfl, by decide +kernel, rfl, by decide +kernel, by decide +kernel⟩
theorem c_costs (G : Gx K mg) : C8.Cal P w K mg base 6 "costs" (spCosts T K) [] := by
  refine calOf G 14 rfl rfl sc_costs (fun _ _ _ _ _ _ us hl => match us, hl with | [_, _, _, _], _ => rfl) (fun vs H Q E h => ?_) (fun f cdv A outer s H vs Q E hr h => ?_)
  · obtain ⟨b, a, pr, wd, M, rs, th, ws, rfl, hP, k⟩ := h
    rfl
  · obtain ⟨b, a, pr, wd, M, rs, th, ws, rfl, hP, k⟩ := h
    refine ⟨_, (pss_cons (ps_expr (C8.pe_c (c_check_costs (T := T) G) hr (by decide) (by rfl) (pa_cons (pv 0) (pa_cons (pv 1) (pa_cons (pv 2) (pa_cons (pv 3) pa_nil))))))
      (pss_cons (ps_set (i := 4) sc_costs.nd rfl (Or.inl rfl) (C8.pe_c (c_costs_for (T := T) G) hr (by decide) (by rfl) (pa_cons (pv 0) (pa_cons (pv 1) (pa_cons (pv 2) (pa_cons (pv 3) pa_nil))))))
      (pss_one (ps_ret (C8.pe_mk (c_Costs (T := T) G) hr (by decide) (by rfl) (pa_cons (pe_ix (ix_tupK (K := K) rfl) (pv 4) pe_int (fun _ _ => rfl)) (pa_cons (pe_ix (ix_tupK (K := K) rfl) (pv 4) pe_int (fun _ _ => rfl)) pa_nil))))))), ?_⟩
    refine ⟨_, rfl, _, rfl, _, rfl, _, rfl, b, a, pr, wd, M, rs, th, ws, rfl, hP, fun H1 x1 => ?_⟩
    refine ⟨_, rfl, _, rfl, _, rfl, _, rfl, b, a, pr, wd, M, rs, th, ws, rfl, hP.ex x1, fun H2 q d1 d2 t us B x2 hq h1 h2 hDj hS ha hb => ?_⟩
    refine ⟨_, rfl, q, _, 0, _, rfl, rfl, SqT.of hq, rfl, _, rfl, q, _, 1, _, rfl, rfl, SqT.of hq, rfl, fun x dx hx hdx hne => ?_⟩
    have y1 : Ex T H2 (upd H2 dx (.own x)) := Ex.new hdx
    have hx2 : upd H2 dx (.own x) x = none := by rw [upd_ne (Ne.symm hne)]; exact hx
    have y2 : Ex T H2 (upd (upd H2 dx (.own x)) x (.ins (He.ga K "Costs") dx [])) := y1.push hx2
    refine ⟨x, dx, d1, d2, t, us, rfl, upd_same, h1.ex y2, h2.ex y2, fun H3 eb hco => ⟨rfl, ?_⟩⟩
    exact k H3 x t us B ((x1.trans x2).trans (Ex.eb y2 eb fun b hb => by rw [List.mem_singleton.mp hb]; exact hx)) hco hDj hS ha hb


abbrev N_mark_costs : List Str := ["book", "thing", "prices", "word", "found", "mark"]
theorem sc_mark_costs : FnScope N_mark_costs ["book", "thing", "prices", "word"] (defScope sMarkCosts) := ⟨rfl, rfl, rfl, by decide +kernel, rfl, by decide +kernel, by decide +kernel⟩
theorem c_mark_costs (G : Gx K mg) : C8.Cal P w K mg base 6 "mark_costs" (spMarkCosts T K) [] := by
  refine calOf G 15 rfl rfl sc_mark_costs (fun _ _ _ _ _ _ us hl => match us, hl with | [_, _, _, _], _ => rfl) (fun vs H Q E h => ?_) (fun f cdv A outer s H vs Q E hr h => ?_)
  · obtain ⟨b, a, pr, wd, M, rs, th, ws, rfl, hP, k⟩ := h
    rfl
  · obtain ⟨b, a, pr, wd, M, rs, th, ws, rfl, hP, k⟩ := h
    have hu := hu_of hr
    refine ⟨_, (pss_cons (ps_expr (C8.pe_c (c_check_costs (T := T) G) hr (by decide) (by rfl) (pa_cons (pv 0) (pa_cons (pv 1) (pa_cons (pv 2) (pa_cons (pv 3) pa_nil))))))
      (pss_cons (ps_set (i := 4) sc_mark_costs.nd rfl (Or.inr rfl) (pe_ix (ix_tupK (K := K) rfl) (C8.pe_c (c_costs_for (T := T) G) hr (by decide) (by rfl) (pa_cons (pv 0) (pa_cons (pv 1) (pa_cons (pv 2) (pa_cons (pv 3) pa_nil))))) pe_int (fun _ _ => rfl)))
      (pss_one (ps_ret (pe_callTy call_tuple_of (by rfl) G.b_tuple (by decide +kernel) (pa_cons (pe_lc (own := [("mark", 5)]) (g := gName 5) rfl sc_mark_costs.nd (pi_range1 (by rfl) G.b_range (pa_cons (pe_slK (K := K) rfl (pv 0)) pa_nil)) (blkOk_by (own := [("mark", 5)]) (N := N_mark_costs) (sc := defScope sMarkCosts) (by decide +kernel)) (fun _ _ _ _ _ => (pg_name (i := 5) sc_mark_costs.nd rfl (Or.inl rfl))) (fun _ _ _ _ _ => pts_nil) (fun _ _ _ _ _ => (pe_dget1 hu (pv 4) (pv 5) ⟨rfl, rfl, rfl, rfl⟩))) pa_nil)))))), ?_⟩
    refine ⟨_, rfl, _, rfl, _, rfl, _, rfl, b, a, pr, wd, M, rs, th, ws, rfl, hP, fun H1 x1 => ?_⟩
    refine ⟨_, rfl, _, rfl, _, rfl, _, rfl, b, a, pr, wd, M, rs, th, ws, rfl, hP.ex x1, fun H2 q d1 d2 t us B x2 hq h1 h2 hDj hS ha hb => ?_⟩
    refine ⟨q, _, 0, _, rfl, rfl, SqT.of hq, rfl, ?_⟩
    have hm1 := hP.m1
    have hm5 := hP.m5
    have hP2 := (hP.ex x1).ex x2
    obtain ⟨dx, r, hsl, _⟩ := hP2.bk
    refine ⟨_, rfl, b, _, dx, _, _, 0, _, rfl, hsl, G.sclsB, G.slM, rfl, M, rfl, by omega, by omega, fun D hD => ?_⟩
    refine lc_all (T := T) (ds := List.range M.toNat) (k := fun i : Nat => optV (lk t (i : Int))) (walk_range (lo := 0) (n := M.toNat)) (by rw [List.length_range]) (by omega) hD (fun _ _ => trivial) (fun _ _ _ _ _ _ y => yfn_ex y) ?_ ?_
    · intro i d v H3 H4 hd _ x y S hS
      obtain ⟨e, q⟩ := y
      subst e q
      have hdi : d = i := by
        rw [List.getElem?_range] at hd
        · exact (Option.some.inj hd).symm
        · have := (List.getElem?_eq_some_iff.mp hd).1
          rw [List.length_range] at this
          exact this
      subst hdi
      refine hS _ rfl fun H5 x5 Q5 k5 => ?_
      have hk := h1.ex (x.trans x5)
      have e0 : V.int (0 + (d : Int)) = V.int (d : Int) := by rw [Int.zero_add]
      refine ⟨_, rfl, d1, rfl, .inl ⟨_, .inl hk⟩, _, rfl, (lk t (d : Int)).map V.int, ?_, k5 _ _ (Ex.refl T H5) (getD_opt _)⟩
      show DGet H5 d1 (V.int (0 + (d : Int))) _
      rw [e0]
      exact .inl ⟨_, kI d, .inl hk, rfl, (valV_dk t d).symm⟩
    · intro H3 x3 hD3
      exact ⟨D, _, rfl, .inl ⟨SqL.of hD3, fun l hl => k _ l (lk t) (((x1.trans x2).trans x3).push hl) hS upd_same⟩⟩


abbrev N_law_costs : List Str := ["_law_rules_here", "_law_thing", "_law_prices", "_law_word", "_law_mark", "_law_table", "_law_has_changed", "_law_first", "_law_late", "_law_price", "_law_found"]
theorem sc_law_costs : FnScope N_law_costs ["_law_rules_here", "_law_thing", "_law_prices", "_law_word"] (defScope sLCosts) := ⟨rfl, rfl, rfl, by decide +kernel, rfl, by decide +kernel, by decide +kernel⟩
theorem c_law_costs (G : Gx K mg) : C8.Cal P w K mg base 2 "_law_costs" (spLawCosts T K) [] := by
  refine calOf G 31 rfl rfl sc_law_costs (fun _ _ _ _ _ _ us hl => match us, hl with | [_, _, _, _], _ => rfl) (fun vs H Q E h => ?_) (fun f cdv A outer s H vs Q E hr h => ?_)
  · obtain ⟨r, b, a, pr, wd, M, rs, th, ws, rfl, hP, hrus, k⟩ := h
    rfl
  · obtain ⟨r, b, a, pr, wd, M, rs, th, ws, rfl, hP, hrus, k⟩ := h
    have hu := hu_of hr
    refine ⟨_, (pss_cons (ps_par (i := 5) (j := 6) rfl sc_law_costs.nd rfl rfl (by decide) rfl rfl (pa_cons (pe_callTy (call_dictP rfl) (by rfl) G.b_dict (by decide +kernel) (pa_cons (pe_lc (own := [("_law_mark", 4)]) (g := gName 4) rfl sc_law_costs.nd (pi_tup (pv 1)) (blkOk_by (own := [("_law_mark", 4)]) (N := N_law_costs) (sc := defScope sLCosts) (by decide +kernel)) (fun _ _ _ _ _ => (pg_name (i := 4) sc_law_costs.nd rfl (Or.inl rfl))) (fun _ _ _ _ _ => pts_nil) (fun _ _ _ _ _ => (pe_tup (pa_cons (pv 4) (pa_cons pe_int pa_nil))))) pa_nil)) (pa_cons pe_bl pa_nil)) (by rfl))
      (pss_cons (ps_while PassesOwn.never (pt_val (pv 6))
        (pss_cons (ps_set (i := 6) sc_law_costs.nd rfl (Or.inl rfl) pe_bl)
          (pss_one (ps_for PassesOwn.never rfl (RZ.pi_zipA (by rfl) G.b_zip (pa_cons (pv 0) (pa_cons (pv 2) pa_nil))) (pg_tup rfl (pgs_cons (pg_tup rfl (pgs_cons (pg_name (i := 7) sc_law_costs.nd rfl (Or.inl rfl)) (pgs_cons (pg_name (i := 8) sc_law_costs.nd rfl (Or.inl rfl)) pgs_nil))) (pgs_cons (pg_name (i := 9) sc_law_costs.nd rfl (Or.inl rfl)) pgs_nil)))
            (pss_one (ps_if (pt_val (C8.pe_c (c_law_within (T := T) G) hr (by decide) (by rfl) (pa_cons (pv 7) (pa_cons (pv 5) pa_nil))))
                (pss_one (ps_for PassesOwn.never rfl (pi_tup (pv 8)) (pg_name (i := 4) sc_law_costs.nd rfl (Or.inl rfl))
                    (pss_cons (ps_set (i := 10) sc_law_costs.nd rfl (Or.inl rfl) (C8.pe_c (c_law_paid (T := T) G) hr (by decide) (by rfl) (pa_cons (pv 5) (pa_cons (pv 7) (pa_cons (pv 9) (pa_cons (pv 3) pa_nil))))))
                      (pss_one (ps_if (PW.pt (pw_or (pt_cmp (pc_dnotin hu (pv 4) (pv 5))) (pw_or1 (pt_cmpR op_lt (pv 10) (pe_dget hu (pv 5) (pv 4) (fun _ _ => rfl)) (nomark _)))))
                        (pss_cons (ps_dput hu (pv 5) (pv 4) (pv 10) rfl)
                          (pss_one (ps_set (i := 6) sc_law_costs.nd rfl (Or.inl rfl) pe_bl))) pss_nil))))) pss_nil))))))
      (pss_one (ps_ret (pv 5))))), ?_⟩
    have hR := hP.ok
    have hRl := hP.len
    have hnr := hP.nr
    have lth := (hP.hth.mono hP.m5).len
    obtain ⟨as, h1, h2, h3⟩ := hrus.sq
    have hn : (rs.zip ws).length = min (as.map V.ref).length (ws.map V.int).length := by
      rw [List.length_map, List.length_map, h2, hP.nw, hRl]
      omega
    refine ⟨_, rfl, a, rfl, ⟨_, SqT.of hP.ht⟩, fun D0 hD0 => ?_⟩
    refine lc_f (roEx T) trivial (walk_tup (xs := th.map V.int)) (ds := th) (by rw [List.length_map]) (by rw [List.length_map]; omega) hD0 (fun Hx x => SqT.of (hP.ht.ex x)) (fun _ _ _ _ _ _ y => yat_ex y) (fun _ => true)
      (fun m v H' => ∃ q, v = V.ref q ∧ H' q = some (.tup [.int m, .int 0])) (fun d v Ha Hb im ⟨q, e, h⟩ => ⟨q, e, im _ _ h⟩) ?_ ?_
    · intro j d v Hx Hy hd _ x y S hS
      obtain ⟨e, q⟩ := y
      subst e
      obtain rfl := at_map q hd
      refine hS _ rfl (evr_yes (roEx T)) fun _ Hz xz Q4 k4 => ?_
      exact ⟨_, rfl, by show 2 ≤ sizeLine; decide, fun q hq => k4 _ _ (Ex.new hq) ⟨q, rfl, upd_same⟩⟩
    intro acc H1 x1 hD1 hp1
    rw [filter_true] at hp1
    obtain ⟨ps, rfl, hps⟩ := paired_zero hp1
    refine ⟨D0, ps, th.map fun m => (kI m, V.int 0), rfl, SqL.of hD1, ?_, fun D hD => ?_⟩
    · have key : ∀ {l : List Addr} {m : List Int}, Paired (fun p m => H1 p = some (.tup [.int m, .int 0])) l m → Paired (fun p kv => SqT K H1 p [kV kv.1, kv.2]) l (m.map fun m => (kI m, V.int 0)) := by
        intro l m q
        induction q with
        | nil => exact .nil
        | cons h t ih => exact .cons (SqT.of h) ih
      exact key hps
    have em : mergeK [] (th.map fun m => (kI m, V.int 0)) = dk (addV (fun _ => (0 : Int)) [] th) := by
      have := mergeK_of V.int (th.map fun z => (z, (0 : Int))) []
      rw [fold_map (fun _ => (0 : Int))] at this
      have e2 : (th.map fun m => (kI m, V.int 0)) = dkv V.int (th.map fun z => (z, (0 : Int))) := by
        show _ = List.map _ (List.map _ _)
        rw [List.map_map]
        rfl
      rw [e2]
      exact this
    rw [em]
    have ez : lk (addV (fun _ => (0 : Int)) [] th) = z0 th := by
      funext m
      rw [lk_addV]
      rfl
    have nD : NT H D := NT.new x1 hD
    refine ⟨_, _, rfl, ?_⟩
    refine ⟨fun m σ H' => ∃ (t : List (Int × Int)) (c : Bool) (v4 v7 v8 v9 v10 : Option V), σ = [some (.ref r), some (.ref a), some (.ref pr), some (.str (wS wd)), v4, some (.ref D), some (.bl c), v7, v8, v9, v10] ∧ Ex T H H' ∧ KD H' D t ∧ (t.map (·.1)).Nodup ∧ Pre M (rs.zip ws) th wd (lk t) ∧
      (c = false → ∀ r ∈ rs.zip ws, ap (lk t) r.1.1 → ∀ m ∈ r.1.2, ∃ v, lk t m = some v ∧ v ≤ pay wd (lk t) r.1.1 r.2) ∧ m = 2 * mu (lk t) + (if c = true then 1 else 0),
      ⟨_, _, true, none, none, none, none, none, rfl, x1.push hD, upd_same, addV_nodup (fun _ => (0 : Int)) th [] List.nodup_nil, by rw [ez]; exact Pre.init hP.hth, fun z => (nomatch z), rfl⟩, ?_⟩
    rintro m σ H2 ⟨t, c, v4, v7, v8, v9, v10, rfl, x2, hKD, hnt, hPre, hcc, rfl⟩
    refine ⟨_, rfl, c, rfl, ?_⟩
    cases c with
    | false => exact iteF ⟨_, rfl, k _ D t x2 hKD hnt (hPre.sol (hcc rfl))⟩
    | true =>
      refine iteT ⟨_, fun _ _ h => h, ?_⟩
      refine ⟨_, rfl, _, rfl, r, pr, _, _, rfl, .inr ⟨SqT.of (x2.tup h1), SqT.of (x2.tup hP.hp), ?_⟩⟩
      refine for_it (walk_zipA hn) (fun i σ H' => ∃ (u : List (Int × Int)) (c : Bool) (v4 v7 v8 v9 v10 : Option V), σ = [some (.ref r), some (.ref a), some (.ref pr), some (.str (wS wd)), v4, some (.ref D), some (.bl c), v7, v8, v9, v10] ∧ Ex T H H' ∧ KD H' D u ∧ (u.map (·.1)).Nodup ∧ Pre M (rs.zip ws) th wd (lk u) ∧
          (c = false → u = t ∧ ∀ (j : Nat) (r : PR), j < i → (rs.zip ws)[j]? = some r → ap (lk u) r.1.1 → ∀ m ∈ r.1.2, ∃ v, lk u m = some v ∧ v ≤ pay wd (lk u) r.1.1 r.2) ∧ (c = true → mu (lk u) < mu (lk t)) ∧ mu (lk u) ≤ mu (lk t))
        ⟨t, false, v4, v7, v8, v9, v10, rfl, x2, hKD, hnt, hPre, fun _ => ⟨rfl, fun j r z => absurd z (Nat.not_lt_zero j)⟩, fun z => (nomatch z), Nat.le_refl _⟩ ?_ ?_ ?_
      · rintro i σ H3 hi ⟨u, c, v4, v7, v8, v9, v10, rfl, x3, _⟩
        exact ⟨SqT.of (x3.tup h1), SqT.of (x3.tup hP.hp)⟩
      · rintro i x σ H3 H3' hi ⟨u, c, v4, v7, v8, v9, v10, rfl, x3, hKD3, hnu, hPu, hcf, hct, hmu⟩ ⟨z, u1, u2, rfl, hz, rfl, g1, g2⟩
        obtain ⟨ai, hai, rfl⟩ := at_of g1
        obtain ⟨w, hwi, rfl⟩ := at_of g2
        obtain ⟨ru, hri, hra⟩ := pair_at h3 hai
        have hRi : (rs.zip ws)[i]? = some (ru, w) := by rw [List.getElem?_zip_eq_some]; exact ⟨hri, hwi⟩
        have hrR := List.mem_of_getElem? hRi
        have hru := hP.hr ru (List.mem_of_getElem? hri)
        have x4 := x3.push hz (o := .tup [V.ref ai, V.int w])
        refine gZip (r := ru) upd_same (hra.im x4.im) fun p cc hp hcc2 => ?_
        have hKD4 := hKD3.ex (Ex.new (T := T) hz (o := .tup [V.ref ai, V.int w]))
        generalize upd H3 z (.tup [V.ref ai, V.int w]) = H4 at *
        refine ⟨_, rfl, _, rfl, p, D, ru.1, (fun m => (lk u m).isSome), rfl, hp, by have := (hru.1.mono hP.m5).len; omega, Mem.dk hKD4, fun H5 x5 => ⟨_, rfl, ?_⟩⟩
        cases e : apB (lk u) ru.1 with
        | false =>
          have e' : (ru.1.all fun m => (lk u m).isSome) = false := e
          rw [e']
          refine iteF ⟨u, c, _, _, _, _, _, rfl, x4.trans x5, hKD4.ex x5, hnu, hPu, fun q => ⟨(hcf q).1, fun j r' hj hr2 ha => ?_⟩, hct, hmu⟩
          rcases Nat.lt_or_ge j i with z | z
          · exact (hcf q).2 j r' z hr2 ha
          · have ej : j = i := by omega
            rw [ej, hRi] at hr2
            obtain rfl := Option.some.inj hr2
            have := apB_iff.mpr ha
            rw [e] at this
            cases this
        | true =>
          have e' : (ru.1.all fun m => (lk u m).isSome) = true := e
          rw [e']
          have x45 := x4.trans x5
          refine iteT ⟨_, rfl, cc, rfl, ⟨_, SqT.of (hcc2.ex x5)⟩, ?_⟩
          refine for_tup (xs := ru.2.map V.int) (fun q σ H' => ∃ (s : List (Int × Int)) (c' : Bool) (v4 v10 : Option V), σ = [some (.ref r), some (.ref a), some (.ref pr), some (.str (wS wd)), v4, some (.ref D), some (.bl c'), some (.ref p), some (.ref cc), some (.int w), v10] ∧ Ex T H H' ∧ KD H' D s ∧ HT H' p ru.1 ∧ HT H' cc ru.2 ∧ (s.map (·.1)).Nodup ∧ Pre M (rs.zip ws) th wd (lk s) ∧ ap (lk s) ru.1 ∧
            (c' = false → c = false ∧ s = u ∧ ∀ (j : Nat) (m : Int), j < q → ru.2[j]? = some m → ∃ v, lk s m = some v ∧ v ≤ pay wd (lk s) ru.1 w) ∧ (c' = true → mu (lk s) < mu (lk t)) ∧ mu (lk s) ≤ mu (lk t))
            ⟨u, c, _, _, rfl, x45, hKD4.ex x5, hp.ex x5, hcc2.ex x5, hnu, hPu, apB_iff.mp e, fun q => ⟨q, rfl, fun j m z => absurd z (Nat.not_lt_zero j)⟩, hct, hmu⟩ ?_ ?_ ?_
          · rintro q σ H6 hq ⟨s, c', v4, v10, rfl, x6, hKD6, hp6, hc6, _⟩
            exact SqT.of hc6
          · rintro q x σ H6 hx ⟨s, c', v4, v10, rfl, x6, hKD6, hp6, hc6, hns, hPs, haps, hf6, ht6, hm6⟩
            obtain ⟨m, hm, rfl⟩ := at_of hx
            have hmem := List.mem_of_getElem? hm
            refine ⟨_, rfl, _, rfl, _, rfl, _, rfl, D, p, w, wd, s, ru.1, rfl, .inl hKD6, hp6, by have := (hru.1.mono hP.m5).len; omega, haps, fun m _ => gv_nn hPs.nn m, fun H7 x7 => ?_⟩
            have hKD7 := hKD6.ex x7
            have hle5 : s.length ≤ 5 := by
              have := nodup_le hns (m := Pb.U) fun x hx => mem_U.mpr (by have := hPs.dom x (lk_mem.mpr hx); have := hP.m5; omega)
              rw [List.length_map] at this
              exact this
            have hget : DGet H7 D (.int m) ((lk s m).map V.int) := by
              have := DGet.k (k := kI m) hKD7
              rw [valV_dk] at this
              exact this
            have noch : (∃ v, lk s m = some v ∧ v ≤ pay wd (lk s) ru.1 w) → (c' = false → c = false ∧ s = u ∧ ∀ (j : Nat) (m : Int), j < q + 1 → ru.2[j]? = some m → ∃ v, lk s m = some v ∧ v ≤ pay wd (lk s) ru.1 w) := fun hv z => ⟨(hf6 z).1, (hf6 z).2.1, fun j m' hj hm' => by
              rcases Nat.lt_or_ge j q with z2 | z2
              · exact (hf6 z).2.2 j m' z2 hm'
              · have ej : j = q := by omega
                rw [ej, hm] at hm'
                obtain rfl := Option.some.inj hm'
                exact hv⟩
            have x67 := x6.trans x7
            refine ⟨_, rfl, _, rfl, D, _, rfl, hget, _, rfl, ?_⟩
            cases e2 : lk s m with
            | none =>
                refine iteT (iteT ?_)
                obtain ⟨st1, st2⟩ := hPs.step hP.m5 hR hrR haps hmem (.inl e2)
                have ef : fu (lk s) m (pay wd (lk s) ru.1 w) = lk (pt s m (pay wd (lk s) ru.1 w)) := by
                  funext j
                  rw [lk_pt]
                  rfl
                dsimp only at st1 st2
                rw [ef] at st1 st2
                refine ⟨_, rfl, _, rfl, _, rfl, D, _, rfl, DPut.k (k := kI m) hKD7 (by rw [List.length_map]; exact Nat.lt_of_le_of_lt hle5 (by decide)), ?_⟩
                rw [putK_dk]
                have im := Im.mut (o := .dK (dk (pt s m (pay wd (lk s) ru.1 w)))) hKD7 trivial
                refine ⟨pt s m (pay wd (lk s) ru.1 w), true, _, _, rfl, Ex.mut x67 nD hKD7 trivial, upd_same, (hp6.ex x7).im im, (hc6.ex x7).im im, pt_nodup hns, st1, fun j hj => ?_, fun z => (nomatch z), fun _ => by omega, by omega⟩
                rw [← ef, fu_some]
                split
                · rfl
                · exact haps j hj
            | some v =>
                refine iteF ?_
                have hget2 : DGet H7 D (.int m) (some (.int v)) := dget_kd hKD7 e2
                refine ⟨_, rfl, _, rfl, _, rfl, D, _, rfl, hget2, _, _, rfl, rfl, _, rfl, ?_⟩
                by_cases hlt : pay wd (lk s) ru.1 w < v
                · rw [decide_eq_true hlt]
                  refine iteT ?_
                  obtain ⟨st1, st2⟩ := hPs.step hP.m5 hR hrR haps hmem (.inr (by rw [gv_some e2]; exact hlt))
                  have ef : fu (lk s) m (pay wd (lk s) ru.1 w) = lk (pt s m (pay wd (lk s) ru.1 w)) := by
                    funext j
                    rw [lk_pt]
                    rfl
                  dsimp only at st1 st2
                  rw [ef] at st1 st2
                  refine ⟨_, rfl, _, rfl, _, rfl, D, _, rfl, DPut.k (k := kI m) hKD7 (by rw [List.length_map]; exact Nat.lt_of_le_of_lt hle5 (by decide)), ?_⟩
                  rw [putK_dk]
                  have im := Im.mut (o := .dK (dk (pt s m (pay wd (lk s) ru.1 w)))) hKD7 trivial
                  refine ⟨pt s m (pay wd (lk s) ru.1 w), true, _, _, rfl, Ex.mut x67 nD hKD7 trivial, upd_same, (hp6.ex x7).im im, (hc6.ex x7).im im, pt_nodup hns, st1, fun j hj => ?_, fun z => (nomatch z), fun _ => by omega, by omega⟩
                  rw [← ef, fu_some]
                  split
                  · rfl
                  · exact haps j hj
                · rw [decide_eq_false hlt]
                  exact iteF ⟨s, c', _, _, rfl, x67, hKD7, hp6.ex x7, hc6.ex x7, hns, hPs, haps, noch ⟨v, e2, by omega⟩, ht6, hm6⟩
          · rintro σ H6 ⟨s, c', v4, v10, rfl, x6, hKD6, hp6, hc6, hns, hPs, haps, hf6, ht6, hm6⟩
            refine ⟨s, c', _, _, _, _, _, rfl, x6, hKD6, hns, hPs, fun z => ?_, ht6, hm6⟩
            obtain ⟨q1, q2, q3⟩ := hf6 z
            obtain ⟨q4, q5⟩ := hcf q1
            refine ⟨q2.trans q4, fun j r' hj hr2 ha m hm => ?_⟩
            rcases Nat.lt_or_ge j i with z2 | z2
            · rw [q2] at ha ⊢
              exact q5 j r' z2 hr2 ha m hm
            · have ej : j = i := by omega
              rw [ej, hRi] at hr2
              obtain rfl := Option.some.inj hr2
              obtain ⟨j2, hj2, hjr2⟩ := List.getElem_of_mem hm
              exact q3 j2 m (by rw [List.length_map]; exact hj2) (by rw [List.getElem?_eq_getElem hj2, hjr2])
      · rintro σ H3 ⟨u, c, v4, v7, v8, v9, v10, rfl, x3, hKD3, hnu, hPu, hcf, hct, hmu⟩
        refine ⟨2 * mu (lk u) + (if c = true then 1 else 0), ?_, u, c, _, _, _, _, _, rfl, x3, hKD3, hnu, hPu, fun z r hr ha m hm => ?_, rfl⟩
        · show 2 * mu (lk u) + (if c = true then 1 else 0) < 2 * mu (lk t) + 1
          cases c with
          | true =>
            have := hct rfl
            show 2 * mu (lk u) + 1 < _
            omega
          | false =>
            show 2 * mu (lk u) + 0 < _
            omega
        · obtain ⟨j, hj, hjr⟩ := List.getElem_of_mem hr
          exact (hcf z).2 j r hj (by rw [List.getElem?_eq_getElem hj, hjr]) ha m hm


end
end Pb
set_option Elab.async false
set_option linter.all false
set_option maxRecDepth 100000
set_option maxHeartbeats 4000000

namespace Pb
open PySem PySem.Spec PyProof.Rows L2
section
variable {P : Program} {w : World} {K : PySem.W.Frag} {mg : Str → Option Value} {base : Heap} {T : Tb}

abbrev N_law_costs_right : List Str := ["_law_book", "_law_thing", "_law_prices", "_law_word", "_law_due", "_law_table", "_law_uses", "_law_mark", "_law_first", "_law_late"]
theorem sc_law_costs_right : FnScope N_law_costs_right ["_law_book", "_law_thing", "_law_prices", "_law_word", "_law_due", "_law_table", "_law_uses"] (defScope sLCostsRight) := ⟨rfl, rfl, rfl, by decide +kernel, rfl, by decide +kernel, by decide +kernel⟩
theorem c_law_costs_right (G : Gx K mg) : C8.Cal P w K mg base 3 "_law_costs_right" (spCostsRight T K) [] := by
  refine calOf G 32 rfl rfl sc_law_costs_right (fun _ _ _ _ _ _ us hl => match us, hl with | [_, _, _, _, _, _, _], _ => rfl) (fun vs H Q E h => ?_) (fun f cdv A outer s H vs Q E hr h => ?_)
  · obtain ⟨b, a, pr, d, e, g, wd, M, rs, th, ws, due, t, us, rfl, hP, hd, he, hg, hnd, hnn, hdl, k⟩ := h
    rfl
  · obtain ⟨b, a, pr, d, e, g, wd, M, rs, th, ws, due, t, us, rfl, hP, hd, he, hg, hnd, hnn, hdl, k⟩ := h
    have hu := hu_of hr
    refine ⟨_, (pss_cons (ps_if (PW.pt (pw_or (pt_cmpR (op_neDict (hu0_of hr)) (pv 5) (pv 4) (nomark _)) (pw_or1 (pt_cmpR op_ne (pe_callB call_lenD (by rfl) G.b_len (by decide +kernel) (pa_cons (pv 6) pa_nil)) (pe_op op_sub (pe_callB call_lenD (by rfl) G.b_len (by decide +kernel) (pa_cons (pv 4) pa_nil)) (pe_callB call_len_seq (by rfl) G.b_len (by decide +kernel) (pa_cons (pv 1) pa_nil))) (nomark _)))))
        (pss_one (ps_ret pe_bl)) pss_nil)
      (pss_cons (ps_lock (ps_for PassesOwn.never rfl (pi_keys (pv 4)) (pg_name (i := 7) sc_law_costs_right.nd rfl (Or.inl rfl))
        (pss_one (ps_if (pt_cmpR (op_notInK (K := K) rfl) (pv 7) (pv 1) (by rfl))
            (pss_cons (ps_if (PW.pt (pw_or (pt_cmp (pc_dnotin hu (pv 7) (pv 6))) (pw_or1 (pt_not (pt_chain op_le op_lt pe_int (pe_dget hu (pv 6) (pv 7) (fun _ _ => rfl)) (pe_callB call_len_seq (by rfl) G.b_len (by decide +kernel) (pa_cons (pe_slK (K := K) rfl (pv 0)) pa_nil)))))))
                (pss_one (ps_ret pe_bl)) pss_nil)
              (pss_cons (ps_asg (pe_ix (ix_tupK (K := K) rfl) (pe_slK (K := K) rfl (pv 0)) (pe_dget hu (pv 6) (pv 7) (fun _ _ => rfl)) (fun _ _ => rfl)) (pg_tup rfl (pgs_cons (pg_name (i := 8) sc_law_costs_right.nd rfl (Or.inl rfl)) (pgs_cons (pg_name (i := 9) sc_law_costs_right.nd rfl (Or.inl rfl)) pgs_nil))))
              (pss_cons (ps_if (PW.pt (pw_or (pt_cmpR (op_notInK (K := K) rfl) (pv 7) (pv 9) (by rfl)) (pw_or1 (pt_not (pt_val (C8.pe_c (c_law_within (T := T) G) hr (by decide) (by rfl) (pa_cons (pv 8) (pa_cons (pv 4) pa_nil))))))))
                (pss_one (ps_ret pe_bl)) pss_nil)
              (pss_one (ps_if (pt_cmpR op_ne (C8.pe_c (c_law_paid (T := T) G) hr (by decide) (by rfl) (pa_cons (pv 4) (pa_cons (pv 8) (pa_cons (pe_ix (ix_tupK (K := K) rfl) (pv 2) (pe_dget hu (pv 6) (pv 7) (fun _ _ => rfl)) (fun _ _ => rfl)) (pa_cons (pv 3) pa_nil))))) (pe_dget hu (pv 4) (pv 7) (fun _ _ => rfl)) (nomark _))
                (pss_one (ps_ret pe_bl)) pss_nil))))) pss_nil))))
      (pss_one (ps_ret pe_bl)))), ?_⟩
    have hRl := hP.len
    have hnr := hP.nr
    have lth := (hP.hth.mono hP.m5).len
    have kk : ∀ H' (bb : Bool), Ex T H H' → rightB (rs.zip ws) th wd due t us = bb → Q (.bl bb) H' := fun H' bb x e => by
      rw [← e]
      exact k _ x
    refine ⟨_, rfl, _, rfl, e, d, _, _, rfl, rfl, he, hd, allI_dk t, allI_dk due, ?_⟩
    refine ⟨_, rfl, ?_⟩
    rw [eqI_eqT]
    cases e1 : eqT t due with
    | false =>
      refine iteT (iteT (kk _ _ (Ex.refl T H) ?_))
      unfold rightB
      rw [e1, Bool.false_and, Bool.false_and]
    | true =>
      refine iteF ?_
      refine ⟨_, rfl, g, _, rfl, hg, _, rfl, d, _, rfl, hd, _, rfl, a, _, rfl, .inr (SqT.of hP.ht), _, _, rfl, rfl, rfl, _, rfl, ?_⟩
      rw [List.length_map, List.length_map, List.length_map, dV]
      by_cases hn2 : ((us.length : Nat) : Int) = (due.length : Int) - (th.length : Int)
      · rw [decide_eq_true hn2]
        refine iteF ?_
        have hnt : NoTup (.dK (dk due)) := trivial
        refine ⟨d, .dK (dk due), hd, trivial, fun od => ?_⟩
        have hPl := hP.lock (o := .frz od (.dK (dk due))) hd trivial
        have hgl : KR (upd H d (.frz od (.dK (dk due)))) g us := by
          by_cases hdg : g = d
          · rw [hdg]
            have hg' := hg
            rw [hdg] at hg'
            have e3 : HO.dK (dk due) = HO.dK (dk us) := Option.some.inj (hd.symm.trans hg')
            refine .inr ⟨od, ?_⟩
            rw [upd_same, e3]
          · refine .inl ?_
            rw [upd_ne hdg]
            exact hg
        have hfin : ∀ H' (bb : Bool), Ex T (upd H d (.frz od (.dK (dk due)))) H' → rightB (rs.zip ws) th wd due t us = bb → H' d = some (.frz od (.dK (dk due))) ∧ Q (.bl bb) (upd H' d (.dK (dk due))) := fun H' bb x e => by
          obtain ⟨q1, q2⟩ := lock_ex (T := T) hd (show IsDc (.dK (dk due)) from trivial) x
          exact ⟨q1, kk _ _ q2 e⟩
        have hl0 : upd H d (.frz od (.dK (dk due))) d = some (.frz od (.dK (dk due))) := upd_same
        have eR : rightB (rs.zip ws) th wd due t us = due.all fun p => decide (p.1 ∈ th) || paidB (rs.zip ws) wd (lk due) us p.1 := by
          unfold rightB
          rw [e1, decide_eq_true hn2, List.all_map]
          rfl
        have hlx : Ex T H (upd (upd H d (.frz od (.dK (dk due)))) d (.dK (dk due))) := (lock_ex (T := T) hd (show IsDc (.dK (dk due)) from trivial) (Ex.refl T _)).2
        generalize upd H d (.frz od (.dK (dk due))) = Hl at *
        refine ⟨_, rfl, d, od, rfl, .inl ⟨dk due, hl0, ?_⟩⟩
        refine for_it (walk_keys (kvs := dk due)) (fun i σ H' => ∃ (v7 v8 v9 : Option V), σ = [some (.ref b), some (.ref a), some (.ref pr), some (.str (wS wd)), some (.ref d), some (.ref e), some (.ref g), v7, v8, v9] ∧ Ex T Hl H' ∧
          (due.take i).all (fun p => decide (p.1 ∈ th) || paidB (rs.zip ws) wd (lk due) us p.1) = true) ⟨none, none, none, rfl, Ex.refl T Hl, rfl⟩ ?_ ?_ ?_
        · rintro i σ H1 hi ⟨v7, v8, v9, rfl, x1, _⟩
          exact x1.frz hl0
        · rintro i x σ H1 H1' hi ⟨v7, v8, v9, rfl, x1, hall⟩ ⟨rfl, kx, vx, hkv, rfl⟩
          obtain ⟨pd, hpd, epd⟩ := at_of hkv
          obtain ⟨m, v⟩ := pd
          have ek : kx = kI m := congrArg Prod.fst epd
          subst ek
          have hlm : lk due m = some v := lk_of hnd (List.mem_of_getElem? hpd)
          have hP1 := hPl.ex x1
          have hfail : paidB (rs.zip ws) wd (lk due) us m = false → m ∉ th → rightB (rs.zip ws) th wd due t us = false := fun h1 h2 => by
            rw [eR, List.all_eq_false]
            refine ⟨_, List.mem_of_getElem? hpd, ?_⟩
            show ¬ (decide (m ∈ th) || paidB (rs.zip ws) wd (lk due) us m) = true
            rw [h1, decide_eq_false h2]
            decide
          have hnext : (decide (m ∈ th) || paidB (rs.zip ws) wd (lk due) us m) = true → (due.take (i + 1)).all (fun p => decide (p.1 ∈ th) || paidB (rs.zip ws) wd (lk due) us p.1) = true := fun h => by
            rw [take_snoc hpd, List.all_append, hall, List.all_cons]
            show (true && ((decide (m ∈ th) || paidB (rs.zip ws) wd (lk due) us m) && true)) = true
            rw [h]
            rfl
          refine ⟨_, rfl, _, rfl, a, _, rfl, .inr (SqT.of hP1.ht), rfl, flat_ints th, _, rfl, ?_⟩
          show (if (!inV (V.int m) (th.map V.int)) = true then _ else _)
          rw [inV_int]
          by_cases hmt : m ∈ th
          · rw [decide_eq_true hmt]
            exact iteF ⟨_, _, _, rfl, x1, hnext (by rw [decide_eq_true hmt]; rfl)⟩
          · rw [decide_eq_false hmt]
            refine iteT ?_
            have hg1 := hgl.ex x1
            have hget : DGet H1' g (.int m) ((lk us m).map V.int) := .inl ⟨_, kI m, hg1, rfl, (valV_dk us m).symm⟩
            refine ⟨_, rfl, _, rfl, g, _, rfl, hget, _, rfl, ?_⟩
            cases eu : lk us m with
            | none =>
              refine iteT (iteT (hfin _ _ x1 (hfail ?_ hmt)))
              unfold paidB
              rw [eu]
            | some ix =>
              refine iteF ?_
              have hget2 : DGet H1' g (.int m) (some (.int ix)) := dget_kr hg1 eu
              obtain ⟨dx, r, hsl, hrus⟩ := hP1.bk
              obtain ⟨as, h1, h2, h3⟩ := hrus.sq
              have epd0 : ∀ _ : Bool, (decide (0 ≤ ix) && decide (ix < (rs.zip ws).length)) = false → paidB (rs.zip ws) wd (lk due) us m = false := fun _ h => by
                unfold paidB
                rw [eu]
                show (decide (0 ≤ ix) && decide (ix < (rs.zip ws).length) && _) = false
                rw [h, Bool.false_and]
              refine ⟨_, rfl, _, rfl, g, _, rfl, hget2, 0, ix, rfl, rfl, _, rfl, ?_⟩
              by_cases hi0 : 0 ≤ ix
              · rw [decide_eq_true hi0]
                refine iteT ?_
                refine ⟨_, rfl, b, _, dx, _, _, 1, _, rfl, hsl, G.sclsB, G.slR, rfl, r, _, rfl, .inr (SqT.of h1), _, _, rfl, rfl, _, rfl, ?_⟩
                rw [List.length_map, h2]
                by_cases hi1 : ix < (rs.length : Int)
                · rw [decide_eq_true hi1]
                  refine iteF ?_
                  have hk : ix.toNat < rs.length := by omega
                  have hik : ((ix.toNat : Nat) : Int) = ix := by omega
                  have hri : rs[ix.toNat]? = some rs[ix.toNat] := List.getElem?_eq_getElem hk
                  obtain ⟨w, hwi, hRi⟩ := hP.at_ hri
                  obtain ⟨ai, hai, hra⟩ := pair_at' h3 hri
                  have hrm := List.mem_of_getElem? hri
                  have hru := hP.hr _ hrm
                  generalize rs[ix.toNat] = ru at hri hRi hra hrm hru
                  have epd : paidB (rs.zip ws) wd (lk due) us m = (decide (m ∈ ru.2) && apB (lk due) ru.1 && decide (gv (lk due) m = pay wd (lk due) ru.1 w)) := by
                    unfold paidB
                    rw [eu]
                    simp only [hRi]
                    rw [decide_eq_true hi0, decide_eq_true (by rw [hRl]; exact hi1), Bool.true_and, Bool.true_and]
                  refine ⟨_, rfl, b, _, dx, _, _, 1, _, rfl, hsl, G.sclsB, G.slR, rfl, _, rfl, _, rfl, g, _, rfl, hget2, r, _, ix, .ref ai, rfl, rfl, SqT.of h1, ?_, gRule hra fun p cc hp hcc => ?_⟩
                  · rw [← hik]
                    exact atI_nat (by rw [List.getElem?_map, hai]; rfl)
                  refine ⟨_, rfl, _, rfl, cc, _, rfl, .inr (SqT.of hcc), rfl, flat_ints _, _, rfl, ?_⟩
                  show (if (!inV (V.int m) (ru.2.map V.int)) = true then _ else _)
                  rw [inV_int]
                  by_cases hm : m ∈ ru.2
                  · rw [decide_eq_true hm]
                    refine iteF ?_
                    have hf1 := x1.frz hl0
                    refine ⟨_, rfl, _, rfl, p, d, ru.1, (fun m => (lk due m).isSome), rfl, hp, by have := (hru.1.mono hP.m5).len; omega, Mem.dr (.inr ⟨_, hf1⟩), fun H3 x3 => ⟨_, rfl, ?_⟩⟩
                    have x13 := x1.trans x3
                    cases e : apB (lk due) ru.1 with
                    | false =>
                      have e' : (ru.1.all fun m => (lk due m).isSome) = false := e
                      rw [e']
                      refine iteT (hfin _ _ x13 (hfail ?_ hmt))
                      rw [epd, e, Bool.and_false, Bool.false_and]
                    | true =>
                      have e' : (ru.1.all fun m => (lk due m).isSome) = true := e
                      rw [e']
                      refine iteF ?_
                      have hf3 := x13.frz hl0
                      have hKR : KR H3 d due := .inr ⟨_, hf3⟩
                      refine ⟨_, rfl, _, rfl, _, rfl, _, rfl, _, rfl, g, _, rfl, dget_kr (hg1.ex x3) eu, pr, _, ix, .int w, rfl, rfl, SqT.of (hP1.hp.ex x3), ?_, _, rfl, d, p, w, wd, due, ru.1, rfl, hKR, hp.ex x3, by have := (hru.1.mono hP.m5).len; omega, apB_iff.mp e, fun j _ => gv_nn hnn j, fun H4 x4 => ?_⟩
                      · rw [← hik]
                        exact atI_nat (by rw [List.getElem?_map, hwi]; rfl)
                      refine ⟨_, rfl, _, rfl, d, _, rfl, dget_kr (hKR.ex x4) hlm, rfl, _, rfl, ?_⟩
                      rw [dV]
                      have x14 := x13.trans x4
                      have ev : gv (lk due) m = v := gv_some hlm
                      by_cases hpv : pay wd (lk due) ru.1 w = v
                      · rw [decide_eq_true hpv]
                        refine iteF ⟨_, _, _, rfl, x14, hnext ?_⟩
                        rw [epd, e, decide_eq_true hm, decide_eq_true (p := gv (lk due) m = pay wd (lk due) ru.1 w) (by rw [ev, hpv])]
                        simp
                      · rw [decide_eq_false hpv]
                        refine iteT (hfin _ _ x14 (hfail ?_ hmt))
                        rw [epd, decide_eq_false (p := gv (lk due) m = pay wd (lk due) ru.1 w) (fun z => hpv (by rw [← z, ev])), Bool.and_false]
                  · rw [decide_eq_false hm]
                    refine iteT (iteT (hfin _ _ x1 (hfail ?_ hmt)))
                    rw [epd, decide_eq_false hm, Bool.false_and, Bool.false_and]
                · rw [decide_eq_false hi1]
                  refine iteT (hfin _ _ x1 (hfail (epd0 true ?_) hmt))
                  rw [hRl, decide_eq_false hi1, Bool.and_false]
              · rw [decide_eq_false hi0]
                refine iteF ⟨_, rfl, iteT (hfin _ _ x1 (hfail (epd0 true ?_) hmt))⟩
                rw [decide_eq_false hi0, Bool.false_and]
        · rintro σ H1 ⟨v7, v8, v9, rfl, x1, hall⟩
          rw [List.length_map, List.take_length] at hall
          exact hfin _ _ x1 (by rw [eR]; exact hall)
      · rw [decide_eq_false hn2]
        refine iteT (kk _ _ (Ex.refl T H) ?_)
        unfold rightB
        rw [decide_eq_false hn2, Bool.and_false, Bool.false_and]


end
end Pb
set_option Elab.async false
set_option linter.all false
set_option maxRecDepth 100000
set_option maxHeartbeats 4000000
namespace Pb
open PySem PySem.Spec PyProof.Rows L2
def TR (H : Hp) (d : Addr) (t : List (List Int × Int)) : Prop := Rd H d (.dT (dt t))
section
variable {K : PySem.W.Frag} {T : Tb} {H H' : Hp} {d b : Addr} {t : List (List Int × Int)} {s : List Int}
theorem TD.ex (h : TD H d t) (x : Ex T H H') : TD H' d t := x.dT h
theorem TR.ex (h : TR H d t) (x : Ex T H H') : TR H' d t := x.rd h (fun _ z => by cases z)
theorem dget_tr (h : TR H d t) (hb : HT H b s) : DGet H d (.ref b) ((lk t s).map V.int) :=
  .inr ⟨_, iK s, b, h, rfl, by rw [mapK]; exact hb, (valV_dt t s).symm⟩
theorem isD_tr (h : TR H d t) : IsD H d := .inr ⟨_, h⟩
theorem getD_int (o : Option Int) (z : Int) : (o.map V.int).getD (.int z) = V.int (o.getD z) := by cases o <;> rfl
theorem dput_td {v : Int} (h : TD H d t) (hb : HT H b s) (l : t.length < 10000) : DPut H d (.ref b) (.int v) (upd H d (.dT (dt (pt t s v)))) := by
  rw [← putK_dt]
  exact DPut.t h (by rw [mapK]; exact hb) (by rw [List.length_map]; exact Nat.lt_of_lt_of_le l (by decide))
end
/-- sets as keys: no two hash alike -/
theorem kys_of {M : Int} {t : List (List Int × Int)} (h0 : 0 ≤ M) (h5 : M ≤ 5) (hs : ∀ s ∈ t.map (·.1), IsS M s) (n : (t.map (·.1)).Nodup) : Kys (dt t) :=
  ⟨t.map (·.1), by rw [List.map_map, List.map_map]; rfl, hash_inj h0 h5 hs n⟩
/-- a paper of a bill -/
def BiS (K : PySem.W.Frag) (H : Hp) (c : Addr) (is : List Int) (fl : List (List Int × Int)) : Prop := ∃ dx p q, H c = some (.ins (He.ga K "Bill") dx [("indices", .ref p), ("floors", .ref q)]) ∧ HT H p is ∧ TD H q fl
theorem BiS.ex {K : PySem.W.Frag} {T : Tb} {H H' : Hp} {c : Addr} {is : List Int} {fl : List (List Int × Int)} (h : BiS K H c is fl) (x : Ex T H H') : BiS K H' c is fl := by
  obtain ⟨dx, p, q, h1, h2, h3⟩ := h
  exact ⟨dx, p, q, x.ins h1, h2.ex x, h3.ex x⟩
theorem ins_lock {H : Hp} {d c C dx : Addr} {fs : List (Str × V)} {u o : HO} (h : H c = some (.ins C dx fs)) (hd : H d = some u) (w : IsDc u) : upd H d o c = some (.ins C dx fs) := by
  rw [upd_ne]
  · exact h
  · intro z
    rw [z, hd] at h
    cases h
    exact w
theorem okI_iff {R : List PR} {i : Int} : okI R i = true ↔ 0 ≤ i ∧ i < R.length := by
  unfold okI
  rw [Bool.and_eq_true, decide_eq_true_eq, decide_eq_true_eq]
theorem wlk_none {R : List PR} {is : List Int} {k : Nat} {st : List Int × Int} (h : wlk R (is.take k) st = none) : wlk R is st = none := by
  have := wlk_append (R := R) (a := is.take k) (b := is.drop k) (st := st)
  rw [List.take_append_drop, h] at this
  exact this
theorem wlk_one {R : List PR} {i : Int} {r : PR} {st : List Int × Int} (hi : okI R i = true) (hr : R[i.toNat]? = some r) : wlk R [i] st = if sub r.1.1 st.1 = true then some (jn st.1 r.1.2, st.2 + r.2) else none := by
  unfold wlk
  rw [if_pos hi, hr]
  show (if sub r.1.1 st.1 = true then wlk R [] _ else none) = _
  rfl
end Pb
set_option Elab.async false
set_option linter.all false
set_option maxRecDepth 100000
set_option maxHeartbeats 4000000

namespace Pb
open PySem PySem.Spec PyProof.Rows L2
section
variable {P : Program} {w : World} {K : PySem.W.Frag} {mg : Str → Option Value} {base : Heap} {T : Tb}

def spBillInit (T : Tb) (K : PySem.W.Frag) : Sp := fun vs H Q _ => ∃ (x dx a b : Addr) (is : List Int) (fl : List (List Int × Int)), vs = [.ref x, .ref a, .ref b] ∧ H x = some (.ins (He.ga K "Bill") dx []) ∧ H a = some (.lst (is.map V.int)) ∧ TD H b fl ∧ Kys (dt fl) ∧ ∀ H', Eb T [x] H H' → BiS K H' x is fl → Q .non H'
def spIsFloor (T : Tb) (K : PySem.W.Frag) : Sp := fun vs H Q _ => ∃ (c b a pr gl o dx p q : Addr) (M : Int) (rs : List Ru) (th ws goal s : List Int) (fl : List (List Int × Int)), vs = [.ref c, .ref b, .ref pr, .ref gl, .ref o] ∧ H c = some (.ins (He.ga K "Bill") dx [("indices", .ref p), ("floors", .ref q)]) ∧ TR H q fl ∧ Pr K H b a pr M rs th ws ∧
  HT H gl goal ∧ IsS M goal ∧ HT H o s ∧ IsS M s ∧ (lk fl s).isSome = true ∧ ∀ H', Ex T H H' → Q (.bl (floorB (rs.zip ws) goal fl s)) H'

abbrev N_Bill_init : List Str := ["self", "indices", "floors"]
theorem sc_Bill_init : FnScope N_Bill_init ["self", "indices", "floors"] (defScope sBillInit) := ⟨rfl, rfl, rfl, by decide +kernel, rfl, by decide +kernel, by decide +kernel⟩
theorem f_Bill_init (G : Gx K mg) : ∃ fd, FnOk P w K mg base C8.CX0 1 (He.ma K (He.ga K "Bill") "__init__") fd ["self", "indices", "floors"] (spBillInit T K) ∧ Binds K fd ["self", "indices", "floors"] [] := by
  refine fnOf G 44 rfl sc_Bill_init (fun _ _ _ _ _ _ us hl => match us, hl with | [_, _, _], _ => rfl) (fun vs H Q E h => ?_) (fun f cdv A outer s H vs Q E hr h => ?_)
  · obtain ⟨x, dx, a, b, is, fl, rfl, hx, ha, hb, hk, k⟩ := h
    rfl
  · obtain ⟨x, dx, a, b, is, fl, rfl, hx, ha, hb, hk, k⟩ := h
    refine ⟨_, (pss_cons (ps_fld (pv 0) (pe_callTy call_tuple_of (by rfl) G.b_tuple (by decide +kernel) (pa_cons (pv 1) pa_nil)) rfl)
      (pss_one (ps_fld (pv 0) (pe_callTy (call_dictT (hu2_of hr)) (by rfl) G.b_dict (by decide +kernel) (pa_cons (pv 2) pa_nil)) rfl))), ?_⟩
    refine ⟨_, rfl, a, _, rfl, .inl ⟨SqL.of ha, fun p hp => ?_⟩⟩
    have x1 : Ex T H (upd H p (.tup (is.map V.int))) := Ex.new hp
    refine ⟨_, rfl, x, _, dx, _, rfl, x1.ins hx, G.cls_Bill, G.na_indices, by decide, ?_⟩
    have e1 : Eb T [x] H (upd (upd H p (.tup (is.map V.int))) x (.ins (He.ga K "Bill") dx [("indices", .ref p)])) := Eb.put (Eb.of x1) (by simp) (x1.ins hx) (fun _ z => by cases z) fun _ _ => code_ins
    have hbx : b ≠ x := ne_of hb hx (fun z => by cases z)
    have hb2 : TD (upd (upd H p (.tup (is.map V.int))) x (.ins (He.ga K "Bill") dx [("indices", .ref p)])) b fl := by
      unfold TD
      rw [upd_ne hbx]
      exact x1.dT hb
    refine ⟨_, rfl, b, _, rfl, .inl hb2, hk, fun q hq => ?_⟩
    refine ⟨_, rfl, x, _, dx, _, rfl, (Ex.new (T := T) hq).ins upd_same, G.cls_Bill, G.na_floors, by show 1 < 1000; decide, ?_⟩
    have px : p ≠ x := (ne_of_none hx hp).symm
    have qx : x ≠ q := ne_of_none upd_same hq
    have pq : p ≠ q := by
      refine ne_of_none (o := .tup (is.map V.int)) ?_ hq
      rw [upd_ne px, upd_same]
    refine k _ (Eb.put (e1.trans (Eb.of (Ex.new hq))) (by simp) ((Ex.new (T := T) hq).ins upd_same) (fun _ z => by cases z) fun _ _ => code_ins) ⟨dx, p, q, by rw [upd_same]; rfl, ?_, ?_⟩
    · unfold HT
      rw [upd_ne px, upd_ne pq, upd_ne px, upd_same]
    · unfold TD
      rw [upd_ne (Ne.symm qx), upd_same]


abbrev N_Bill_is_floor : List Str := ["self", "book", "prices", "goal", "one", "floor", "index", "premise", "conclusion"]
theorem sc_Bill_is_floor : FnScope N_Bill_is_floor ["self", "book", "prices", "goal", "one"] (defScope sBillIsFloor) := ⟨rfl, rfl, rfl, by decide +kernel, rfl, by decide +kernel, by decide +kernel⟩
theorem f_Bill_is_floor (G : Gx K mg) : ∃ fd, FnOk P w K mg base C8.CX0 3 (He.ma K (He.ga K "Bill") "is_floor") fd ["self", "book", "prices", "goal", "one"] (spIsFloor T K) ∧ Binds K fd ["self", "book", "prices", "goal", "one"] [] := by
  refine fnOf G 46 rfl sc_Bill_is_floor (fun _ _ _ _ _ _ us hl => match us, hl with | [_, _, _, _, _], _ => rfl) (fun vs H Q E h => ?_) (fun f cdv A outer s H vs Q E hr h => ?_)
  · obtain ⟨c, b, a, pr, gl, o, dx, p, q, M, rs, th, ws, goal, s, fl, rfl, hc, hq, hP, hg, hgs, ho, hs, hsome, k⟩ := h
    rfl
  · obtain ⟨c, b, a, pr, gl, o, dx, p, q, M, rs, th, ws, goal, s, fl, rfl, hc, hq, hP, hg, hgs, ho, hs, hsome, k⟩ := h
    have hu := hu_of hr
    refine ⟨_, (pss_cons (ps_set (i := 5) sc_Bill_is_floor.nd rfl (Or.inl rfl) (pe_dget hu (pe_fldK (K := K) rfl (pv 0) rfl) (pv 4) (fun _ _ => rfl)))
      (pss_cons (ps_if (PW.pt (pw_or (pt_not (pt_val (C8.pe_c (c_is_set (T := T) G) hr (by decide) (by rfl) (pa_cons (pe_slK (K := K) rfl (pv 1)) (pa_cons (pv 4) pa_nil))))) (pw_or (pt_cmpR op_lt (pv 5) pe_int (nomark _)) (pw_or1 (PW.pt (pw_and (pt_cmpR op_gt (pv 5) pe_int (nomark _)) (pw_and1 (pt_val (C8.pe_c (c_is_within (T := T) G) hr (by decide) (by rfl) (pa_cons (pv 3) (pa_cons (pv 4) pa_nil)))))))))))
        (pss_one (ps_ret pe_bl)) pss_nil)
      (pss_cons (ps_for PassesOwn.never rfl (pi_enumT (by rfl) G.b_enumerate (pa_cons (pe_slK (K := K) rfl (pv 1)) pa_nil)) (pg_tup rfl (pgs_cons (pg_name (i := 6) sc_Bill_is_floor.nd rfl (Or.inl rfl)) (pgs_cons (pg_tup rfl (pgs_cons (pg_name (i := 7) sc_Bill_is_floor.nd rfl (Or.inl rfl)) (pgs_cons (pg_name (i := 8) sc_Bill_is_floor.nd rfl (Or.inl rfl)) pgs_nil))) pgs_nil)))
        (pss_one (ps_if (PW.pt (pw_and (pt_val (C8.pe_c (c_is_within (T := T) G) hr (by decide) (by rfl) (pa_cons (pv 7) (pa_cons (pv 4) pa_nil)))) (pw_and1 (pt_cmpR op_gt (pv 5) (pe_op op_add (pe_ix (ix_tupK (K := K) rfl) (pv 2) (pv 6) (fun _ _ => rfl)) (pe_dget2 hu (pe_fldK (K := K) rfl (pv 0) rfl) (C8.pe_c (c_joined (T := T) G) hr (by decide) (by rfl) (pa_cons (pv 4) (pa_cons (pv 8) pa_nil))) pe_int ⟨rfl, rfl, rfl, rfl⟩)) (nomark _)))))
            (pss_one (ps_ret pe_bl)) pss_nil)))
      (pss_one (ps_ret pe_bl))))), ?_⟩
    have hRl := hP.len
    have hm5 := hP.m5
    have hs5 := hs.mono hm5
    have hg5 := hgs.mono hm5
    have lg := hg5.len
    obtain ⟨v, ev⟩ := Option.isSome_iff_exists.mp hsome
    have kk : ∀ H' (bb : Bool), Ex T H H' → floorB (rs.zip ws) goal fl s = bb → Q (.bl bb) H' := fun H' bb x e => by
      rw [← e]
      exact k _ x
    have eF : floorB (rs.zip ws) goal fl s = (!(decide (v < 0) || (decide (v > 0) && sub goal s)) && (rs.zip ws).all fun r => !(sub r.1.1 s && decide (v > r.2 + (lk fl (jn s r.1.2)).getD 0))) := by
      unfold floorB
      rw [ev]
      rfl
    have hget : DGet H q (.ref o) (some (.int v)) := by
      have := dget_tr hq ho
      rw [ev] at this
      exact this
    refine ⟨_, rfl, c, _, dx, _, _, rfl, hc, G.cls_Bill, G.na_floors, rfl, _, rfl, q, _, rfl, hget, ?_⟩
    obtain ⟨dxb, r, hsl, hrus⟩ := hP.bk
    refine ⟨_, rfl, b, _, dxb, _, _, 0, _, rfl, hsl, G.sclsB, G.slM, rfl, _, rfl, M, o, s, rfl, ho, hs, hm5, fun H1 x1 => ⟨true, rfl, iteF ?_⟩⟩
    refine ⟨_, rfl, _, _, rfl, rfl, _, rfl, ?_⟩
    by_cases h0 : v < 0
    · rw [decide_eq_true h0]
      refine iteT (iteT (kk _ _ x1 ?_))
      rw [eF, decide_eq_true h0, Bool.true_or]
      rfl
    · rw [decide_eq_false h0]
      refine iteF ?_
      refine ⟨_, rfl, _, _, rfl, rfl, _, rfl, ?_⟩
      by_cases hv : 0 < v
      · rw [decide_eq_true hv]
        refine iteT ?_
        refine ⟨_, rfl, _, rfl, gl, o, goal, (fun m => decide (m ∈ s)), rfl, hg.ex x1, by omega, Mem.tup (ho.ex x1), fun H2 x2 => ⟨_, rfl, ?_⟩⟩
        have hsubg : (goal.all fun m => decide (m ∈ s)) = sub goal s := rfl
        rw [hsubg]
        cases eg : sub goal s with
        | true =>
          refine iteT (kk _ _ (x1.trans x2) ?_)
          rw [eF, eg, decide_eq_true (p := v > 0) hv, Bool.and_true, Bool.or_true]
          rfl
        | false =>
          refine iteF ?_
          have x12 := x1.trans x2
          obtain ⟨dxb2, r2, hsl2, hrus2⟩ := hP.bk.ex x12
          obtain ⟨as, h1, h2, h3⟩ := hrus2.sq
          refine ⟨_, rfl, b, _, dxb2, _, _, 1, _, rfl, hsl2, G.sclsB, G.slR, rfl, r2, _, rfl, SqT.of h1, ?_⟩
          refine for_it (walk_enumT (xs := as.map V.ref)) (fun i σ H' => ∃ v6 v7 v8 : Option V, σ = [some (.ref c), some (.ref b), some (.ref pr), some (.ref gl), some (.ref o), some (.int v), v6, v7, v8] ∧ Ex T H H' ∧ H' r2 = some (.tup (as.map V.ref)) ∧ Paired (RuA H') as rs ∧ ((rs.zip ws).take i).all (fun r => !(sub r.1.1 s && decide (v > r.2 + (lk fl (jn s r.1.2)).getD 0))) = true)
            ⟨none, none, none, rfl, x12, h1, h3, rfl⟩ (fun i σ H' hi ⟨v6, v7, v8, e, x, hh, _⟩ => SqT.of hh) ?_ ?_
          · rintro i x σ H3 H3' hi ⟨v6, v7, v8, rfl, x3, hh1, hh3, hall⟩ ⟨z, u1, u2, rfl, hz, rfl, g1, g2⟩
            obtain rfl : V.int (i : Int) = u1 := Option.some.inj g1
            obtain ⟨ai, hai, rfl⟩ := at_of g2
            obtain ⟨ru, hri, hra⟩ := pair_at hh3 hai
            obtain ⟨w, hwi, hRi⟩ := hP.at_ hri
            have hru := hP.hr ru (List.mem_of_getElem? hri)
            have xz : Ex T H3 (upd H3 z (.tup [V.int i, V.ref ai])) := Ex.new hz
            have x4 := x3.trans xz
            refine gEnum upd_same (hra.im xz.im) fun p1 cc hp1 hcc => ?_
            have hr4 := xz.tup hh1
            have hh4 := Paired.imp (fun _ _ q => RuA.im q xz.im) hh3
            generalize upd H3 z (.tup [V.int i, V.ref ai]) = H4 at *
            refine ⟨_, rfl, _, rfl, p1, o, ru.1, (fun m => decide (m ∈ s)), rfl, hp1, by have := (hru.1.mono hm5).len; omega, Mem.tup (ho.ex x4), fun H5 x5 => ⟨_, rfl, ?_⟩⟩
            have hsub : (ru.1.all fun m => decide (m ∈ s)) = sub ru.1 s := rfl
            rw [hsub]
            have x45 := x4.trans x5
            cases e1 : sub ru.1 s with
            | false =>
              refine iteF (iteF ⟨_, _, _, rfl, x45, x5.tup hr4, Paired.imp (fun _ _ q => RuA.im q x5.im) hh4, ?_⟩)
              rw [take_snoc hRi, List.all_append, hall, List.all_cons, e1]
              rfl
            | true =>
              refine iteT ?_
              refine ⟨_, rfl, _, rfl, _, rfl, pr, _, (i : Int), .int w, rfl, rfl, SqT.of (hP.hp.ex x45), atI_nat (by rw [List.getElem?_map, hwi]; rfl), ?_⟩
              refine ⟨_, rfl, c, _, dx, _, _, rfl, x45.ins hc, G.cls_Bill, G.na_floors, rfl, q, rfl, isD_tr (hq.ex x45), ?_⟩
              refine ⟨_, rfl, _, rfl, o, cc, s, ru.2, rfl, ho.ex x45, hcc.ex x5, hs5, hru.2.mono hm5, fun H6 p6 x6 hj => ⟨_, dget_tr (hq.ex (x45.trans x6)) hj, _, _, rfl, getD_int _ _, _, _, rfl, rfl, _, rfl, ?_⟩⟩
              have x46 := x45.trans x6
              have x56 := x5.trans x6
              cases e2 : decide (w + (lk fl (jn s ru.2)).getD 0 < v) with
              | false =>
                refine iteF ⟨_, _, _, rfl, x46, x56.tup hr4, Paired.imp (fun _ _ q => RuA.im q x56.im) hh4, ?_⟩
                rw [take_snoc hRi, List.all_append, hall, List.all_cons, e1]
                show (true && (!(true && decide (w + (lk fl (jn s ru.2)).getD 0 < v)) && true)) = true
                rw [e2]
                rfl
              | true =>
                refine iteT (kk _ _ x46 ?_)
                rw [eF]
                have : ((rs.zip ws).all fun r => !(sub r.1.1 s && decide (v > r.2 + (lk fl (jn s r.1.2)).getD 0))) = false := by
                  rw [List.all_eq_false]
                  refine ⟨_, List.mem_of_getElem? hRi, ?_⟩
                  show ¬ (!(sub ru.1 s && decide (w + (lk fl (jn s ru.2)).getD 0 < v))) = true
                  rw [e1, e2]
                  decide
                rw [this, Bool.and_false]
          · rintro σ H3 ⟨v6, v7, v8, rfl, x3, _, _, hall⟩
            rw [List.length_map, h2, ← hRl, List.take_length] at hall
            refine kk _ _ x3 ?_
            rw [eF, hall, decide_eq_false h0, Bool.false_or, Bool.and_true]
            rw [eg, Bool.and_false]
            rfl
      · rw [decide_eq_false hv]
        refine iteF (iteF ?_)
        obtain ⟨dxb2, r2, hsl2, hrus2⟩ := hP.bk.ex x1
        obtain ⟨as, h1, h2, h3⟩ := hrus2.sq
        refine ⟨_, rfl, b, _, dxb2, _, _, 1, _, rfl, hsl2, G.sclsB, G.slR, rfl, r2, _, rfl, SqT.of h1, ?_⟩
        refine for_it (walk_enumT (xs := as.map V.ref)) (fun i σ H' => ∃ v6 v7 v8 : Option V, σ = [some (.ref c), some (.ref b), some (.ref pr), some (.ref gl), some (.ref o), some (.int v), v6, v7, v8] ∧ Ex T H H' ∧ H' r2 = some (.tup (as.map V.ref)) ∧ Paired (RuA H') as rs ∧ ((rs.zip ws).take i).all (fun r => !(sub r.1.1 s && decide (v > r.2 + (lk fl (jn s r.1.2)).getD 0))) = true)
          ⟨none, none, none, rfl, x1, h1, h3, rfl⟩ (fun i σ H' hi ⟨v6, v7, v8, e, x, hh, _⟩ => SqT.of hh) ?_ ?_
        · rintro i x σ H3 H3' hi ⟨v6, v7, v8, rfl, x3, hh1, hh3, hall⟩ ⟨z, u1, u2, rfl, hz, rfl, g1, g2⟩
          obtain rfl : V.int (i : Int) = u1 := Option.some.inj g1
          obtain ⟨ai, hai, rfl⟩ := at_of g2
          obtain ⟨ru, hri, hra⟩ := pair_at hh3 hai
          obtain ⟨w, hwi, hRi⟩ := hP.at_ hri
          have hru := hP.hr ru (List.mem_of_getElem? hri)
          have xz : Ex T H3 (upd H3 z (.tup [V.int i, V.ref ai])) := Ex.new hz
          have x4 := x3.trans xz
          refine gEnum upd_same (hra.im xz.im) fun p1 cc hp1 hcc => ?_
          have hr4 := xz.tup hh1
          have hh4 := Paired.imp (fun _ _ q => RuA.im q xz.im) hh3
          generalize upd H3 z (.tup [V.int i, V.ref ai]) = H4 at *
          refine ⟨_, rfl, _, rfl, p1, o, ru.1, (fun m => decide (m ∈ s)), rfl, hp1, by have := (hru.1.mono hm5).len; omega, Mem.tup (ho.ex x4), fun H5 x5 => ⟨_, rfl, ?_⟩⟩
          have hsub : (ru.1.all fun m => decide (m ∈ s)) = sub ru.1 s := rfl
          rw [hsub]
          have x45 := x4.trans x5
          cases e1 : sub ru.1 s with
          | false =>
            refine iteF (iteF ⟨_, _, _, rfl, x45, x5.tup hr4, Paired.imp (fun _ _ q => RuA.im q x5.im) hh4, ?_⟩)
            rw [take_snoc hRi, List.all_append, hall, List.all_cons, e1]
            rfl
          | true =>
            refine iteT ?_
            refine ⟨_, rfl, _, rfl, _, rfl, pr, _, (i : Int), .int w, rfl, rfl, SqT.of (hP.hp.ex x45), atI_nat (by rw [List.getElem?_map, hwi]; rfl), ?_⟩
            refine ⟨_, rfl, c, _, dx, _, _, rfl, x45.ins hc, G.cls_Bill, G.na_floors, rfl, q, rfl, isD_tr (hq.ex x45), ?_⟩
            refine ⟨_, rfl, _, rfl, o, cc, s, ru.2, rfl, ho.ex x45, hcc.ex x5, hs5, hru.2.mono hm5, fun H6 p6 x6 hj => ⟨_, dget_tr (hq.ex (x45.trans x6)) hj, _, _, rfl, getD_int _ _, _, _, rfl, rfl, _, rfl, ?_⟩⟩
            have x46 := x45.trans x6
            have x56 := x5.trans x6
            cases e2 : decide (w + (lk fl (jn s ru.2)).getD 0 < v) with
            | false =>
              refine iteF ⟨_, _, _, rfl, x46, x56.tup hr4, Paired.imp (fun _ _ q => RuA.im q x56.im) hh4, ?_⟩
              rw [take_snoc hRi, List.all_append, hall, List.all_cons, e1]
              show (true && (!(true && decide (w + (lk fl (jn s ru.2)).getD 0 < v)) && true)) = true
              rw [e2]
              rfl
            | true =>
              refine iteT (kk _ _ x46 ?_)
              rw [eF]
              have : ((rs.zip ws).all fun r => !(sub r.1.1 s && decide (v > r.2 + (lk fl (jn s r.1.2)).getD 0))) = false := by
                rw [List.all_eq_false]
                refine ⟨_, List.mem_of_getElem? hRi, ?_⟩
                show ¬ (!(sub ru.1 s && decide (w + (lk fl (jn s ru.2)).getD 0 < v))) = true
                rw [e1, e2]
                decide
              rw [this, Bool.and_false]
        · rintro σ H3 ⟨v6, v7, v8, rfl, x3, _, _, hall⟩
          rw [List.length_map, h2, ← hRl, List.take_length] at hall
          refine kk _ _ x3 ?_
          rw [eF, hall, decide_eq_false h0, Bool.false_or, Bool.and_true]
          rw [decide_eq_false (p := v > 0) hv, Bool.false_and]
          rfl


end
end Pb
set_option Elab.async false
set_option linter.all false
set_option maxRecDepth 100000
set_option maxHeartbeats 4000000
namespace Pb
open PySem PySem.Spec PyProof.Rows L2
section
variable {P : Program} {w : World} {K : PySem.W.Frag} {mg : Str → Option Value} {base : Heap} {T : Tb}
theorem c_Bill (G : Gx K mg) : C8.Mak P w K mg base 1 "Bill" (He.ga K "Bill") (spBillInit T K) [] := by
  obtain ⟨fd, F, b⟩ := f_Bill_init (P := P) (w := w) (base := base) (T := T) G
  exact ⟨_, fd, _, [], G.mk_Bill, F, G.g_Bill, b, .nil⟩
theorem m_is_floor (G : Gx K mg) : C8.Met P w K mg base 3 (He.ga K "Bill") "is_floor" (spIsFloor T K) [] := by
  obtain ⟨fd, F, b⟩ := f_Bill_is_floor (P := P) (w := w) (base := base) (T := T) G
  exact ⟨_, fd, _, [], G.cls_Bill, G.me_Bill_is_floor, F, b, .nil⟩
theorem m_Costs_shows (G : Gx K mg) : C8.Met P w K mg base 6 (He.ga K "Costs") "shows" (spCostsShows T K) [] := by
  obtain ⟨fd, F, b⟩ := f_Costs_shows (P := P) (w := w) (base := base) (T := T) G
  exact ⟨_, fd, _, [], G.cls_Costs, G.me_Costs_shows, F, b, .nil⟩
end
theorem all_of_all {α : Type} {f : α → Bool} {l : List α} (h : l.all f = true) {i : Nat} {x : α} (e : l[i]? = some x) : f x = true := List.all_eq_true.mp h x (List.mem_of_getElem? e)
/-- keys of a locked dict of sets -/
theorem keyT {T : Tb} {Hl H : Hp} {t : List (List Int × Int)} {i : Nat} {k : List Key} {v : V} (h : (dt t)[i]? = some (k, v)) : ∃ s z, t[i]? = some (s, z) ∧ k = iK s ∧ v = V.int z := by
  obtain ⟨p, hp, e⟩ := at_of h
  exact ⟨p.1, p.2, hp, congrArg Prod.fst e, congrArg Prod.snd e⟩
end Pb
set_option Elab.async false
set_option linter.all false
set_option maxRecDepth 100000
set_option maxHeartbeats 4000000

namespace Pb
open PySem PySem.Spec PyProof.Rows L2
section
variable {P : Program} {w : World} {K : PySem.W.Frag} {mg : Str → Option Value} {base : Heap} {T : Tb}

def spBillShows (T : Tb) (K : PySem.W.Frag) : Sp := fun vs H Q _ => ∃ (c b a pr gl : Addr) (M : Int) (rs : List Ru) (th ws goal is : List Int) (fl : List (List Int × Int)), vs = [.ref c, .ref b, .ref a, .ref pr, .ref gl] ∧ BiS K H c is fl ∧ Pr K H b a pr M rs th ws ∧
  HT H gl goal ∧ IsS M goal ∧ is.length ≤ 1000 ∧ fl.length ≤ 1000 ∧ (∀ s ∈ fl.map (·.1), IsS M s) ∧ ∀ H', Ex T H H' → Q (.bl (showsBillB (rs.zip ws) th goal is fl)) H'

abbrev N_Bill_shows : List Str := ["self", "book", "thing", "prices", "goal", "index", "held", "total", "one"]
theorem sc_Bill_shows : FnScope N_Bill_shows ["self", "book", "thing", "prices", "goal"] (defScope sBillShows) := ⟨rfl, rfl, rfl, by decide +kernel, rfl, by decide +kernel, by decide +kernel⟩
theorem f_Bill_shows (G : Gx K mg) : ∃ fd, FnOk P w K mg base C8.CX0 5 (He.ma K (He.ga K "Bill") "shows") fd ["self", "book", "thing", "prices", "goal"] (spBillShows T K) ∧ Binds K fd ["self", "book", "thing", "prices", "goal"] [] := by
  refine fnOf G 45 rfl sc_Bill_shows (fun _ _ _ _ _ _ us hl => match us, hl with | [_, _, _, _, _], _ => rfl) (fun vs H Q E h => ?_) (fun f cdv A outer s H vs Q E hr h => ?_)
  · obtain ⟨c, b, a, pr, gl, M, rs, th, ws, goal, is, fl, rfl, hB, hP, hg, hgs, hil, hfl, hfk, k⟩ := h
    rfl
  · obtain ⟨c, b, a, pr, gl, M, rs, th, ws, goal, is, fl, rfl, hB, hP, hg, hgs, hil, hfl, hfk, k⟩ := h
    have hu := hu_of hr
    refine ⟨_, (pss_cons (ps_expr (C8.pe_c (c_check_bill (T := T) G) hr (by decide) (by rfl) (pa_cons (pv 1) (pa_cons (pv 2) (pa_cons (pv 3) pa_nil)))))
      (pss_cons (ps_expr (C8.pe_c (c_check_set (T := T) G) hr (by decide) (by rfl) (pa_cons (pe_slK (K := K) rfl (pv 1)) (pa_cons (pv 4) pa_nil))))
      (pss_cons (ps_if (PW.pt (pw_or (pt_cmpR op_gt (pe_callB call_len_seq (by rfl) G.b_len (by decide +kernel) (pa_cons (pe_fldK (K := K) rfl (pv 0) rfl) pa_nil)) (C8.pe_gc (by rfl) G.v_most_rules) (nomark _)) (pw_or1 (pt_not (pt_val (pe_callB (cr_all rfl) (by rfl) G.b_all (by decide +kernel) (pa_cons (pe_lc (own := [("index", 5)]) (g := gName 5) rfl sc_Bill_shows.nd (pi_tup (pe_fldK (K := K) rfl (pv 0) rfl)) (blkOk_by (own := [("index", 5)]) (N := N_Bill_shows) (sc := defScope sBillShows) (by decide +kernel)) (fun _ _ _ _ _ => (pg_name (i := 5) sc_Bill_shows.nd rfl (Or.inl rfl))) (fun _ _ _ _ _ => pts_nil) (fun _ _ _ _ _ => (C8.pe_c (c_is_integer (T := T) G) hr (by decide) (by rfl) (pa_cons (pv 5) (pa_cons pe_int (pa_cons (pe_op op_sub (pe_callB (lenB (T := T) G rfl rfl hr (by decide)) (by rfl) G.b_len (by decide +kernel) (pa_cons (pv 1) pa_nil)) pe_int) pa_nil)))))) pa_nil)))))))
        (pss_one (ps_ret pe_bl)) pss_nil)
      (pss_cons (ps_par (i := 6) (j := 7) rfl sc_Bill_shows.nd rfl rfl (by decide) rfl rfl (pa_cons (pv 2) (pa_cons pe_int pa_nil)) (by rfl))
      (pss_cons (ps_for PassesOwn.never rfl (pi_tup (pe_fldK (K := K) rfl (pv 0) rfl)) (pg_name (i := 5) sc_Bill_shows.nd rfl (Or.inl rfl))
        (pss_cons (ps_if (pt_not (pt_val (C8.pe_c (c_is_within (T := T) G) hr (by decide) (by rfl) (pa_cons (pe_ix (ix_tupK (K := K) rfl) (pe_ix (ix_tupK (K := K) rfl) (pe_slK (K := K) rfl (pv 1)) (pv 5) (fun _ _ => rfl)) pe_int (fun _ _ => rfl)) (pa_cons (pv 6) pa_nil)))))
            (pss_one (ps_ret pe_bl)) pss_nil)
          (pss_one (ps_par (i := 6) (j := 7) rfl sc_Bill_shows.nd rfl rfl (by decide) rfl rfl (pa_cons (C8.pe_c (c_joined (T := T) G) hr (by decide) (by rfl) (pa_cons (pv 6) (pa_cons (pe_ix (ix_tupK (K := K) rfl) (pe_ix (ix_tupK (K := K) rfl) (pe_slK (K := K) rfl (pv 1)) (pv 5) (fun _ _ => rfl)) pe_int (fun _ _ => rfl)) pa_nil))) (pa_cons (pe_op op_add (pv 7) (pe_ix (ix_tupK (K := K) rfl) (pv 3) (pv 5) (fun _ _ => rfl))) pa_nil)) (by rfl)))))
      (pss_cons (ps_if (PW.pt (pw_or (pt_not (pt_val (C8.pe_c (c_is_within (T := T) G) hr (by decide) (by rfl) (pa_cons (pv 4) (pa_cons (pv 6) pa_nil))))) (pw_or1 (pt_cmpR op_lt (pe_dget2 hu (pe_fldK (K := K) rfl (pv 0) rfl) (pv 2) pe_int ⟨rfl, rfl, rfl, rfl⟩) (pv 7) (nomark _)))))
        (pss_one (ps_ret pe_bl)) pss_nil)
      (pss_one (ps_ret (pe_callB (cr_all rfl) (by rfl) G.b_all (by decide +kernel) (pa_cons (pe_lock (pe_lc (own := [("one", 8)]) (g := gName 8) rfl sc_Bill_shows.nd (pi_keys (pe_fldK (K := K) rfl (pv 0) rfl)) (blkOk_by (own := [("one", 8)]) (N := N_Bill_shows) (sc := defScope sBillShows) (by decide +kernel)) (fun _ _ _ _ _ => (pg_name (i := 8) sc_Bill_shows.nd rfl (Or.inl rfl))) (fun _ _ _ _ _ => pts_nil) (fun _ _ _ _ _ => (C8.pe_mt (m_is_floor (T := T) G) hr (by decide) (pv 0) (pa_cons (pv 1) (pa_cons (pv 3) (pa_cons (pv 4) (pa_cons (pv 8) pa_nil)))))))) pa_nil)))))))))), ?_⟩
    have hRl := hP.len
    have hm5 := hP.m5
    have hnr := hP.nr
    have hg5 := hgs.mono hm5
    have lg := hg5.len
    have kk : ∀ H' (bb : Bool), Ex T H H' → showsBillB (rs.zip ws) th goal is fl = bb → Q (.bl bb) H' := fun H' bb x e => by
      rw [← e]
      exact k _ x
    refine ⟨_, rfl, _, rfl, _, rfl, b, a, pr, M, rs, th, ws, rfl, hP, fun H1 x1 => ?_⟩
    have hP1 := hP.ex x1
    obtain ⟨dxb, r, hsl, _⟩ := hP1.bk
    refine ⟨_, rfl, b, _, dxb, _, _, 0, _, rfl, hsl, G.sclsB, G.slM, rfl, _, rfl, M, gl, goal, rfl, hg.ex x1, hgs, hm5, fun H2 x2 => ?_⟩
    have x12 := x1.trans x2
    obtain ⟨dx, p, q, hc2, hp2, hq2⟩ := hB.ex x12
    refine ⟨_, rfl, c, _, dx, _, _, rfl, hc2, G.cls_Bill, G.na_indices, rfl, p, _, rfl, .inr (SqT.of hp2), _, _, rfl, rfl, _, rfl, ?_⟩
    rw [List.length_map]
    by_cases hlen : is.length > 16
    · rw [decide_eq_true (by omega : (16 : Int) < (is.length : Int))]
      refine iteT (iteT (kk _ _ x12 ?_))
      unfold showsBillB
      rw [decide_eq_true hlen, Bool.true_or]
      rfl
    · rw [decide_eq_false (by omega : ¬ (16 : Int) < (is.length : Int))]
      refine iteF ?_
      refine ⟨_, rfl, c, _, dx, _, _, rfl, hc2, G.cls_Bill, G.na_indices, rfl, p, rfl, ⟨_, SqT.of hp2⟩, fun D hD => ?_⟩
      refine lc_bl (T := T) (ds := is) (b := okI (rs.zip ws)) (walk_tup (xs := is.map V.int)) (by rw [List.length_map]) (by rw [List.length_map]; omega) hD (fun Hx x => SqT.of (hp2.ex x)) (fun _ _ _ _ _ _ y => yat_ex y) ?_ ?_
      · intro i d v Hx Hy hd _ x y S hS
        obtain ⟨e, q⟩ := y
        subst e
        obtain rfl := at_map q hd
        refine hS _ rfl fun Hz xz Q3 k3 => ?_
        refine ⟨_, rfl, _, rfl, rLenB (T := T) (hP.bk.ex ((x12.trans x).trans xz)) (by omega) fun Hw xw => ⟨_, _, rfl, rfl, d, 0, (rs.length : Int) - 1, rfl, k3 _ _ xw ?_⟩⟩
        unfold okI
        rw [hRl]
        refine congrArg V.bl (Bool.eq_iff_iff.mpr ?_)
        rw [Bool.and_eq_true, decide_eq_true_eq, decide_eq_true_eq, decide_eq_true_eq]
        omega
      intro H3 x3 hD3
      refine ⟨D, _, rfl, SqL.of hD3, _, rfl, ?_⟩
      rw [all_id]
      have x13 := x12.trans x3
      have eS : ∀ bb, is.all (okI (rs.zip ws)) = bb → showsBillB (rs.zip ws) th goal is fl = (bb && billB (rs.zip ws) th goal is fl) := fun bb e => by
        unfold showsBillB
        rw [decide_eq_false hlen, e, Bool.false_or, Bool.not_not]
      cases ev : is.all (okI (rs.zip ws)) with
      | false =>
        refine iteT (kk _ _ x13 ?_)
        rw [eS _ ev, Bool.false_and]
      | true =>
        refine iteF ?_
        have eS := eS _ ev
        rw [Bool.true_and] at eS
        refine ⟨_, rfl, _, _, rfl, ?_⟩
        have hP3 := hP.ex x13
        obtain ⟨dxb, r, hsl, hrus⟩ := hP3.bk
        obtain ⟨as, h1, h2, h3⟩ := hrus.sq
        have hc3 := x3.ins hc2
        have hp3 := hp2.ex x3
        have hq3 := hq2.ex x3
        have hg3 := hg.ex x13
        refine ⟨_, rfl, c, _, dx, _, _, rfl, hc3, G.cls_Bill, G.na_indices, rfl, p, rfl, ⟨_, SqT.of hp3⟩, ?_⟩
        refine for_tup (xs := is.map V.int) (fun i σ H' => ∃ (v5 : Option V) (h : Addr) (hs : List Int) (tot : Int), σ = [some (.ref c), some (.ref b), some (.ref a), some (.ref pr), some (.ref gl), v5, some (.ref h), some (.int tot), none] ∧ Ex T H3 H' ∧ HT H' h hs ∧ IsS M hs ∧ wlk (rs.zip ws) (is.take i) (th, 0) = some (hs, tot))
          ⟨none, a, th, 0, rfl, Ex.refl T H3, hP3.ht, hP.hth, rfl⟩ (fun i σ H' hi ⟨v5, h, hs, tot, e, x, _⟩ => SqT.of (hp3.ex x)) ?_ ?_
        · rintro i x σ H4 hx ⟨v5, h, hs, tot, rfl, x4, hh, hhs, hw⟩
          obtain ⟨ix, hix, rfl⟩ := at_of hx
          have hok := all_of_all ev hix
          obtain ⟨q1, q2⟩ := okI_iff.mp hok
          rw [hRl] at q2
          have hk : ix.toNat < rs.length := by omega
          have hik : ((ix.toNat : Nat) : Int) = ix := by omega
          have hri : rs[ix.toNat]? = some rs[ix.toNat] := List.getElem?_eq_getElem hk
          obtain ⟨w, hwi, hRi⟩ := hP.at_ hri
          obtain ⟨ai, hai, hra⟩ := pair_at' h3 hri
          have hru := hP.hr _ (List.mem_of_getElem? hri)
          generalize rs[ix.toNat] = ru at hri hRi hra hru
          obtain ⟨pp, cc, hr1, hr2, hr3⟩ := hra
          have hatI : atI (as.map V.ref) ix = some (.ref ai) := by
            rw [← hik]
            exact atI_nat (by rw [List.getElem?_map, hai]; rfl)
          have hw1 : wlk (rs.zip ws) (is.take (i + 1)) (th, 0) = if sub ru.1 hs = true then some (jn hs ru.2, tot + w) else none := by
            rw [take_snoc hix, wlk_append, hw]
            exact wlk_one (st := (hs, tot)) hok hRi
          have hsl4 := slt_keep hsl fun b o _ e n => x4.1 b o e n
          refine ⟨_, rfl, b, _, dxb, _, _, 1, _, rfl, hsl4, G.sclsB, G.slR, rfl, _, rfl, r, _, ix, .ref ai, rfl, rfl, SqT.of (x4.tup h1), hatI, ai, _, 0, .ref pp, rfl, rfl, SqT.of (x4.tup hr1), rfl, _, rfl, pp, h, ru.1, (fun m => decide (m ∈ hs)), rfl, hr2.ex x4, by have := (hru.1.mono hm5).len; omega, Mem.tup hh, fun H5 x5 => ⟨_, rfl, ?_⟩⟩
          have hsub : (ru.1.all fun m => decide (m ∈ hs)) = sub ru.1 hs := rfl
          rw [hsub]
          have x35 := x4.trans x5
          cases e1 : sub ru.1 hs with
          | false =>
            rw [e1] at hw1
            refine iteT (kk _ _ (x13.trans x35) ?_)
            rw [eS]
            unfold billB
            rw [wlk_none (k := i + 1) hw1]
          | true =>
            rw [e1] at hw1
            refine iteF ?_
            have hsl5 := slt_keep hsl fun b o _ e n => x35.1 b o e n
            refine ⟨_, rfl, _, rfl, b, _, dxb, _, _, 1, _, rfl, hsl5, G.sclsB, G.slR, rfl, _, rfl, r, _, ix, .ref ai, rfl, rfl, SqT.of (x35.tup h1), hatI, ai, _, 1, .ref cc, rfl, rfl, SqT.of (x35.tup hr1), rfl, h, cc, hs, ru.2, rfl, hh.ex x5, hr3.ex x35, hhs.mono hm5, hru.2.mono hm5, fun H6 p6 x6 hj => ?_⟩
            have x36 := x35.trans x6
            refine ⟨_, rfl, _, rfl, _, rfl, pr, _, ix, .int w, rfl, rfl, SqT.of (hP3.hp.ex x36), ?_, _, _, rfl, rfl, _, _, rfl, _, p6, jn hs ru.2, tot + w, rfl, x36, hj, hhs.jn hm5 hru.2, by rw [hw1]; rfl⟩
            rw [← hik]
            exact atI_nat (by rw [List.getElem?_map, hwi]; rfl)
        · rintro σ H4 ⟨v5, h, hs, tot, rfl, x4, hh, hhs, hw⟩
          rw [List.length_map, List.take_length] at hw
          have x14 := x13.trans x4
          have eB : billB (rs.zip ws) th goal is fl = (!(!(sub goal hs) || decide ((lk fl th).getD 0 < tot)) && (fl.map (·.1)).all (floorB (rs.zip ws) goal fl)) := by
            unfold billB
            rw [hw]
          refine ⟨_, rfl, _, rfl, gl, h, goal, (fun m => decide (m ∈ hs)), rfl, hg3.ex x4, by omega, Mem.tup hh, fun H5 x5 => ⟨_, rfl, ?_⟩⟩
          have hsub : (goal.all fun m => decide (m ∈ hs)) = sub goal hs := rfl
          rw [hsub]
          have x15 := x14.trans x5
          have x35 := x4.trans x5
          cases e1 : sub goal hs with
          | false =>
            refine iteT (iteT (kk _ _ x15 ?_))
            rw [eS, eB, e1]
            rfl
          | true =>
            refine iteF ?_
            have hq5 := hq3.ex x35
            refine ⟨_, rfl, c, _, dx, _, _, rfl, x35.ins hc3, G.cls_Bill, G.na_floors, rfl, q, rfl, isD_tr (.inl hq5), _, rfl, _, dget_tr (.inl hq5) (hP3.ht.ex x35), _, rfl, _, _, getD_int _ _, rfl, _, rfl, ?_⟩
            cases e2 : decide ((lk fl th).getD 0 < tot) with
            | true =>
              refine iteT (kk _ _ x15 ?_)
              rw [eS, eB, e1, e2]
              rfl
            | false =>
              refine iteF ?_
              have hc5 := x35.ins hc3
              refine ⟨q, .dT (dt fl), hq5, trivial, fun od => ?_⟩
              have hPl := (hP.ex x15).lock (o := .frz od (.dT (dt fl))) hq5 trivial
              have hcl := ins_lock (o := .frz od (.dT (dt fl))) hc5 hq5 (show IsDc (.dT (dt fl)) from trivial)
              have hgl := (hg.ex x15).im (lock_im (o := .frz od (.dT (dt fl))) hq5 (show IsDc (.dT (dt fl)) from trivial))
              have hl0 : upd H5 q (.frz od (.dT (dt fl))) q = some (.frz od (.dT (dt fl))) := upd_same
              have hback : ∀ H', Ex T (upd H5 q (.frz od (.dT (dt fl)))) H' → H' q = some (.frz od (.dT (dt fl))) ∧ Ex T H5 (upd H' q (.dT (dt fl))) := fun H' x => lock_ex hq5 (show IsDc (.dT (dt fl)) from trivial) x
              generalize upd H5 q (.frz od (.dT (dt fl))) = Hl at *
              refine ⟨_, rfl, c, _, dx, _, _, rfl, hcl, G.cls_Bill, G.na_floors, rfl, q, od, rfl, .inr ⟨dt fl, hl0, fun D2 hD2 => ?_⟩⟩
              refine lc_bl (T := T) (ds := fl) (b := fun e => floorB (rs.zip ws) goal fl e.1) (walk_keysT (kvs := dt fl)) (by rw [List.length_map]) (by rw [List.length_map]; omega) hD2 (fun Hx x => x.frz hl0) (fun i Hx v Hy hi x y => by rw [y.1]; exact Ex.refl T Hx) ?_ ?_
              · intro i d v Hx Hy hd _ x y S hS
                obtain ⟨rfl, kx, vx, qa, hkv, rfl, hqa⟩ := y
                obtain ⟨s, z, hs1, rfl, rfl⟩ := keyT (T := T) (Hl := Hl) (H := Hl) hkv
                rw [hd] at hs1
                obtain rfl := Option.some.inj hs1
                have hqa2 : HT Hy qa s := by
                  unfold HT
                  rw [hqa, mapK]
                have hsm : s ∈ fl.map (·.1) := List.mem_map.mpr ⟨_, List.mem_of_getElem? hd, rfl⟩
                refine hS _ rfl fun Hz xz Q3 k3 => ?_
                have xx := x.trans xz
                exact ⟨_, rfl, c, dx, _, rfl, xx.ins hcl, rfl, _, rfl, _, rfl, _, rfl, _, rfl, c, b, a, pr, gl, qa, dx, p, q, M, rs, th, ws, goal, s, fl, rfl, xx.ins hcl, .inr ⟨od, xx.frz hl0⟩, hPl.ex xx, hgl.ex xx, hgs, hqa2.ex xz, hfk s hsm, lk_mem.mpr hsm, fun Hw xw => k3 _ _ xw rfl⟩
              · intro H6 x6 hD6
                obtain ⟨y1, y2⟩ := hback H6 x6
                have hDq : D2 ≠ q := ne_of hD6 y1 (fun z => by cases z)
                refine ⟨y1, D2, _, rfl, SqL.of (by rw [upd_ne hDq]; exact hD6), ?_⟩
                rw [all_id]
                refine kk _ _ (x15.trans y2) ?_
                rw [eS, eB, e1, e2, List.all_map]
                rfl


end
end Pb
set_option Elab.async false
set_option linter.all false
set_option maxRecDepth 100000
set_option maxHeartbeats 4000000
namespace Pb
open PySem PySem.Spec PyProof.Rows L2
/-! ### found: set -> (price, index) -/
abbrev Fe := Addr × Int × Option Nat
def oi : Option Nat → V
  | none => .non
  | some k => .int (k : Int)
abbrev ft (fs : List (List Int × Fe)) : List (List Key × V) := fs.map fun e => (iK e.1, V.ref e.2.1)
def FD (H : Hp) (d : Addr) (fs : List (List Int × Fe)) : Prop := H d = some (.dT (ft fs)) ∧ ∀ s x, lk fs s = some x → H x.1 = some (.tup [.int x.2.1, oi x.2.2])
def gF (fs : List (List Int × Fe)) (s : List Int) : Option Int := (lk fs s).map fun x => x.2.1
def iF (fs : List (List Int × Fe)) (s : List Int) : Option Nat := match lk fs s with
  | none => none
  | some x => x.2.2
section
variable {K : PySem.W.Frag} {T : Tb} {H H' : Hp} {d b : Addr} {fs : List (List Int × Fe)} {s : List Int}
theorem FD.ex (h : FD H d fs) (x : Ex T H H') : FD H' d fs := ⟨x.dT h.1, fun s y e => x.tup (h.2 s y e)⟩
theorem dget_fd (h : FD H d fs) (hb : HT H b s) : DGet H d (.ref b) ((lk fs s).map fun x => V.ref x.1) :=
  .inr ⟨_, iK s, b, .inl h.1, rfl, by rw [mapK]; exact hb, (valV_of (k := iK) (e := fun x : Fe => V.ref x.1) iK_inj s fs).symm⟩
theorem gF_put {x : Fe} : gF (pt fs s x) = fu (gF fs) s x.2.1 := by
  funext j
  unfold gF fu
  rw [lk_pt]
  by_cases e : j = s
  · rw [if_pos e, if_pos e]
    rfl
  · rw [if_neg e, if_neg e]
theorem iF_put {x : Fe} : iF (pt fs s x) = fun j => if j = s then x.2.2 else iF fs j := by
  funext j
  unfold iF
  rw [lk_pt]
  by_cases e : j = s
  · rw [if_pos e, if_pos e]
  · rw [if_neg e, if_neg e]
theorem FD.put {x : Fe} (h : FD H d fs) (hx : H x.1 = some (.tup [.int x.2.1, oi x.2.2])) : FD (upd H d (.dT (ft (pt fs s x)))) d (pt fs s x) := by
  refine ⟨upd_same, fun j y e => ?_⟩
  have im : Im H (upd H d (.dT (ft (pt fs s x)))) := Im.mut h.1 trivial
  rw [lk_pt] at e
  split at e
  · obtain rfl := Option.some.inj e
    exact im _ _ hx
  · exact im _ _ (h.2 j y e)
theorem dput_fd {x : Fe} (h : FD H d fs) (hb : HT H b s) (l : fs.length < 10000) : DPut H d (.ref b) (.ref x.1) (upd H d (.dT (ft (pt fs s x)))) := by
  have e : putK (ft fs) (iK s) (V.ref x.1) = ft (pt fs s x) := putK_of (k := iK) (e := fun x : Fe => V.ref x.1) iK_inj s x fs
  rw [← e]
  exact DPut.t h.1 (by rw [mapK]; exact hb) (by rw [List.length_map]; exact Nat.lt_of_lt_of_le l (by decide))
theorem gF_some {x : Fe} (h : lk fs s = some x) : gF fs s = some x.2.1 := by
  unfold gF
  rw [h]
  rfl
theorem gF_none : gF fs s = none ↔ lk fs s = none := by
  unfold gF
  rw [Option.map_eq_none_iff]
theorem iF_some {x : Fe} (h : lk fs s = some x) : iF fs s = x.2.2 := by
  unfold iF
  rw [h]
end
/-! ### dict comprehensions over sets -/
section
variable {T : Tb} {J : It} {n : Nat} {G : Hp → Prop} {Y : Nat → Hp → V → Hp → Prop} {g : TG} {tt : TT} {tk tv : TE} {vs : List Nat} {σ : L2.St} {H1 : Hp} {D : Addr} {Qd : Hp → Prop} {ds : List (Addr × List Int)}
theorem dcT_val (w : Walk J n G Y) (hn : ds.length = n) (hz : n ≤ 10000) (hD : H1 D = none) (hds : ∀ b ∈ ds, HT H1 b.1 b.2) (hnd : (ds.map (·.2)).Nodup) (hG : ∀ H, Ex T H1 H → G H) (hY : ∀ i H x H', i < n → Ex T H1 H → Y i H x H' → Ex T H H') (f : List Int → Bool) (Pz : List Int → V → Hp → Prop) (stP : ∀ d v H H', Im H H' → Pz d v H → Pz d v H')
    (hs : ∀ i d x H H', ds[i]? = some d → Ex T H1 H → Ex T H1 H' → Y i H x H' → ∀ S : L2.St → Hp → Prop, (∀ σ2, wipe σ2 vs = wipe σ vs → EvrT (Ex T) tt σ2 H' (fun b => b = f d.2) → (f d.2 = true → Evr (Ex T) tk σ2 H' (fun y _ => y = .ref d.1)) → (f d.2 = true → Evr (Ex T) tv σ2 H' (Pz d.2)) → S σ2 H') → g x (wipe σ vs) H' S)
    (hq : ∀ (H' : Hp) (es : List (List Int × V)), Ex T H1 H' → H' D = some (.dT (es.map fun p => (iK p.1, p.2))) → Paired (fun d e => e.1 = d.2 ∧ Pz d.2 e.2 H') (ds.filter fun d => f d.2) es → Qd H') :
    ∃ W : Nat → Nat → Hp → Prop, (∃ m, W 0 m (upd H1 D (.dT []))) ∧ ∀ i m H, W i m H →
      (J.stop i H ∧ Qd H) ∨ (J.go i H ∧ ∃ Nx : Hp → Prop, (∀ H', Nx H' → ∃ m', m' < m ∧ W (i + 1) m' H') ∧ ∀ x H', J.yld i H x H' → g x (wipe σ vs) H' fun σ2 H2 => wipe σ2 vs = wipe σ vs ∧ tt σ2 H2 fun b H3 =>
        if b = true then tk σ2 H3 fun y H4 => tv σ2 H4 fun z H5 => ∃ H6, DPutT H5 D y z H6 ∧ Nx H6 else Nx H3) := by
  subst hn
  refine walk_any w (fun i H => Ex T H1 H ∧ ∃ es : List (List Int × V), H D = some (.dT (es.map fun p => (iK p.1, p.2))) ∧ Paired (fun d e => e.1 = d.2 ∧ Pz d.2 e.2 H) ((ds.take i).filter fun d => f d.2) es) ⟨Ex.new hD, [], upd_same, by rw [List.take_zero]; exact .nil⟩ (fun i H _ p => hG H p.1)
    (fun Nx x H' => g x (wipe σ vs) H' fun σ2 H2 => wipe σ2 vs = wipe σ vs ∧ tt σ2 H2 fun b H3 => if b = true then tk σ2 H3 fun y H4 => tv σ2 H4 fun z H5 => ∃ H6, DPutT H5 D y z H6 ∧ Nx H6 else Nx H3) ?_ ?_
  · rintro i x H H' hi ⟨x1, es, hd, hp⟩ y
    have x2 : Ex T H H' := hY i H x H' hi x1 y
    have hdi : ds[i]? = some ds[i] := List.getElem?_eq_getElem hi
    have hm : ds[i] ∈ ds := List.getElem_mem hi
    generalize ds[i] = di at hdi hm
    refine hs i di x H H' hdi x1 (x1.trans x2) y _ fun σ2 hw ht hk hv => ⟨hw, ?_⟩
    refine ht H' (Ex.refl T H') _ fun b H3 x3 hb => ?_
    have hlen := Paired.length hp
    have hl : es.length ≤ i := by
      have h2 := List.length_filter_le (fun d : Addr × List Int => f d.2) (ds.take i)
      rw [List.length_take] at h2
      omega
    cases b with
    | false =>
      refine iteF ⟨(x1.trans x2).trans x3, es, x3.dT (x2.dT hd), ?_⟩
      rw [take_snoc hdi, filter_snoc_f (f := fun d : Addr × List Int => f d.2) hb.symm]
      exact Paired.imp (fun d e h => ⟨h.1, stP _ _ _ _ (x2.trans x3).im h.2⟩) hp
    | true =>
      refine iteT (hk hb.symm H3 x3 _ fun y4 H4 x4 hy => ?_)
      refine hv hb.symm H4 (x3.trans x4) _ fun z H5 x5 hz5 => ?_
      subst hy
      have hd5 := x5.dT (x4.dT (x3.dT (x2.dT hd)))
      have x25 := ((x2.trans x3).trans x4).trans x5
      have hkey := ((hds _ hm).ex x1).ex x25
      have hnew : lk es di.2 = none := by
        cases e : lk es di.2 with
        | none => rfl
        | some u =>
          have hin := lk_in e
          obtain ⟨j, hj, hje⟩ := List.getElem_of_mem hin
          obtain ⟨d', hd', h1, _⟩ := pair_at' hp (show es[j]? = some (di.2, u) by rw [List.getElem?_eq_getElem hj, hje])
          have hm' := List.mem_filter.mp (List.mem_of_getElem? hd')
          obtain ⟨j2, hj2, hje2⟩ := List.getElem_of_mem hm'.1
          rw [List.length_take] at hj2
          have hj3 : (ds.map (·.2))[j2]? = some di.2 := by
            rw [List.getElem?_map]
            have : ds[j2]? = some d' := by
              rw [← hje2, List.getElem_take, List.getElem?_eq_getElem]
            rw [this]
            exact congrArg some h1.symm
          have hj4 : (ds.map (·.2))[i]? = some di.2 := by rw [List.getElem?_map, hdi]; rfl
          have : j2 = i := (List.getElem?_inj (by rw [List.length_map]; omega) hnd).mp (hj3.trans hj4.symm)
          omega
      refine ⟨upd H5 D (.dT (putK (es.map fun p => (iK p.1, p.2)) (iK di.2) z)), ⟨_, iK di.2, di.1, hd5, rfl, by rw [mapK]; exact hkey, by rw [List.length_map]; exact Nat.lt_of_lt_of_le (by omega) (by decide : 10001 ≤ sizeLine), rfl⟩, Ex.mut ((x1.trans x25)) (NT.of hD) hd5 trivial, es ++ [(di.2, z)], ?_, ?_⟩
      · have ep : putK (es.map fun p => (iK p.1, p.2)) (iK di.2) z = (pt es di.2 z).map fun p => (iK p.1, p.2) := putK_of (k := iK) (e := fun v : V => v) iK_inj di.2 z es
        rw [upd_same, ep]
        unfold pt
        rw [lk_any, hnew]
        rfl
      · have im : Im H (upd H5 D (.dT (putK (es.map fun p => (iK p.1, p.2)) (iK di.2) z))) := x25.im.trans (Im.mut hd5 trivial)
        rw [take_snoc hdi, filter_snoc_t (f := fun d : Addr × List Int => f d.2) hb.symm]
        exact Paired.snoc (Paired.imp (fun d e h => ⟨h.1, stP _ _ _ _ im h.2⟩) hp) ⟨rfl, stP _ _ _ _ (Im.mut hd5 trivial) hz5⟩
  · rintro H ⟨x1, es, hd, hp⟩
    rw [List.take_length] at hp
    exact hq H es x1 hd hp
end
/-- entries made by such a comprehension, their values refs of (0, None) -/
theorem found0 {H : Hp} : ∀ {ds : List (Addr × List Int)} {es : List (List Int × V)}, Paired (fun d e => e.1 = d.2 ∧ ∃ a, e.2 = V.ref a ∧ H a = some (.tup [.int 0, .non])) ds es →
    ∃ fs : List (List Int × Fe), (es.map fun p => (iK p.1, p.2)) = ft fs ∧ fs.map (·.1) = ds.map (·.2) ∧ ∀ e ∈ fs, H e.2.1 = some (.tup [.int 0, .non]) ∧ e.2.2 = (0, none)
  | _, _, .nil => ⟨[], rfl, rfl, fun e h => (nomatch h)⟩
  | d :: _, (s, z) :: _, .cons h t => by
    obtain ⟨h1, a, h2, h3⟩ := h
    obtain ⟨fs, g1, g2, g3⟩ := found0 t
    dsimp only at h1 h2
    subst h1 h2
    refine ⟨(d.2, a, 0, none) :: fs, by rw [List.map_cons, g1]; rfl, by rw [List.map_cons, List.map_cons, g2], fun e he => ?_⟩
    rcases List.mem_cons.mp he with e1 | he
    · rw [e1]
      exact ⟨h3, rfl⟩
    · exact g3 e he
/-- .. ints -/
theorem floors0 {H : Hp} {v : List Int → Int} : ∀ {ds : List (Addr × List Int)} {es : List (List Int × V)}, Paired (fun d e => e.1 = d.2 ∧ e.2 = V.int (v d.2)) ds es → (es.map fun p => (iK p.1, p.2)) = dt ((ds.map (·.2)).map fun s => (s, v s))
  | _, _, .nil => rfl
  | d :: _, (s, z) :: _, .cons h t => by
    obtain ⟨h1, h2⟩ := h
    dsimp only at h1 h2
    subst h1 h2
    rw [List.map_cons, floors0 (H := H) t]
    rfl
theorem lk_fun {v : List Int → Int} : ∀ (ss : List (List Int)) (s : List Int), lk (ss.map fun s => (s, v s)) s = if s ∈ ss then some (v s) else none
  | [], s => by
    rw [if_neg (by simp)]
    rfl
  | x :: ss, s => by
    rw [List.map_cons, lk_cons, lk_fun ss s]
    by_cases e : x = s
    · rw [if_pos e, if_pos (by rw [e]; exact List.mem_cons_self), e]
    · rw [if_neg e]
      by_cases q : s ∈ ss
      · rw [if_pos q, if_pos (List.mem_cons_of_mem _ q)]
      · rw [if_neg q, if_neg (fun z => by rcases List.mem_cons.mp z with z | z; exact e z.symm; exact q z)]
end Pb
namespace Pb
open PySem PySem.Spec PyProof.Rows L2
theorem canInts : ∀ s : List Int, PyData.canLayAll0 (s.map PyData.int) = true
  | [] => by simp [PyData.canLayAll0]
  | x :: s => by
    simp only [List.map_cons, PyData.canLayAll0, PyData.canLay0, Bool.true_and]
    exact canInts s
theorem shaped_ints (s : List Int) : SeqAt.shaped (.tuple (s.map PyData.int)) = true := by
  unfold SeqAt.shaped
  rw [Bool.and_eq_true]
  have hd := depthInts s
  refine ⟨by simp only [PyData.canLay0]; exact canInts s, decide_eq_true ?_⟩
  simp only [PyData.depth]
  omega
theorem eqv_ints : ∀ s t : List Int, PyData.eqv (.tuple (s.map PyData.int)) (.tuple (t.map PyData.int)) = decide (s = t) := by
  have key : ∀ s t : List Int, PyData.eqvAll (s.map PyData.int) (t.map PyData.int) = decide (s = t) := by
    intro s
    induction s with
    | nil =>
      intro t
      cases t <;> simp [PyData.eqvAll]
    | cons x s ih =>
      intro t
      cases t with
      | nil => simp [PyData.eqvAll]
      | cons y t =>
        simp only [List.map_cons, PyData.eqvAll, PyData.eqv, ih]
        by_cases h : x = y
        · subst h
          simp
        · simp [h]
  intro s t
  simp only [PyData.eqv]
  exact key s t
end Pb
set_option Elab.async false
set_option linter.all false
set_option maxRecDepth 100000
set_option maxHeartbeats 4000000

namespace Pb
open PySem PySem.Spec PyProof.Rows L2
section
variable {P : Program} {w : World} {K : PySem.W.Frag} {mg : Str → Option Value} {base : Heap}

def spBillsFor (T : Tb) (K : PySem.W.Frag) : Sp := fun vs H Q _ => ∃ (b a pr gl : Addr) (M : Int) (rs : List Ru) (th ws goal : List Int), vs = [.ref b, .ref pr, .ref gl] ∧ Pr K H b a pr M rs th ws ∧ HT H gl goal ∧ IsS M goal ∧ LamX.Tabs T H ∧
  ∀ (H' : Hp) (d : Addr) (fs : List (List Int × Fe)), Ex T H H' → FD H' d fs → (fs.map (·.1)).Nodup → Gol M (rs.zip ws) goal (gF fs) → Ix (rs.zip ws) goal (gF fs) (iF fs) → Q (.ref d) H'

abbrev N_bills_for : List Str := ["book", "prices", "goal", "one", "found", "has_more", "index", "premise", "conclusion", "late", "price"]
theorem sc_bills_for : FnScope N_bills_for ["book", "prices", "goal"] (defScope sBillsFor) := ⟨rfl, rfl, rfl, by decide +kernel, rfl, by decide +kernel, by decide +kernel⟩
theorem c_bills_for (B : Gb K mg base) : C8.Cal P w K mg base 3 "bills_for" (spBillsFor (Tt K) K) [] := by
  have G := B.g
  refine calOf G 16 rfl rfl sc_bills_for (fun _ _ _ _ _ _ us hl => match us, hl with | [_, _, _], _ => rfl) (fun vs H Q E h => ?_) (fun f cdv A outer s H vs Q E hr h => ?_)
  · obtain ⟨b, a, pr, gl, M, rs, th, ws, goal, rfl, hP, hg, hgs, htab, k⟩ := h
    rfl
  · obtain ⟨b, a, pr, gl, M, rs, th, ws, goal, rfl, hP, hg, hgs, htab, k⟩ := h
    have hu := hu_of hr
    refine ⟨_, (pss_cons (ps_par (i := 4) (j := 5) rfl sc_bills_for.nd rfl rfl (by decide) rfl rfl (pa_cons (pe_dcT (own := [("one", 3)]) (g := gName 3) rfl hu sc_bills_for.nd (pi_list (C8.pe_c (c_sets_of B) hr (by decide) (by rfl) (pa_cons (pe_slK (K := K) rfl (pv 0)) pa_nil))) (blkOk_by (own := [("one", 3)]) (N := N_bills_for) (sc := defScope sBillsFor) (by decide +kernel)) (fun _ _ _ _ _ => (pg_name (i := 3) sc_bills_for.nd rfl (Or.inl rfl))) (fun _ _ _ _ _ => pts_one (pt_val (C8.pe_c (c_is_within (T := Tt K) G) hr (by decide) (by rfl) (pa_cons (pv 2) (pa_cons (pv 3) pa_nil))))) (fun _ _ _ _ _ => (pv 3)) (fun _ _ _ _ _ => (pe_tup (pa_cons pe_int (pa_cons pe_non pa_nil))))) (pa_cons pe_bl pa_nil)) (by rfl))
      (pss_cons (ps_while PassesOwn.never (pt_val (pv 5))
        (pss_cons (ps_set (i := 5) sc_bills_for.nd rfl (Or.inl rfl) pe_bl)
          (pss_one (ps_for PassesOwn.never rfl (pi_list (C8.pe_c (c_sets_of B) hr (by decide) (by rfl) (pa_cons (pe_slK (K := K) rfl (pv 0)) pa_nil))) (pg_name (i := 3) sc_bills_for.nd rfl (Or.inl rfl))
            (pss_one (ps_for PassesOwn.never rfl (pi_enumT (by rfl) G.b_enumerate (pa_cons (pe_slK (K := K) rfl (pv 0)) pa_nil)) (pg_tup rfl (pgs_cons (pg_name (i := 6) sc_bills_for.nd rfl (Or.inl rfl)) (pgs_cons (pg_tup rfl (pgs_cons (pg_name (i := 7) sc_bills_for.nd rfl (Or.inl rfl)) (pgs_cons (pg_name (i := 8) sc_bills_for.nd rfl (Or.inl rfl)) pgs_nil))) pgs_nil)))
                (pss_cons (ps_set (i := 9) sc_bills_for.nd rfl (Or.inl rfl) (C8.pe_c (c_joined (T := Tt K) G) hr (by decide) (by rfl) (pa_cons (pv 3) (pa_cons (pv 8) pa_nil))))
                  (pss_one (ps_if (PW.pt (pw_and (pt_val (C8.pe_c (c_is_within (T := Tt K) G) hr (by decide) (by rfl) (pa_cons (pv 7) (pa_cons (pv 3) pa_nil)))) (pw_and (pt_cmp (pc_din hu (pv 9) (pv 4))) (pw_and1 (pt_cmpR (op_neD hr.units) (pv 9) (pv 3) (nomark _))))))
                    (pss_cons (ps_set (i := 10) sc_bills_for.nd rfl (Or.inl rfl) (pe_op op_add (pe_ix (ix_tupK (K := K) rfl) (pe_dget hu (pv 4) (pv 9) (fun _ _ => rfl)) pe_int (fun _ _ => rfl)) (pe_ix (ix_tupK (K := K) rfl) (pv 1) (pv 6) (fun _ _ => rfl))))
                      (pss_one (ps_if (PW.pt (pw_or (pt_cmp (pc_dnotin hu (pv 3) (pv 4))) (pw_or1 (pt_cmpR op_lt (pv 10) (pe_ix (ix_tupK (K := K) rfl) (pe_dget hu (pv 4) (pv 3) (fun _ _ => rfl)) pe_int (fun _ _ => rfl)) (nomark _)))))
                        (pss_cons (ps_dput hu (pv 4) (pv 3) (pe_tup (pa_cons (pv 10) (pa_cons (pv 6) pa_nil))) rfl)
                          (pss_one (ps_set (i := 5) sc_bills_for.nd rfl (Or.inl rfl) pe_bl))) pss_nil))) pss_nil)))))))))
      (pss_one (ps_ret (pv 4))))), ?_⟩
    have hR := hP.ok
    have hRl := hP.len
    have hnr := hP.nr
    have hm1 := hP.m1
    have hm5 := hP.m5
    have h0 : 0 ≤ M := by omega
    have hg5 := hgs.mono hm5
    have lg := hg5.len
    obtain ⟨dxb, r, hsl, hrus⟩ := hP.bk
    obtain ⟨as, h1, h2, h3⟩ := hrus.sq
    refine ⟨_, rfl, b, _, dxb, _, _, 0, _, rfl, hsl, G.sclsB, G.slM, rfl, M, rfl, h0, hm5, htab, fun H1 l bs x1 hst hper => ?_⟩
    have hbn : (bs.map (·.2)).Nodup := hper.nodup_iff.mpr (subs_nodup h0 hm5)
    have hbl : bs.length ≤ 32 := by
      have := hper.length_eq
      rw [List.length_map] at this
      have := subs_len h0 hm5
      omega
    have hbS : ∀ e ∈ bs, IsS M e.2 := fun e he => (subs_iff h0).mp (hper.mem_iff.mp (List.mem_map_of_mem he))
    refine ⟨l, rfl, ⟨_, SqL.of hst.1⟩, fun D hD => ?_⟩
    refine dcT_val (T := Tt K) (ds := bs) (walk_list (xs := bs.map fun b => V.ref b.1)) (by rw [List.length_map]) (by rw [List.length_map]; omega) hD hst.2 hbn (fun Hx x => SqL.of (x.lst hst.1)) (fun _ _ _ _ _ _ y => yat_ex y) (fun s => sub goal s)
      (fun s z H => ∃ a, z = V.ref a ∧ H a = some (.tup [.int 0, .non])) (fun s z Ha Hb im ⟨a, e, h⟩ => ⟨a, e, im _ _ h⟩) ?_ ?_
    · intro i d v Hx Hy hd _ x y S hS
      obtain ⟨e, q⟩ := y
      subst e
      obtain rfl := at_map q hd
      have hdm := List.mem_of_getElem? hd
      refine hS _ rfl (fun Hz xz Q3 k3 => ?_) (fun _ Hz xz Q3 k3 => ⟨_, rfl, k3 _ _ (Ex.refl _ Hz) rfl⟩) fun _ Hz xz Q3 k3 => ?_
      · exact ⟨_, rfl, _, rfl, gl, d.1, goal, (fun m => decide (m ∈ d.2)), rfl, hg.ex ((x1.trans x).trans xz), by omega, Mem.tup ((hst.2 d hdm).ex (x.trans xz)), fun Hw xw => ⟨_, rfl, k3 _ _ xw rfl⟩⟩
      · exact ⟨by show 2 ≤ sizeLine; decide, fun q hq => k3 _ _ (Ex.new hq) ⟨q, rfl, upd_same⟩⟩
    intro H2 es x2 hDT hpair
    obtain ⟨fs, g1, g2, g3⟩ := found0 hpair
    rw [g1] at hDT
    refine ⟨_, _, rfl, ?_⟩
    have x12 := x1.trans x2
    have nD : NT H D := NT.new x1 hD
    have hfn : (fs.map (·.1)).Nodup := by
      rw [g2]
      have : ((bs.filter fun d => sub goal d.2).map (·.2)).Sublist (bs.map (·.2)) := (List.filter_sublist).map _
      exact this.nodup hbn
    have eg : gF fs = g0 M goal := by
      funext s
      unfold gF g0
      have hmem : (lk fs s).isSome = true ↔ s ∈ subs M ∧ sub goal s = true := by
        rw [lk_mem, g2, List.mem_map]
        constructor
        · rintro ⟨e, he, rfl⟩
          obtain ⟨q1, q2⟩ := List.mem_filter.mp he
          exact ⟨hper.mem_iff.mp (List.mem_map_of_mem q1), q2⟩
        · rintro ⟨q1, q2⟩
          obtain ⟨e, he, rfl⟩ := List.mem_map.mp (hper.mem_iff.mpr q1)
          exact ⟨e, List.mem_filter.mpr ⟨he, q2⟩, rfl⟩
      cases e : lk fs s with
      | none =>
        rw [e] at hmem
        rw [if_neg (fun z => by have := hmem.mpr z; cases this)]
        rfl
      | some y =>
        rw [e] at hmem
        rw [if_pos (hmem.mp rfl)]
        have := (g3 _ (lk_in e)).2
        dsimp only at this
        show some y.2.1 = some 0
        rw [this]
    have ei : iF fs = fun _ => none := by
      funext s
      unfold iF
      cases e : lk fs s with
      | none => rfl
      | some y =>
        have := (g3 _ (lk_in e)).2
        dsimp only at this
        show y.2.2 = none
        rw [this]
    have hFD2 : FD H2 D fs := ⟨hDT, fun s y e => by
      have := g3 _ (lk_in e)
      rw [this.1, show y.2 = (0, none) from this.2]
      rfl⟩
    have lenle : ∀ {H' : Hp} {f : List (List Int × Fe)}, (f.map (·.1)).Nodup → (∀ s, (gF f s).isSome = true → IsS M s) → f.length ≤ 32 := fun {H' f} n hd => by
      have := nodup_le n (m := subs M) fun s hs => (subs_iff h0).mpr (hd s (by unfold gF; rw [Option.isSome_map]; exact lk_mem.mpr hs))
      rw [List.length_map] at this
      have := subs_len h0 hm5
      omega
    refine ⟨fun m σ H' => ∃ (fs : List (List Int × Fe)) (c : Bool) (v3 v6 v7 v8 v9 v10 : Option V), σ = [some (.ref b), some (.ref pr), some (.ref gl), v3, some (.ref D), some (.bl c), v6, v7, v8, v9, v10] ∧ Ex (Tt K) H H' ∧ FD H' D fs ∧ (fs.map (·.1)).Nodup ∧ Pg M (rs.zip ws) goal (gF fs) ∧ Ix (rs.zip ws) goal (gF fs) (iF fs) ∧
      (c = false → ∀ s ∈ subs M, ∀ r ∈ rs.zip ws, (∀ m ∈ r.1.1, m ∈ s) → ∀ v, gF fs (jn s r.1.2) = some v → ∃ u, gF fs s = some u ∧ u ≤ v + r.2) ∧ m = 2 * nu M (gF fs) + (if c = true then 1 else 0),
      ⟨_, fs, true, none, none, none, none, none, none, rfl, x12, hFD2, hfn, by rw [eg]; exact Pg.init h0 hm5, by rw [eg, ei]; exact Ix.init, fun z => (nomatch z), rfl⟩, ?_⟩
    clear hFD2 ei eg hfn g3 g2 g1 hpair hDT
    rintro m σ H3 ⟨fs, c, v3, v6, v7, v8, v9, v10, rfl, x3, hFD, hnd, hPg, hIx, hcc, rfl⟩
    refine ⟨_, rfl, c, rfl, ?_⟩
    cases c with
    | false => exact iteF ⟨_, rfl, k _ D fs x3 hFD hnd (hPg.gol fun s hs => hcc rfl s ((subs_iff h0).mpr hs)) hIx⟩
    | true =>
      refine iteT ⟨_, fun _ _ h => h, ?_⟩
      have hsl3 := slt_keep hsl fun b o _ e n => x3.1 b o e n
      refine ⟨_, rfl, b, _, dxb, _, _, 0, _, rfl, hsl3, G.sclsB, G.slM, rfl, M, rfl, h0, hm5, x3.2 htab, fun H4 l2 bs2 x4 hst2 hper2 => ?_⟩
      have hbl2 : bs2.length ≤ 32 := by
        have := hper2.length_eq
        rw [List.length_map] at this
        have := subs_len h0 hm5
        omega
      have hbS2 : ∀ e ∈ bs2, IsS M e.2 := fun e he => (subs_iff h0).mp (hper2.mem_iff.mp (List.mem_map_of_mem he))
      refine ⟨l2, rfl, ⟨_, SqL.of hst2.1⟩, ?_⟩
      have x34 := x3.trans x4
      refine for_list (xs := bs2.map fun b => V.ref b.1) (fun i σ H' => ∃ (f : List (List Int × Fe)) (c : Bool) (v3 v6 v7 v8 v9 v10 : Option V), σ = [some (.ref b), some (.ref pr), some (.ref gl), v3, some (.ref D), some (.bl c), v6, v7, v8, v9, v10] ∧ Ex (Tt K) H H' ∧ H' l2 = some (.lst (bs2.map fun b => V.ref b.1)) ∧ Im H4 H' ∧ FD H' D f ∧ (f.map (·.1)).Nodup ∧ Pg M (rs.zip ws) goal (gF f) ∧ Ix (rs.zip ws) goal (gF f) (iF f) ∧
          (c = false → f = fs ∧ ∀ (j : Nat) (e : Addr × List Int), j < i → bs2[j]? = some e → ∀ r ∈ rs.zip ws, (∀ m ∈ r.1.1, m ∈ e.2) → ∀ v, gF f (jn e.2 r.1.2) = some v → ∃ u, gF f e.2 = some u ∧ u ≤ v + r.2) ∧ (c = true → nu M (gF f) < nu M (gF fs)) ∧ nu M (gF f) ≤ nu M (gF fs))
        ⟨fs, false, v3, v6, v7, v8, v9, v10, rfl, x34, hst2.1, Im.refl _, hFD.ex x4, hnd, hPg, hIx, fun _ => ⟨rfl, fun j e z => absurd z (Nat.not_lt_zero j)⟩, fun z => (nomatch z), Nat.le_refl _⟩ (fun i σ H' hi ⟨_, _, _, _, _, _, _, _, _, _, hl, _⟩ => SqL.of hl) ?_ ?_
      · rintro i x σ H5 hx ⟨f, c, v3, v6, v7, v8, v9, v10, rfl, x5, hl5, i5, hF5, hn5, hP5, hI5, hcf, hct, hnu⟩
        obtain ⟨e, he, rfl⟩ := at_of hx
        obtain ⟨oa, s⟩ := e
        have hem := List.mem_of_getElem? he
        have hsS := hbS2 _ hem
        dsimp only at hsS
        have ho5 : HT H5 oa s := i5 _ _ (hst2.2 _ hem)
        have hs5 := hsS.mono hm5
        have hsl5 := slt_keep hsl fun b o _ e n => x5.1 b o e n
        refine ⟨_, rfl, b, _, dxb, _, _, 1, _, rfl, hsl5, G.sclsB, G.slR, rfl, r, _, rfl, SqT.of (x5.tup h1), ?_⟩
        refine for_it (walk_enumT (xs := as.map V.ref)) (fun q σ H' => ∃ (f' : List (List Int × Fe)) (c' : Bool) (v6 v7 v8 v9 v10 : Option V), σ = [some (.ref b), some (.ref pr), some (.ref gl), some (.ref oa), some (.ref D), some (.bl c'), v6, v7, v8, v9, v10] ∧ Ex (Tt K) H H' ∧ H' l2 = some (.lst (bs2.map fun b => V.ref b.1)) ∧ Im H4 H' ∧ FD H' D f' ∧ (f'.map (·.1)).Nodup ∧ Pg M (rs.zip ws) goal (gF f') ∧ Ix (rs.zip ws) goal (gF f') (iF f') ∧
            (c' = false → c = false ∧ f' = f ∧ ∀ (j : Nat) (r : PR), j < q → (rs.zip ws)[j]? = some r → (∀ m ∈ r.1.1, m ∈ s) → ∀ v, gF f' (jn s r.1.2) = some v → ∃ u, gF f' s = some u ∧ u ≤ v + r.2) ∧ (c' = true → nu M (gF f') < nu M (gF fs)) ∧ nu M (gF f') ≤ nu M (gF fs))
          ⟨f, c, v6, v7, v8, v9, v10, rfl, x5, hl5, i5, hF5, hn5, hP5, hI5, fun z => ⟨z, rfl, fun j r z => absurd z (Nat.not_lt_zero j)⟩, hct, hnu⟩ (fun q σ H' hi ⟨_, _, _, _, _, _, _, _, x, _⟩ => SqT.of (x.tup h1)) ?_ ?_
        · rintro q x σ H6 H6' hq ⟨f', c', v6, v7, v8, v9, v10, rfl, x6, hl6, i6, hF6, hn6, hP6, hI6, hcf6, hct6, hnu6⟩ ⟨z, u1, u2, rfl, hz, rfl, gg1, gg2⟩
          obtain rfl : V.int (q : Int) = u1 := Option.some.inj gg1
          obtain ⟨ai, hai, rfl⟩ := at_of gg2
          obtain ⟨ru, hri, hra⟩ := pair_at h3 hai
          obtain ⟨w, hwi, hRi⟩ := hP.at_ hri
          have hrR := List.mem_of_getElem? hRi
          have hru := hP.hr ru (List.mem_of_getElem? hri)
          have xz : Ex (Tt K) H6 (upd H6 z (.tup [V.int q, V.ref ai])) := Ex.new hz
          have x7 := x6.trans xz
          refine gEnum upd_same (hra.im x7.im) fun p1 cc hp1 hcc => ?_
          have hl7 := xz.lst hl6
          have i7 := i6.trans xz.im
          have hF7 := hF6.ex xz
          generalize upd H6 z (.tup [V.int q, V.ref ai]) = H7 at *
          have ho7 : HT H7 oa s := i7 _ _ (hst2.2 _ hem)
          refine ⟨_, rfl, _, rfl, oa, cc, s, ru.2, rfl, ho7, hcc, hs5, hru.2.mono hm5, fun H8 pj x8 hj => ?_⟩
          have hlen6 := lenle (H' := H8) hn6 hP6.dom
          have stay : ∀ (H9 : Hp) (v10' : Option V), Ex (Tt K) H8 H9 → ((∀ m ∈ ru.1, m ∈ s) → ∀ v, gF f' (jn s ru.2) = some v → ∃ u, gF f' s = some u ∧ u ≤ v + w) → ∃ (f'' : List (List Int × Fe)) (c'' : Bool) (v6' v7' v8' v9' v10'' : Option V), ([some (.ref b), some (.ref pr), some (.ref gl), some (.ref oa), some (.ref D), some (.bl c'), some (.int (q : Int)), some (.ref p1), some (.ref cc), some (.ref pj), v10'] : L2.St) = [some (.ref b), some (.ref pr), some (.ref gl), some (.ref oa), some (.ref D), some (.bl c''), v6', v7', v8', v9', v10''] ∧ Ex (Tt K) H H9 ∧ H9 l2 = some (.lst (bs2.map fun b => V.ref b.1)) ∧ Im H4 H9 ∧ FD H9 D f'' ∧ (f''.map (·.1)).Nodup ∧ Pg M (rs.zip ws) goal (gF f'') ∧ Ix (rs.zip ws) goal (gF f'') (iF f'') ∧
              (c'' = false → c = false ∧ f'' = f ∧ ∀ (j : Nat) (r : PR), j < q + 1 → (rs.zip ws)[j]? = some r → (∀ m ∈ r.1.1, m ∈ s) → ∀ v, gF f'' (jn s r.1.2) = some v → ∃ u, gF f'' s = some u ∧ u ≤ v + r.2) ∧ (c'' = true → nu M (gF f'') < nu M (gF fs)) ∧ nu M (gF f'') ≤ nu M (gF fs) := fun H9 v10' x9 hok =>
            ⟨f', c', _, _, _, _, _, rfl, (x7.trans x8).trans x9, (x8.trans x9).lst hl7, i7.trans (x8.trans x9).im, hF7.ex (x8.trans x9), hn6, hP6, hI6, fun zc => ⟨(hcf6 zc).1, (hcf6 zc).2.1, fun j r' hj2 hr2 => by
              rcases Nat.lt_or_ge j q with z2 | z2
              · exact (hcf6 zc).2.2 j r' z2 hr2
              · have ej : j = q := by omega
                rw [ej, hRi] at hr2
                obtain rfl := Option.some.inj hr2
                exact hok⟩, hct6, hnu6⟩
          refine ⟨_, rfl, _, rfl, p1, oa, ru.1, (fun m => decide (m ∈ s)), rfl, hp1.ex x8, by have := (hru.1.mono hm5).len; omega, Mem.tup (ho7.ex x8), fun H9 x9 => ⟨_, rfl, ?_⟩⟩
          have hsub : (ru.1.all fun m => decide (m ∈ s)) = sub ru.1 s := rfl
          rw [hsub]
          cases e1 : sub ru.1 s with
          | false =>
            refine iteF (iteF (stay _ _ x9 fun hp => ?_))
            rw [sub_iff.mpr hp] at e1
            cases e1
          | true =>
            refine iteT ?_
            have hp := sub_iff.mp e1
            have x89 := x8.trans x9
            have hF9 := hF7.ex x89
            have hj9 := hj.ex x9
            have ho9 := ho7.ex x89
            refine ⟨_, rfl, _, rfl, D, _, rfl, dget_fd hF9 hj9, _, rfl, ?_⟩
            cases e2 : lk f' (jn s ru.2) with
            | none =>
              refine iteF (iteF (stay _ _ x9 fun _ v hv => ?_))
              rw [gF_none.mpr e2] at hv
              cases hv
            | some y =>
              refine iteT ?_
              have hjS := hsS.jn hm5 hru.2
              refine ⟨_, rfl, _, rfl, _, _, .tup (SqT.of hj9) (dpInts K H9 _), .tup (SqT.of ho9) (dpInts K H9 _), shaped_ints _, shaped_ints _, _, rfl, ?_⟩
              rw [eqv_ints]
              have hgy := gF_some e2
              by_cases hne : jn s ru.2 = s
              · rw [decide_eq_true hne]
                refine iteF (stay _ _ x9 fun _ v hv => ⟨v, by rw [hne] at hv; exact hv, by have := (hR _ hrR).2.2.1; dsimp only at this; omega⟩)
              · rw [decide_eq_false hne]
                refine iteT ?_
                have htup := hF9.2 _ _ e2
                have hdl : DGet H9 D (.ref pj) (some (.ref y.1)) := by
                  have := dget_fd hF9 hj9
                  rw [e2] at this
                  exact this
                refine ⟨_, rfl, _, rfl, D, _, rfl, hdl, y.1, _, 0, .int y.2.1, rfl, rfl, SqT.of htup, rfl, _, rfl, _, rfl, pr, _, (q : Int), .int w, rfl, rfl, SqT.of (hP.hp.ex (x7.trans x89)), atI_nat (by rw [List.getElem?_map, hwi]; rfl), _, _, rfl, rfl, ?_⟩
                refine ⟨_, rfl, _, rfl, D, _, rfl, dget_fd hF9 ho9, _, rfl, ?_⟩
                cases e3 : lk f' s with
                | none =>
                  refine iteT (iteT ?_)
                  obtain ⟨st1, st2, _⟩ := hP6.step h0 hm5 hR hsS hrR hp hgy (.inl (gF_none.mpr e3))
                  have st3 := hI6.step hRi hp hgy hne (.inl (gF_none.mpr e3))
                  dsimp only at st1 st2 st3
                  refine ⟨_, rfl, _, rfl, by show 2 ≤ sizeLine; decide, fun ta hta => ?_⟩
                  have xa : Ex (Tt K) H9 (upd H9 ta (.tup [.int (y.2.1 + w), .int (q : Int)])) := Ex.new hta
                  have hFa := hF9.ex xa
                  refine ⟨_, rfl, _, rfl, D, _, rfl, dput_fd (x := (ta, y.2.1 + w, some q)) hFa (ho9.ex xa) (by omega), ?_⟩
                  have hFb := hFa.put (s := s) (x := (ta, y.2.1 + w, some q)) upd_same
                  have im := Im.mut (o := .dT (ft (pt f' s (ta, y.2.1 + w, some q)))) hFa.1 trivial
                  have lD : l2 ≠ D := ne_of hl7 hF7.1 (fun z => by cases z)
                  refine ⟨pt f' s (ta, y.2.1 + w, some q), true, _, _, _, _, _, rfl, Ex.mut (((x7.trans x89)).trans xa) nD hFa.1 trivial, ?_, ((i7.trans x89.im).trans xa.im).trans im, hFb, pt_nodup hn6, ?_, ?_, fun z => (nomatch z), fun _ => ?_, ?_⟩
                  · rw [upd_ne lD]
                    exact xa.lst (x89.lst hl7)
                  · rw [gF_put]
                    exact st1
                  · rw [gF_put, iF_put]
                    exact st3
                  · rw [gF_put]
                    show nu M (fu (gF f') s (y.2.1 + w)) < _
                    omega
                  · rw [gF_put]
                    show nu M (fu (gF f') s (y.2.1 + w)) ≤ _
                    omega
                | some y2 =>
                  refine iteF ?_
                  have htup2 := hF9.2 _ _ e3
                  have hdl2 : DGet H9 D (.ref oa) (some (.ref y2.1)) := by
                    have := dget_fd hF9 ho9
                    rw [e3] at this
                    exact this
                  refine ⟨_, rfl, _, rfl, _, rfl, D, _, rfl, hdl2, y2.1, _, 0, .int y2.2.1, rfl, rfl, SqT.of htup2, rfl, _, _, rfl, rfl, _, rfl, ?_⟩
                  by_cases hlt : y.2.1 + w < y2.2.1
                  · rw [decide_eq_true hlt]
                    refine iteT ?_
                    obtain ⟨st1, st2, _⟩ := hP6.step h0 hm5 hR hsS hrR hp hgy (.inr ⟨_, gF_some e3, hlt⟩)
                    have st3 := hI6.step hRi hp hgy hne (.inr ⟨_, gF_some e3, hlt⟩)
                    dsimp only at st1 st2 st3
                    refine ⟨_, rfl, _, rfl, by show 2 ≤ sizeLine; decide, fun ta hta => ?_⟩
                    have xa : Ex (Tt K) H9 (upd H9 ta (.tup [.int (y.2.1 + w), .int (q : Int)])) := Ex.new hta
                    have hFa := hF9.ex xa
                    refine ⟨_, rfl, _, rfl, D, _, rfl, dput_fd (x := (ta, y.2.1 + w, some q)) hFa (ho9.ex xa) (by omega), ?_⟩
                    have hFb := hFa.put (s := s) (x := (ta, y.2.1 + w, some q)) upd_same
                    have im := Im.mut (o := .dT (ft (pt f' s (ta, y.2.1 + w, some q)))) hFa.1 trivial
                    have lD : l2 ≠ D := ne_of hl7 hF7.1 (fun z => by cases z)
                    refine ⟨pt f' s (ta, y.2.1 + w, some q), true, _, _, _, _, _, rfl, Ex.mut (((x7.trans x89)).trans xa) nD hFa.1 trivial, ?_, ((i7.trans x89.im).trans xa.im).trans im, hFb, pt_nodup hn6, ?_, ?_, fun z => (nomatch z), fun _ => ?_, ?_⟩
                    · rw [upd_ne lD]
                      exact xa.lst (x89.lst hl7)
                    · rw [gF_put]
                      exact st1
                    · rw [gF_put, iF_put]
                      exact st3
                    · rw [gF_put]
                      show nu M (fu (gF f') s (y.2.1 + w)) < _
                      omega
                    · rw [gF_put]
                      show nu M (fu (gF f') s (y.2.1 + w)) ≤ _
                      omega
                  · rw [decide_eq_false hlt]
                    refine iteF (stay _ _ x9 fun _ v hv => ⟨_, gF_some e3, ?_⟩)
                    rw [hgy] at hv
                    have := Option.some.inj hv
                    omega
        · rintro σ H6 ⟨f', c', v6, v7, v8, v9, v10, rfl, x6, hl6, i6, hF6, hn6, hP6, hI6, hcf6, hct6, hnu6⟩
          refine ⟨f', c', _, _, _, _, _, _, rfl, x6, hl6, i6, hF6, hn6, hP6, hI6, fun zc => ?_, hct6, hnu6⟩
          obtain ⟨q1, q2, q3⟩ := hcf6 zc
          obtain ⟨q4, q5⟩ := hcf q1
          refine ⟨q2.trans q4, fun j e hj hje r hr => ?_⟩
          rcases Nat.lt_or_ge j i with z2 | z2
          · rw [q2]
            exact q5 j e z2 hje r hr
          · have ej : j = i := by omega
            rw [ej, he] at hje
            obtain rfl := Option.some.inj hje
            obtain ⟨j2, hj2, hjr2⟩ := List.getElem_of_mem hr
            exact q3 j2 r (by rw [List.length_map, h2, ← hRl]; exact hj2) (by rw [List.getElem?_eq_getElem hj2, hjr2])
      · rintro σ H5 ⟨f, c, v3, v6, v7, v8, v9, v10, rfl, x5, hl5, i5, hF5, hn5, hP5, hI5, hcf, hct, hnu⟩
        refine ⟨2 * nu M (gF f) + (if c = true then 1 else 0), ?_, f, c, _, _, _, _, _, _, rfl, x5, hF5, hn5, hP5, hI5, fun z s hs r hr => ?_, rfl⟩
        · show 2 * nu M (gF f) + (if c = true then 1 else 0) < 2 * nu M (gF fs) + 1
          cases c with
          | true =>
            have := hct rfl
            show 2 * nu M (gF f) + 1 < _
            omega
          | false =>
            show 2 * nu M (gF f) + 0 < _
            omega
        · obtain ⟨e, he, rfl⟩ := List.mem_map.mp (hper2.mem_iff.mpr hs)
          obtain ⟨j, hj, hje⟩ := List.getElem_of_mem he
          exact (hcf z).2 j e (by rw [List.length_map]; exact hj) (by rw [List.getElem?_eq_getElem hj, hje]) r hr


end
end Pb
set_option Elab.async false
set_option linter.all false
set_option maxRecDepth 100000
set_option maxHeartbeats 4000000

namespace Pb
open PySem PySem.Spec PyProof.Rows L2
section
variable {P : Program} {w : World} {K : PySem.W.Frag} {mg : Str → Option Value} {base : Heap}

def spLeastBill (T : Tb) (K : PySem.W.Frag) : Sp := fun vs H Q _ => ∃ (b a pr gl : Addr) (M : Int) (rs : List Ru) (th ws goal : List Int), vs = [.ref b, .ref a, .ref pr, .ref gl] ∧ Pr K H b a pr M rs th ws ∧ HT H gl goal ∧ IsS M goal ∧ LamX.Tabs T H ∧
  ∀ (H' : Hp) (g : List Int → Option Int), Ex T H H' → Gol M (rs.zip ws) goal g → Q (optV (g th)) H'
def spBill (T : Tb) (K : PySem.W.Frag) : Sp := fun vs H Q _ => ∃ (b a pr gl : Addr) (M : Int) (rs : List Ru) (th ws goal : List Int), vs = [.ref b, .ref a, .ref pr, .ref gl] ∧ Pr K H b a pr M rs th ws ∧ HT H gl goal ∧ IsS M goal ∧ LamX.Tabs T H ∧
  (∀ (H' : Hp) (g : List Int → Option Int), Ex T H H' → Gol M (rs.zip ws) goal g → g th = none → Q .non H') ∧
  ∀ (H' : Hp) (g : List Int → Option Int) (c : Addr) (is : List Int) (fl : List (List Int × Int)) (t : Int) (h : List Int), Ex T H H' → Gol M (rs.zip ws) goal g → g th = some t → BiS K H' c is fl → wlk (rs.zip ws) is (th, 0) = some (h, t) → (∀ m ∈ goal, m ∈ h) → is.length ≤ 5 →
    (∀ s, IsS M s → lk fl s = some ((g s).getD t)) → (∀ s ∈ fl.map (·.1), IsS M s) → (fl.map (·.1)).Nodup → Q (.ref c) H'

abbrev N_least_bill : List Str := ["book", "thing", "prices", "goal", "found"]
theorem sc_least_bill : FnScope N_least_bill ["book", "thing", "prices", "goal"] (defScope sLeastBill) := ⟨rfl, rfl, rfl, by decide +kernel, rfl, by decide +kernel, by decide +kernel⟩
theorem c_least_bill (B : Gb K mg base) : C8.Cal P w K mg base 5 "least_bill" (spLeastBill (Tt K) K) [] := by
  have G := B.g
  refine calOf G 18 rfl rfl sc_least_bill (fun _ _ _ _ _ _ us hl => match us, hl with | [_, _, _, _], _ => rfl) (fun vs H Q E h => ?_) (fun f cdv A outer s H vs Q E hr h => ?_)
  · obtain ⟨b, a, pr, gl, M, rs, th, ws, goal, rfl, hP, hg, hgs, htab, k⟩ := h
    rfl
  · obtain ⟨b, a, pr, gl, M, rs, th, ws, goal, rfl, hP, hg, hgs, htab, k⟩ := h
    have hu := hu_of hr
    refine ⟨_, (pss_cons (ps_expr (C8.pe_c (c_check_bill (T := Tt K) G) hr (by decide) (by rfl) (pa_cons (pv 0) (pa_cons (pv 1) (pa_cons (pv 2) pa_nil)))))
      (pss_cons (ps_expr (C8.pe_c (c_check_set (T := Tt K) G) hr (by decide) (by rfl) (pa_cons (pe_slK (K := K) rfl (pv 0)) (pa_cons (pv 3) pa_nil))))
      (pss_cons (ps_set (i := 4) sc_least_bill.nd rfl (Or.inl rfl) (C8.pe_c (c_bills_for B) hr (by decide) (by rfl) (pa_cons (pv 0) (pa_cons (pv 2) (pa_cons (pv 3) pa_nil)))))
      (pss_one (ps_ret (pe_ifExp (pt_cmp (pc_din hu (pv 1) (pv 4))) (pe_ix (ix_tupK (K := K) rfl) (pe_dget hu (pv 4) (pv 1) (fun _ _ => rfl)) pe_int (fun _ _ => rfl)) pe_non)))))), ?_⟩
    have hm1 := hP.m1
    have hm5 := hP.m5
    have h0 : 0 ≤ M := by omega
    refine ⟨_, rfl, _, rfl, _, rfl, b, a, pr, M, rs, th, ws, rfl, hP, fun H1 x1 => ?_⟩
    have hP1 := hP.ex x1
    obtain ⟨dxb, r, hsl, _⟩ := hP1.bk
    refine ⟨_, rfl, b, _, dxb, _, _, 0, _, rfl, hsl, G.sclsB, G.slM, rfl, _, rfl, M, gl, goal, rfl, hg.ex x1, hgs, hm5, fun H2 x2 => ?_⟩
    have x12 := x1.trans x2
    refine ⟨_, rfl, _, rfl, _, rfl, b, a, pr, gl, M, rs, th, ws, goal, rfl, hP.ex x12, hg.ex x12, hgs, x12.2 htab, fun H3 d fs x3 hFD hnd hG hIx => ?_⟩
    have x13 := x12.trans x3
    have hP3 := hP.ex x13
    refine ⟨_, rfl, _, rfl, d, _, rfl, dget_fd hFD hP3.ht, ?_⟩
    have kk := k _ _ x13 hG
    cases e : lk fs th with
    | none =>
      rw [gF_none.mpr e] at kk
      exact ⟨_, rfl, iteF kk⟩
    | some y =>
      rw [gF_some e] at kk
      have htup := hFD.2 _ _ e
      have hdl : DGet H3 d (.ref a) (some (.ref y.1)) := by
        have := dget_fd hFD hP3.ht
        rw [e] at this
        exact this
      exact ⟨_, rfl, iteT ⟨_, rfl, _, rfl, d, _, rfl, hdl, y.1, _, 0, .int y.2.1, rfl, rfl, SqT.of htup, rfl, kk⟩⟩


abbrev N_bill : List Str := ["book", "thing", "prices", "goal", "found", "indices", "here", "total", "one"]
theorem sc_bill : FnScope N_bill ["book", "thing", "prices", "goal"] (defScope sBill) := ⟨rfl, rfl, rfl, by decide +kernel, rfl, by decide +kernel, by decide +kernel⟩
theorem c_bill (B : Gb K mg base) : C8.Cal P w K mg base 5 "bill" (spBill (Tt K) K) [] := by
  have G := B.g
  refine calOf G 17 rfl rfl sc_bill (fun _ _ _ _ _ _ us hl => match us, hl with | [_, _, _, _], _ => rfl) (fun vs H Q E h => ?_) (fun f cdv A outer s H vs Q E hr h => ?_)
  · obtain ⟨b, a, pr, gl, M, rs, th, ws, goal, rfl, hP, hg, hgs, htab, k0, k⟩ := h
    rfl
  · obtain ⟨b, a, pr, gl, M, rs, th, ws, goal, rfl, hP, hg, hgs, htab, k0, k⟩ := h
    have hu := hu_of hr
    refine ⟨_, (pss_cons (ps_expr (C8.pe_c (c_check_bill (T := Tt K) G) hr (by decide) (by rfl) (pa_cons (pv 0) (pa_cons (pv 1) (pa_cons (pv 2) pa_nil)))))
      (pss_cons (ps_expr (C8.pe_c (c_check_set (T := Tt K) G) hr (by decide) (by rfl) (pa_cons (pe_slK (K := K) rfl (pv 0)) (pa_cons (pv 3) pa_nil))))
      (pss_cons (ps_asg (pe_tup (pa_cons (C8.pe_c (c_bills_for B) hr (by decide) (by rfl) (pa_cons (pv 0) (pa_cons (pv 2) (pa_cons (pv 3) pa_nil)))) (pa_cons (pe_lst pa_nil) (pa_cons (pv 1) pa_nil)))) (pg_tup rfl (pgs_cons (pg_name (i := 4) sc_bill.nd rfl (Or.inr rfl)) (pgs_cons (pg_name (i := 5) sc_bill.nd rfl (Or.inl rfl)) (pgs_cons (pg_name (i := 6) sc_bill.nd rfl (Or.inl rfl)) pgs_nil)))))
      (pss_cons (ps_if (pt_cmp (pc_dnotin hu (pv 6) (pv 4)))
        (pss_one (ps_ret pe_non)) pss_nil)
      (pss_cons (ps_while PassesOwn.never (pt_cmp (pc_notN (pe_ix (ix_tupK (K := K) rfl) (pe_dget hu (pv 4) (pv 6) (fun _ _ => rfl)) pe_int (fun _ _ => rfl))))
        (pss_cons (ps_expr (pe_bm PySem.F.plainAttrs_list PySem.F.slot_list_append PySem.F.type_list_append mt_append (pv 5) (pa_cons (pe_ix (ix_tupK (K := K) rfl) (pe_dget hu (pv 4) (pv 6) (fun _ _ => rfl)) pe_int (fun _ _ => rfl)) pa_nil)))
          (pss_one (ps_set (i := 6) sc_bill.nd rfl (Or.inl rfl) (C8.pe_c (c_joined (T := Tt K) G) hr (by decide) (by rfl) (pa_cons (pv 6) (pa_cons (pe_ix (ix_tupK (K := K) rfl) (pe_ix (ix_tupK (K := K) rfl) (pe_slK (K := K) rfl (pv 0)) (pe_ix (ix_listK (K := K) rfl) (pv 5) (pe_un un_neg pe_int) (fun _ _ => rfl)) (fun _ _ => rfl)) pe_int (fun _ _ => rfl)) pa_nil)))))))
      (pss_cons (ps_set (i := 7) sc_bill.nd rfl (Or.inr rfl) (pe_ix (ix_tupK (K := K) rfl) (pe_dget hu (pv 4) (pv 1) (fun _ _ => rfl)) pe_int (fun _ _ => rfl)))
      (pss_one (ps_ret (C8.pe_mk (c_Bill (T := Tt K) G) hr (by decide) (by rfl) (pa_cons (pv 5) (pa_cons (pe_dcT (own := [("one", 8)]) (g := gName 8) rfl hu sc_bill.nd (pi_list (C8.pe_c (c_sets_of B) hr (by decide) (by rfl) (pa_cons (pe_slK (K := K) rfl (pv 0)) pa_nil))) (blkOk_by (own := [("one", 8)]) (N := N_bill) (sc := defScope sBill) (by decide +kernel)) (fun _ _ _ _ _ => (pg_name (i := 8) sc_bill.nd rfl (Or.inl rfl))) (fun _ _ _ _ _ => pts_nil) (fun _ _ _ _ _ => (pv 8)) (fun _ _ _ _ _ => (pe_ifExp (pt_cmp (pc_din hu (pv 8) (pv 4))) (pe_ix (ix_tupK (K := K) rfl) (pe_dget hu (pv 4) (pv 8) (fun _ _ => rfl)) pe_int (fun _ _ => rfl)) (pv 7)))) pa_nil))))))))))), ?_⟩
    have hm1 := hP.m1
    have hm5 := hP.m5
    have h0 : 0 ≤ M := by omega
    refine ⟨_, rfl, _, rfl, _, rfl, b, a, pr, M, rs, th, ws, rfl, hP, fun H1 x1 => ?_⟩
    have hP1 := hP.ex x1
    obtain ⟨dxb, r, hsl, _⟩ := hP1.bk
    refine ⟨_, rfl, b, _, dxb, _, _, 0, _, rfl, hsl, G.sclsB, G.slM, rfl, _, rfl, M, gl, goal, rfl, hg.ex x1, hgs, hm5, fun H2 x2 => ?_⟩
    have x12 := x1.trans x2
    refine ⟨_, rfl, _, rfl, _, rfl, b, a, pr, gl, M, rs, th, ws, goal, rfl, hP.ex x12, hg.ex x12, hgs, x12.2 htab, fun H3 d fs x3 hFD hnd hG hIx => ?_⟩
    have x13 := x12.trans x3
    have hP3 := hP.ex x13
    have hR := hP.ok
    have hRl := hP.len
    have hth5 := hP.hth.mono hm5
    refine ⟨by show 0 ≤ sizeLine; exact Nat.zero_le _, fun l hl => ?_⟩
    refine ⟨_, rfl, by show 3 ≤ sizeLine; decide, fun q0 hq0 => ?_⟩
    refine ⟨q0, _, rfl, SqT.of upd_same, rfl, _, _, rfl, _, _, rfl, _, _, rfl, rfl, ?_⟩
    have xl : Ex (Tt K) H3 (upd H3 l (.lst [])) := Ex.new hl
    have xq := xl.push hq0 (o := .tup [.ref d, .ref l, .ref a])
    have x14 := x13.trans xq
    have hl4 : upd (upd H3 l (.lst [])) q0 (.tup [.ref d, .ref l, .ref a]) l = some (.lst []) := (Ex.new (T := Tt K) hq0).lst upd_same
    have hFD4 := hFD.ex xq
    have nL : NT H l := NT.new x13 hl
    generalize upd (upd H3 l (.lst [])) q0 (.tup [.ref d, .ref l, .ref a]) = H4 at *
    have hP4 := hP.ex x14
    refine ⟨_, rfl, _, rfl, d, _, rfl, dget_fd hFD4 hP4.ht, _, rfl, ?_⟩
    cases e : lk fs th with
    | none => exact iteT (k0 _ _ x14 hG (gF_none.mpr e))
    | some y0 =>
      refine iteF ?_
      have hgth := gF_some e
      refine ⟨fun m σ H' => ∃ (h : Addr) (hs : List Int) (is : List Int) (tot u : Int), σ = [some (.ref b), some (.ref a), some (.ref pr), some (.ref gl), some (.ref d), some (.ref l), some (.ref h), none, none] ∧ Ex (Tt K) H H' ∧ Im H4 H' ∧ FD H' d fs ∧ H' l = some (.lst (is.map V.int)) ∧ HT H' h hs ∧ IsS M hs ∧
        wlk (rs.zip ws) is (th, 0) = some (hs, tot) ∧ gF fs hs = some u ∧ tot + u = y0.2.1 ∧ is.length + th.length ≤ hs.length ∧ m = 5 - hs.length, ⟨_, a, th, [], 0, y0.2.1, rfl, x14, Im.refl _, hFD4, hl4, hP4.ht, hP.hth, rfl, hgth, by omega, by simp, rfl⟩, ?_⟩
      rintro m σ H5 ⟨h, hs, is, tot, u, rfl, x5, i5, hF5, hl5, hh5, hhs, hw, hgu, htu, hlen, rfl⟩
      have hhs5 := (hhs.mono hm5).len
      cases e2 : lk fs hs with
      | none =>
        rw [gF_none.mpr e2] at hgu
        cases hgu
      | some y =>
        have htup := hF5.2 _ _ e2
        have hdl : DGet H5 d (.ref h) (some (.ref y.1)) := by
          have := dget_fd hF5 hh5
          rw [e2] at this
          exact this
        have hgy : gF fs hs = some y.2.1 := gF_some e2
        have hiy : iF fs hs = y.2.2 := iF_some e2
        refine ⟨_, rfl, _, rfl, d, _, rfl, hdl, y.1, _, 1, oi y.2.2, rfl, rfl, SqT.of htup, rfl, _, rfl, ?_⟩
        cases e3 : y.2.2 with
        | none =>
          refine iteF ?_
          rw [e3] at hiy
          have hgoal := hIx.none_ hs _ hgy hiy
          have hz := hG.zero hs hhs hgoal
          have hu0 : u = 0 := by
            rw [hgu] at hz
            exact Option.some.inj hz
          have hP5 := hP.ex x5
          have hdl2 : DGet H5 d (.ref a) (some (.ref y0.1)) := by
            have := dget_fd hF5 hP5.ht
            rw [e] at this
            exact this
          have htup0 := hF5.2 _ _ e
          refine ⟨_, rfl, _, rfl, d, _, rfl, hdl2, y0.1, _, 0, .int y0.2.1, rfl, rfl, SqT.of htup0, rfl, ?_⟩
          obtain ⟨dxb, r, hsl, _⟩ := hP5.bk
          refine ⟨_, rfl, _, rfl, b, _, dxb, _, _, 0, _, rfl, hsl, G.sclsB, G.slM, rfl, M, rfl, h0, hm5, x5.2 htab, fun H6 l2 bs x6 hst hper => ?_⟩
          have hbn : (bs.map (·.2)).Nodup := hper.nodup_iff.mpr (subs_nodup h0 hm5)
          have hbl : bs.length ≤ 32 := by
            have := hper.length_eq
            rw [List.length_map] at this
            have := subs_len h0 hm5
            omega
          refine ⟨l2, rfl, ⟨_, SqL.of hst.1⟩, fun D hD => ?_⟩
          refine dcT_val (T := Tt K) (ds := bs) (walk_list (xs := bs.map fun b => V.ref b.1)) (by rw [List.length_map]) (by rw [List.length_map]; omega) hD hst.2 hbn (fun Hx x => SqL.of (x.lst hst.1)) (fun _ _ _ _ _ _ y => yat_ex y) (fun _ => true)
            (fun s z _ => z = V.int ((gF fs s).getD y0.2.1)) (fun s z Ha Hb im h => h) ?_ ?_
          · intro i dd v Hx Hy hd _ x y S hS
            obtain ⟨e, q⟩ := y
            subst e
            obtain rfl := at_map q hd
            have hdm := List.mem_of_getElem? hd
            refine hS _ rfl (evr_yes (roEx _)) (fun _ Hz xz Q3 k3 => ⟨_, rfl, k3 _ _ (Ex.refl _ Hz) rfl⟩) fun _ Hz xz Q3 k3 => ?_
            have xx := (x6.trans x).trans xz
            have hFz := hF5.ex xx
            have hdz := (hst.2 dd hdm).ex (x.trans xz)
            refine ⟨_, rfl, _, rfl, d, _, rfl, dget_fd hFz hdz, ?_⟩
            cases e9 : lk fs dd.2 with
            | none =>
              refine ⟨_, rfl, iteF ⟨_, rfl, k3 _ _ (Ex.refl _ Hz) ?_⟩⟩
              rw [gF_none.mpr e9]
              rfl
            | some y9 =>
              have hdl9 : DGet Hz d (.ref dd.1) (some (.ref y9.1)) := by
                have := dget_fd hFz hdz
                rw [e9] at this
                exact this
              refine ⟨_, rfl, iteT ⟨_, rfl, _, rfl, d, _, rfl, hdl9, y9.1, _, 0, .int y9.2.1, rfl, rfl, SqT.of (hFz.2 _ _ e9), rfl, k3 _ _ (Ex.refl _ Hz) ?_⟩⟩
              rw [gF_some e9]
              rfl
          · intro H7 es x7 hDT hpair
            rw [filter_true] at hpair
            rw [floors0 (H := H7) (v := fun s => (gF fs s).getD y0.2.1) hpair] at hDT
            intro xa dxa hxa hdxa hne
            have x57 := x6.trans x7
            have y1 : Ex (Tt K) H7 (upd H7 dxa (.own xa)) := Ex.new hdxa
            have hx2 : upd H7 dxa (.own xa) xa = none := by rw [upd_ne (Ne.symm hne)]; exact hxa
            have y2 : Ex (Tt K) H7 (upd (upd H7 dxa (.own xa)) xa (.ins (He.ga K "Bill") dxa [])) := y1.push hx2
            have hkeys : ((bs.map (·.2)).map fun s => (s, (gF fs s).getD y0.2.1)).map (·.1) = bs.map (·.2) := by
              rw [List.map_map]
              show (bs.map (·.2)).map id = _
              rw [List.map_id]
            have hkS : ∀ s ∈ ((bs.map (·.2)).map fun s => (s, (gF fs s).getD y0.2.1)).map (·.1), IsS M s := fun s hs => by
              rw [hkeys] at hs
              exact (subs_iff h0).mp (hper.mem_iff.mp hs)
            have hkN : (((bs.map (·.2)).map fun s => (s, (gF fs s).getD y0.2.1)).map (·.1)).Nodup := by
              rw [hkeys]
              exact hbn
            refine ⟨xa, dxa, l, D, is, _, rfl, upd_same, y2.lst (x57.lst hl5), y2.dT hDT, kys_of h0 hm5 hkS hkN, fun H8 eb hbi => ⟨rfl, ?_⟩⟩
            refine k H8 (gF fs) xa is _ y0.2.1 hs ((x5.trans x57).trans (Ex.eb y2 eb fun b hb => by rw [List.mem_singleton.mp hb]; exact hxa)) hG hgth hbi ?_ hgoal (by omega) (fun s hs => ?_) hkS hkN
            · rw [hw]
              have : tot = y0.2.1 := by omega
              rw [this]
            · rw [lk_fun, if_pos (hper.mem_iff.mpr ((subs_iff h0).mpr hs))]
        | some kx =>
          refine iteT ⟨_, fun _ _ h => h, ?_⟩
          rw [e3] at hiy htup
          obtain ⟨ru, v, b1, b2, b3, b4, b5⟩ := walk_step hm5 hR hG hIx hw hgy hiy
          obtain ⟨ru, w⟩ := ru
          dsimp only at b2 b3 b4 b5
          have hri : rs[kx]? = some ru := (List.getElem?_zip_eq_some.mp b1).1
          have hru := hP.hr ru (List.mem_of_getElem? hri)
          refine ⟨_, rfl, .inl ⟨rfl, _, SqL.of hl5⟩, _, rfl, _, rfl, d, _, rfl, hdl, y.1, _, 1, .int (kx : Int), rfl, rfl, SqT.of htup, rfl, l, _, _, rfl, rfl, hl5, ?_, ?_⟩
          · rw [List.length_map]
            exact Nat.lt_of_lt_of_le (by omega : _ < 100) (by decide)
          have eapp : is.map V.int ++ [V.int (kx : Int)] = (is ++ [(kx : Int)]).map V.int := by
            rw [List.map_append]
            rfl
          rw [eapp]
          have x6 : Ex (Tt K) H (upd H5 l (.lst ((is ++ [(kx : Int)]).map V.int))) := Ex.mut x5 nL hl5 trivial
          have im6 : Im H5 (upd H5 l (.lst ((is ++ [(kx : Int)]).map V.int))) := Im.mut hl5 trivial
          have hF6 : FD (upd H5 l (.lst ((is ++ [(kx : Int)]).map V.int))) d fs := ⟨by rw [upd_ne (ne_of hF5.1 hl5 (fun z => by cases z))]; exact hF5.1, fun s z e => im6 _ _ (hF5.2 s z e)⟩
          have hl6 : upd H5 l (.lst ((is ++ [(kx : Int)]).map V.int)) l = some (.lst ((is ++ [(kx : Int)]).map V.int)) := upd_same
          have hh6 := hh5.im im6
          have i6 := i5.trans im6
          generalize upd H5 l (.lst ((is ++ [(kx : Int)]).map V.int)) = H6 at *
          obtain ⟨dxb, r, hsl, hrus⟩ := (hP.ex x6).bk
          obtain ⟨as, h1, h2, h3⟩ := hrus.sq
          obtain ⟨ai, hai, hra⟩ := pair_at' h3 hri
          obtain ⟨pp, cc, hr1, hr2, hr3⟩ := hra
          refine ⟨_, rfl, _, rfl, b, _, dxb, _, _, 1, _, rfl, hsl, G.sclsB, G.slR, rfl, _, rfl, 1, rfl, l, _, -1, .int (kx : Int), rfl, rfl, SqL.of hl6, ?_, r, _, (kx : Int), .ref ai, rfl, rfl, SqT.of h1, atI_nat (by rw [List.getElem?_map, hai]; rfl), ai, _, 1, .ref cc, rfl, rfl, SqT.of hr1, rfl, h, cc, hs, ru.2, rfl, hh6, hr3, hhs.mono hm5, hru.2.mono hm5, fun H7 pj x7 hj => ?_⟩
          · rw [List.map_append]
            exact atI_last _ _
          · refine ⟨5 - (jn hs ru.2).length, ?_, pj, jn hs ru.2, is ++ [(kx : Int)], tot + w, v, rfl, x6.trans x7, i6.trans x7.im, hF6.ex x7, x7.lst hl6, hj, hhs.jn hm5 hru.2, b2, b3, ?_, ?_, rfl⟩
            · have := ((hhs.jn hm5 hru.2).mono hm5).len
              omega
            · rw [hgu] at hgy
              have := Option.some.inj hgy
              omega
            · rw [List.length_append, List.length_singleton]
              omega


end
end Pb
set_option Elab.async false
set_option linter.all false
set_option maxRecDepth 100000
set_option maxHeartbeats 4000000

namespace Pb
open PySem PySem.Spec PyProof.Rows L2
theorem nodup_map_inj {α β : Type} {f : α → β} (h : ∀ a b, f a = f b → a = b) : ∀ {l : List α}, l.Nodup → (l.map f).Nodup
  | [], _ => List.nodup_nil
  | a :: l, n => by
    obtain ⟨h1, h2⟩ := List.nodup_cons.mp n
    refine List.nodup_cons.mpr ⟨fun z => ?_, nodup_map_inj h h2⟩
    obtain ⟨b, hb, e⟩ := List.mem_map.mp z
    rw [h _ _ e] at hb
    exact h1 hb
theorem zeros0 {K : PySem.W.Frag} {H : Hp} (hb : ∀ b : Addr × List Int, HT H b.1 b.2 → True) : ∀ {ds : List (Addr × List Int)} {acc : List V}, (∀ d ∈ ds, HT H d.1 d.2) → Paired (fun d v => ∃ q, v = V.ref q ∧ H q = some (.tup [.ref d.1, .int 0])) ds acc →
    ∃ ps : List Addr, acc = ps.map V.ref ∧ Paired (fun p kv => ∃ b, SqT K H p [.ref b, kv.2] ∧ H b = some (.tup (kv.1.map kV))) ps (dt ((ds.map (·.2)).map fun s => (s, (0 : Int))))
  | _, _, _, .nil => ⟨[], rfl, .nil⟩
  | d :: _, _, hd, .cons h t => by
    obtain ⟨q, rfl, hq⟩ := h
    obtain ⟨ps, h1, h2⟩ := zeros0 (K := K) hb (fun e he => hd e (List.mem_cons_of_mem _ he)) t
    exact ⟨q :: ps, by rw [h1]; rfl, .cons ⟨d.1, SqT.of hq, by rw [mapK]; exact hd d List.mem_cons_self⟩ h2⟩
section
variable {P : Program} {w : World} {K : PySem.W.Frag} {mg : Str → Option Value} {base : Heap} {T : Tb}

def spLawBills (T : Tb) (K : PySem.W.Frag) : Sp := fun vs H Q _ => ∃ (b a pr gl : Addr) (M : Int) (rs : List Ru) (th ws goal : List Int), vs = [.ref b, .ref pr, .ref gl] ∧ Pr K H b a pr M rs th ws ∧ HT H gl goal ∧ IsS M goal ∧ LamX.Tabs T H ∧
  ∀ (H' : Hp) (d : Addr) (t : List (List Int × Int)), Ex T H H' → TD H' d t → (t.map (·.1)).Nodup → Gol M (rs.zip ws) goal (lk t) → Q (.ref d) H'
def spBillRight (T : Tb) (K : PySem.W.Frag) : Sp := fun vs H Q _ => ∃ (b a pr gl i e : Addr) (M : Int) (rs : List Ru) (th ws goal is : List Int) (fl : List (List Int × Int)), vs = [.ref b, .ref a, .ref pr, .ref gl, .ref i, .ref e] ∧ Pr K H b a pr M rs th ws ∧ HT H gl goal ∧ IsS M goal ∧
  H i = some (.lst (is.map V.int)) ∧ is.length ≤ 1000 ∧ TD H e fl ∧ fl.length ≤ 1000 ∧ (∀ s ∈ fl.map (·.1), IsS M s) ∧ (fl.map (·.1)).Nodup ∧ ∀ H', Ex T H H' → Q (.bl (billB (rs.zip ws) th goal is fl)) H'

abbrev N_law_bills : List Str := ["_law_book", "_law_prices", "_law_goal", "_law_one", "_law_table", "_law_has_changed", "_law_first", "_law_late", "_law_price", "_law_wide"]
theorem sc_law_bills : FnScope N_law_bills ["_law_book", "_law_prices", "_law_goal"] (defScope sLBills) := ⟨rfl, rfl, rfl, by decide +kernel, rfl, by decide +kernel, by decide +kernel⟩
theorem c_law_bills (B : Gb K mg base) : C8.Cal P w K mg base 3 "_law_bills" (spLawBills (Tt K) K) [] := by
  have G := B.g
  refine calOf G 33 rfl rfl sc_law_bills (fun _ _ _ _ _ _ us hl => match us, hl with | [_, _, _], _ => rfl) (fun vs H Q E h => ?_) (fun f cdv A outer s H vs Q E hr h => ?_)
  · obtain ⟨b, a, pr, gl, M, rs, th, ws, goal, rfl, hP, hg, hgs, htab, k⟩ := h
    rfl
  · obtain ⟨b, a, pr, gl, M, rs, th, ws, goal, rfl, hP, hg, hgs, htab, k⟩ := h
    have hu := hu_of hr
    refine ⟨_, (pss_cons (ps_par (i := 4) (j := 5) rfl sc_law_bills.nd rfl rfl (by decide) rfl rfl (pa_cons (pe_callTy (call_dictPT rfl (hu2_of hr)) (by rfl) G.b_dict (by decide +kernel) (pa_cons (pe_lc (own := [("_law_one", 3)]) (g := gName 3) rfl sc_law_bills.nd (pi_list (C8.pe_c (c_law_sets B) hr (by decide) (by rfl) (pa_cons (pe_slK (K := K) rfl (pv 0)) pa_nil))) (blkOk_by (own := [("_law_one", 3)]) (N := N_law_bills) (sc := defScope sLBills) (by decide +kernel)) (fun _ _ _ _ _ => (pg_name (i := 3) sc_law_bills.nd rfl (Or.inl rfl))) (fun _ _ _ _ _ => pts_one (pt_val (C8.pe_c (c_law_within (T := Tt K) G) hr (by decide) (by rfl) (pa_cons (pv 2) (pa_cons (pv 3) pa_nil))))) (fun _ _ _ _ _ => (pe_tup (pa_cons (pv 3) (pa_cons pe_int pa_nil))))) pa_nil)) (pa_cons pe_bl pa_nil)) (by rfl))
      (pss_cons (ps_while PassesOwn.never (pt_val (pv 5))
        (pss_cons (ps_set (i := 5) sc_law_bills.nd rfl (Or.inl rfl) pe_bl)
          (pss_one (ps_for PassesOwn.never rfl (pi_list (C8.pe_c (c_law_sets B) hr (by decide) (by rfl) (pa_cons (pe_slK (K := K) rfl (pv 0)) pa_nil))) (pg_name (i := 3) sc_law_bills.nd rfl (Or.inl rfl))
            (pss_one (ps_for PassesOwn.never rfl (RZ.pi_zipA (by rfl) G.b_zip (pa_cons (pe_slK (K := K) rfl (pv 0)) (pa_cons (pv 1) pa_nil))) (pg_tup rfl (pgs_cons (pg_tup rfl (pgs_cons (pg_name (i := 6) sc_law_bills.nd rfl (Or.inl rfl)) (pgs_cons (pg_name (i := 7) sc_law_bills.nd rfl (Or.inl rfl)) pgs_nil))) (pgs_cons (pg_name (i := 8) sc_law_bills.nd rfl (Or.inl rfl)) pgs_nil)))
                (pss_cons (ps_set (i := 9) sc_law_bills.nd rfl (Or.inl rfl) (C8.pe_c (c_law_joined (T := Tt K) G) hr (by decide) (by rfl) (pa_cons (pv 3) (pa_cons (pv 7) pa_nil))))
                  (pss_one (ps_if (PW.pt (pw_and (pt_val (C8.pe_c (c_law_within (T := Tt K) G) hr (by decide) (by rfl) (pa_cons (pv 6) (pa_cons (pv 3) pa_nil)))) (pw_and1 (pt_cmp (pc_din hu (pv 9) (pv 4))))))
                    (pss_one (ps_if (PW.pt (pw_or (pt_cmp (pc_dnotin hu (pv 3) (pv 4))) (pw_or1 (pt_cmpR op_lt (pe_op op_add (pe_dget hu (pv 4) (pv 9) (fun _ _ => rfl)) (pv 8)) (pe_dget hu (pv 4) (pv 3) (fun _ _ => rfl)) (nomark _)))))
                        (pss_cons (ps_dput hu (pv 4) (pv 3) (pe_op op_add (pe_dget hu (pv 4) (pv 9) (fun _ _ => rfl)) (pv 8)) rfl)
                          (pss_one (ps_set (i := 5) sc_law_bills.nd rfl (Or.inl rfl) pe_bl))) pss_nil)) pss_nil)))))))))
      (pss_one (ps_ret (pv 4))))), ?_⟩
    have hR := hP.ok
    have hRl := hP.len
    have hnr := hP.nr
    have hm1 := hP.m1
    have hm5 := hP.m5
    have h0 : 0 ≤ M := by omega
    have hg5 := hgs.mono hm5
    have lg := hg5.len
    obtain ⟨dxb, r, hsl, hrus⟩ := hP.bk
    obtain ⟨as, h1, h2, h3⟩ := hrus.sq
    refine ⟨_, rfl, b, _, dxb, _, _, 0, _, rfl, hsl, G.sclsB, G.slM, rfl, M, rfl, h0, hm5, htab, fun H1 l bs x1 hst hper => ?_⟩
    have hbn : (bs.map (·.2)).Nodup := hper.nodup_iff.mpr (subs_nodup h0 hm5)
    have hbl : bs.length ≤ 32 := by
      have := hper.length_eq
      rw [List.length_map] at this
      have := subs_len h0 hm5
      omega
    have hbS : ∀ e ∈ bs, IsS M e.2 := fun e he => (subs_iff h0).mp (hper.mem_iff.mp (List.mem_map_of_mem he))
    refine ⟨l, rfl, ⟨_, SqL.of hst.1⟩, fun D hD => ?_⟩
    refine lc_f (roEx (Tt K)) trivial (walk_list (xs := bs.map fun b => V.ref b.1)) (ds := bs) (by rw [List.length_map]) (by rw [List.length_map]; omega) hD (fun Hx x => SqL.of (x.lst hst.1)) (fun _ _ _ _ _ _ y => yat_ex y) (fun e => sub goal e.2)
      (fun e v H => ∃ q, v = V.ref q ∧ H q = some (.tup [.ref e.1, .int 0])) (fun e v Ha Hb im ⟨q, h1, h2⟩ => ⟨q, h1, im _ _ h2⟩) ?_ ?_
    · intro i d v Hx Hy hd _ x y S hS
      obtain ⟨e, q⟩ := y
      subst e
      obtain rfl := at_map q hd
      have hdm := List.mem_of_getElem? hd
      refine hS _ rfl (fun Hz xz Q3 k3 => ?_) fun _ Hz xz Q3 k3 => ?_
      · exact ⟨_, rfl, _, rfl, gl, d.1, goal, (fun m => decide (m ∈ d.2)), rfl, hg.ex ((x1.trans x).trans xz), by omega, Mem.tup ((hst.2 d hdm).ex (x.trans xz)), fun Hw xw => ⟨_, rfl, k3 _ _ xw rfl⟩⟩
      · exact ⟨_, rfl, by show 2 ≤ sizeLine; decide, fun q hq => k3 _ _ (Ex.new hq) ⟨q, rfl, upd_same⟩⟩
    intro acc H2 x2 hD2 hpair
    obtain ⟨ps, rfl, hps⟩ := zeros0 (K := K) (fun _ _ => trivial) (fun e he => (hst.2 e (List.mem_filter.mp he).1).ex x2) hpair
    have hfn : ((((bs.filter fun e => sub goal e.2).map (·.2)).map fun s => (s, (0 : Int))).map (·.1)).Nodup := by
      rw [List.map_map]
      show (((bs.filter fun e => sub goal e.2).map (·.2)).map id).Nodup
      rw [List.map_id]
      have : ((bs.filter fun d => sub goal d.2).map (·.2)).Sublist (bs.map (·.2)) := (List.filter_sublist).map _
      exact this.nodup hbn
    have hfnK : ((dt (((bs.filter fun e => sub goal e.2).map (·.2)).map fun s => (s, (0 : Int)))).map (·.1)).Nodup := by
      have e1 : (dt (((bs.filter fun e => sub goal e.2).map (·.2)).map fun s => (s, (0 : Int)))).map (·.1) = ((((bs.filter fun e => sub goal e.2).map (·.2)).map fun s => (s, (0 : Int))).map (·.1)).map iK := by
        simp only [List.map_map]
        rfl
      rw [e1]
      exact nodup_map_inj (fun a b => iK_inj a b) hfn
    refine ⟨D, ps, _, rfl, SqL.of hD2, hps, hfnK, fun Dt hDt => ?_⟩
    have x2b := x2.push hDt (o := .dT (dt (((bs.filter fun e => sub goal e.2).map (·.2)).map fun s => (s, (0 : Int)))))
    have hFD2 : TD (upd H2 Dt (.dT (dt (((bs.filter fun e => sub goal e.2).map (·.2)).map fun s => (s, (0 : Int)))))) Dt (((bs.filter fun e => sub goal e.2).map (·.2)).map fun s => (s, (0 : Int))) := upd_same
    have eg : lk (((bs.filter fun e => sub goal e.2).map (·.2)).map fun s => (s, (0 : Int))) = g0 M goal := by
      funext s
      rw [lk_fun (v := fun _ => 0)]
      unfold g0
      have hmem : s ∈ (bs.filter fun e => sub goal e.2).map (·.2) ↔ s ∈ subs M ∧ sub goal s = true := by
        rw [List.mem_map]
        constructor
        · rintro ⟨e, he, rfl⟩
          obtain ⟨q1, q2⟩ := List.mem_filter.mp he
          exact ⟨hper.mem_iff.mp (List.mem_map_of_mem q1), q2⟩
        · rintro ⟨q1, q2⟩
          obtain ⟨e, he, rfl⟩ := List.mem_map.mp (hper.mem_iff.mpr q1)
          exact ⟨e, List.mem_filter.mpr ⟨he, q2⟩, rfl⟩
      by_cases q : s ∈ (bs.filter fun e => sub goal e.2).map (·.2)
      · rw [if_pos q, if_pos (hmem.mp q)]
      · rw [if_neg q, if_neg (fun z => q (hmem.mpr z))]
    refine ⟨_, _, rfl, ?_⟩
    have x12 := x1.trans x2b
    have nD : NT H Dt := NT.new (x1.trans x2) hDt
    generalize ((bs.filter fun e => sub goal e.2).map (·.2)).map (fun s => (s, (0 : Int))) = fs at *
    generalize upd H2 Dt (.dT (dt fs)) = H2b at *
    have lenle : ∀ {f : List (List Int × Int)}, (f.map (·.1)).Nodup → (∀ s, (lk f s).isSome = true → IsS M s) → f.length ≤ 32 := fun {f} n hd => by
      have := nodup_le n (m := subs M) fun s hs => (subs_iff h0).mpr (hd s (lk_mem.mpr hs))
      rw [List.length_map] at this
      have := subs_len h0 hm5
      omega
    have hn : (rs.zip ws).length = min (as.map V.ref).length (ws.map V.int).length := by
      rw [List.length_map, List.length_map, h2, hP.nw, hRl]
      omega
    refine ⟨fun m σ H' => ∃ (fs : List (List Int × Int)) (c : Bool) (v3 v6 v7 v8 v9 : Option V), σ = [some (.ref b), some (.ref pr), some (.ref gl), v3, some (.ref Dt), some (.bl c), v6, v7, v8, v9] ∧ Ex (Tt K) H H' ∧ TD H' Dt fs ∧ (fs.map (·.1)).Nodup ∧ Pg M (rs.zip ws) goal (lk fs) ∧ (c = false → ∀ s ∈ subs M, ∀ r ∈ rs.zip ws, (∀ m ∈ r.1.1, m ∈ s) → ∀ v, lk fs (jn s r.1.2) = some v → ∃ u, lk fs s = some u ∧ u ≤ v + r.2) ∧ m = 2 * nu M (lk fs) + (if c = true then 1 else 0),
      ⟨_, fs, true, none, none, none, none, none, rfl, x12, hFD2, hfn, by rw [eg]; exact Pg.init h0 hm5, fun z => (nomatch z), rfl⟩, ?_⟩
    clear hFD2 eg hfn hfnK hpair hps
    rintro m σ H3 ⟨fs, c, v3, v6, v7, v8, v9, rfl, x3, hFD, hnd, hPg, hcc, rfl⟩
    refine ⟨_, rfl, c, rfl, ?_⟩
    cases c with
    | false => exact iteF ⟨_, rfl, k _ Dt fs x3 hFD hnd (hPg.gol fun s hs => hcc rfl s ((subs_iff h0).mpr hs))⟩
    | true =>
      refine iteT ⟨_, fun _ _ h => h, ?_⟩
      have hsl3 := slt_keep hsl fun b o _ e n => x3.1 b o e n
      refine ⟨_, rfl, b, _, dxb, _, _, 0, _, rfl, hsl3, G.sclsB, G.slM, rfl, M, rfl, h0, hm5, x3.2 htab, fun H4 l2 bs2 x4 hst2 hper2 => ?_⟩
      have hbl2 : bs2.length ≤ 32 := by
        have := hper2.length_eq
        rw [List.length_map] at this
        have := subs_len h0 hm5
        omega
      have hbS2 : ∀ e ∈ bs2, IsS M e.2 := fun e he => (subs_iff h0).mp (hper2.mem_iff.mp (List.mem_map_of_mem he))
      refine ⟨l2, rfl, ⟨_, SqL.of hst2.1⟩, ?_⟩
      have x34 := x3.trans x4
      refine for_list (xs := bs2.map fun b => V.ref b.1) (fun i σ H' => ∃ (f : List (List Int × Int)) (c : Bool) (v3 v6 v7 v8 v9 : Option V), σ = [some (.ref b), some (.ref pr), some (.ref gl), v3, some (.ref Dt), some (.bl c), v6, v7, v8, v9] ∧ Ex (Tt K) H H' ∧ H' l2 = some (.lst (bs2.map fun b => V.ref b.1)) ∧ Im H4 H' ∧ TD H' Dt f ∧ (f.map (·.1)).Nodup ∧ Pg M (rs.zip ws) goal (lk f) ∧ (c = false → f = fs ∧ ∀ (j : Nat) (e : Addr × List Int), j < i → bs2[j]? = some e → ∀ r ∈ rs.zip ws, (∀ m ∈ r.1.1, m ∈ e.2) → ∀ v, lk f (jn e.2 r.1.2) = some v → ∃ u, lk f e.2 = some u ∧ u ≤ v + r.2) ∧ (c = true → nu M (lk f) < nu M (lk fs)) ∧ nu M (lk f) ≤ nu M (lk fs))
        ⟨fs, false, v3, v6, v7, v8, v9, rfl, x34, hst2.1, Im.refl _, hFD.ex x4, hnd, hPg, fun _ => ⟨rfl, fun j e z => absurd z (Nat.not_lt_zero j)⟩, fun z => (nomatch z), Nat.le_refl _⟩ (fun i σ H' hi ⟨_, _, _, _, _, _, _, _, _, hl, _⟩ => SqL.of hl) ?_ ?_
      · rintro i x σ H5 hx ⟨f, c, v3, v6, v7, v8, v9, rfl, x5, hl5, i5, hF5, hn5, hP5, hcf, hct, hnu⟩
        obtain ⟨e, he, rfl⟩ := at_of hx
        obtain ⟨oa, s⟩ := e
        have hem := List.mem_of_getElem? he
        have hsS := hbS2 _ hem
        dsimp only at hsS
        have ho5 : HT H5 oa s := i5 _ _ (hst2.2 _ hem)
        have hs5 := hsS.mono hm5
        have hsl5 := slt_keep hsl fun b o _ e n => x5.1 b o e n
        refine ⟨_, rfl, b, _, dxb, _, _, 1, _, rfl, hsl5, G.sclsB, G.slR, rfl, _, rfl, r, pr, _, _, rfl, .inr ⟨SqT.of (x5.tup h1), SqT.of (x5.tup hP.hp), ?_⟩⟩
        refine for_it (walk_zipA hn) (fun q σ H' => ∃ (f' : List (List Int × Int)) (c' : Bool) (v6 v7 v8 v9 : Option V), σ = [some (.ref b), some (.ref pr), some (.ref gl), some (.ref oa), some (.ref Dt), some (.bl c'), v6, v7, v8, v9] ∧ Ex (Tt K) H H' ∧ H' l2 = some (.lst (bs2.map fun b => V.ref b.1)) ∧ Im H4 H' ∧ TD H' Dt f' ∧ (f'.map (·.1)).Nodup ∧ Pg M (rs.zip ws) goal (lk f') ∧ (c' = false → c = false ∧ f' = f ∧ ∀ (j : Nat) (r : PR), j < q → (rs.zip ws)[j]? = some r → (∀ m ∈ r.1.1, m ∈ s) → ∀ v, lk f' (jn s r.1.2) = some v → ∃ u, lk f' s = some u ∧ u ≤ v + r.2) ∧ (c' = true → nu M (lk f') < nu M (lk fs)) ∧ nu M (lk f') ≤ nu M (lk fs))
          ⟨f, c, v6, v7, v8, v9, rfl, x5, hl5, i5, hF5, hn5, hP5, fun z => ⟨z, rfl, fun j r z => absurd z (Nat.not_lt_zero j)⟩, hct, hnu⟩ (fun q σ H' hi ⟨_, _, _, _, _, _, _, x, _⟩ => ⟨SqT.of (x.tup h1), SqT.of (x.tup hP.hp)⟩) ?_ ?_
        · rintro q x σ H6 H6' hq ⟨f', c', v6, v7, v8, v9, rfl, x6, hl6, i6, hF6, hn6, hP6, hcf6, hct6, hnu6⟩ ⟨z, u1, u2, rfl, hz, rfl, gg1, gg2⟩
          obtain ⟨ai, hai, rfl⟩ := at_of gg1
          obtain ⟨w, hwi, rfl⟩ := at_of gg2
          obtain ⟨ru, hri, hra⟩ := pair_at h3 hai
          have hRi : (rs.zip ws)[q]? = some (ru, w) := by rw [List.getElem?_zip_eq_some]; exact ⟨hri, hwi⟩
          have hrR := List.mem_of_getElem? hRi
          have hru := hP.hr ru (List.mem_of_getElem? hri)
          have xz : Ex (Tt K) H6 (upd H6 z (.tup [V.ref ai, V.int w])) := Ex.new hz
          have x7 := x6.trans xz
          refine gZip (r := ru) upd_same (hra.im x7.im) fun p1 cc hp1 hcc => ?_
          have hl7 := xz.lst hl6
          have i7 := i6.trans xz.im
          have hF7 := hF6.ex xz
          generalize upd H6 z (.tup [V.ref ai, V.int w]) = H7 at *
          have ho7 : HT H7 oa s := i7 _ _ (hst2.2 _ hem)
          refine ⟨_, rfl, _, rfl, oa, cc, s, ru.2, rfl, ho7, hcc, hs5, hru.2.mono hm5, fun H8 pj x8 hj => ?_⟩
          have hlen6 := lenle hn6 hP6.dom
          have stay : ∀ (H9 : Hp), Ex (Tt K) H8 H9 → ((∀ m ∈ ru.1, m ∈ s) → ∀ v, lk f' (jn s ru.2) = some v → ∃ u, lk f' s = some u ∧ u ≤ v + w) → ∃ (f'' : List (List Int × Int)) (c'' : Bool) (v6' v7' v8' v9' : Option V), ([some (.ref b), some (.ref pr), some (.ref gl), some (.ref oa), some (.ref Dt), some (.bl c'), some (.ref p1), some (.ref cc), some (.int w), some (.ref pj)] : L2.St) = [some (.ref b), some (.ref pr), some (.ref gl), some (.ref oa), some (.ref Dt), some (.bl c''), v6', v7', v8', v9'] ∧ Ex (Tt K) H H9 ∧ H9 l2 = some (.lst (bs2.map fun b => V.ref b.1)) ∧ Im H4 H9 ∧ TD H9 Dt f'' ∧ (f''.map (·.1)).Nodup ∧ Pg M (rs.zip ws) goal (lk f'') ∧ (c'' = false → c = false ∧ f'' = f ∧ ∀ (j : Nat) (r : PR), j < q + 1 → (rs.zip ws)[j]? = some r → (∀ m ∈ r.1.1, m ∈ s) → ∀ v, lk f'' (jn s r.1.2) = some v → ∃ u, lk f'' s = some u ∧ u ≤ v + r.2) ∧ (c'' = true → nu M (lk f'') < nu M (lk fs)) ∧ nu M (lk f'') ≤ nu M (lk fs) := fun H9 x9 hok =>
            ⟨f', c', _, _, _, _, rfl, (x7.trans x8).trans x9, (x8.trans x9).lst hl7, i7.trans (x8.trans x9).im, hF7.ex (x8.trans x9), hn6, hP6, fun zc => ⟨(hcf6 zc).1, (hcf6 zc).2.1, fun j r' hj2 hr2 => by
              rcases Nat.lt_or_ge j q with z2 | z2
              · exact (hcf6 zc).2.2 j r' z2 hr2
              · have ej : j = q := by omega
                rw [ej, hRi] at hr2
                obtain rfl := Option.some.inj hr2
                exact hok⟩, hct6, hnu6⟩
          refine ⟨_, rfl, _, rfl, p1, oa, ru.1, (fun m => decide (m ∈ s)), rfl, hp1.ex x8, by have := (hru.1.mono hm5).len; omega, Mem.tup (ho7.ex x8), fun H9 x9 => ⟨_, rfl, ?_⟩⟩
          have hsub : (ru.1.all fun m => decide (m ∈ s)) = sub ru.1 s := rfl
          rw [hsub]
          cases e1 : sub ru.1 s with
          | false =>
            refine iteF (iteF (stay _ x9 fun hp => ?_))
            rw [sub_iff.mpr hp] at e1
            cases e1
          | true =>
            refine iteT ?_
            have hp := sub_iff.mp e1
            have x89 := x8.trans x9
            have hF9 := hF7.ex x89
            have hj9 := hj.ex x9
            have ho9 := ho7.ex x89
            refine ⟨_, rfl, _, rfl, Dt, _, rfl, dget_tr (.inl hF9) hj9, _, rfl, ?_⟩
            cases e2 : lk f' (jn s ru.2) with
            | none =>
              refine iteF (stay _ x9 fun _ v hv => ?_)
              rw [e2] at hv
              cases hv
            | some y =>
              refine iteT ?_
              have hjS := hsS.jn hm5 hru.2
              have hdl : DGet H9 Dt (.ref pj) (some (.int y)) := by
                have := dget_tr (.inl hF9) hj9
                rw [e2] at this
                exact this
              have fin : ∀ (st1 : Pg M (rs.zip ws) goal (fu (lk f') s (y + w))) (st2 : nu M (fu (lk f') s (y + w)) < nu M (lk f')), ∃ (f'' : List (List Int × Int)) (c'' : Bool) (v6' v7' v8' v9' : Option V), ([some (.ref b), some (.ref pr), some (.ref gl), some (.ref oa), some (.ref Dt), some (.bl true), some (.ref p1), some (.ref cc), some (.int w), some (.ref pj)] : L2.St) = [some (.ref b), some (.ref pr), some (.ref gl), some (.ref oa), some (.ref Dt), some (.bl c''), v6', v7', v8', v9'] ∧ Ex (Tt K) H (upd H9 Dt (.dT (dt (pt f' s (y + w))))) ∧ (upd H9 Dt (.dT (dt (pt f' s (y + w))))) l2 = some (.lst (bs2.map fun b => V.ref b.1)) ∧ Im H4 (upd H9 Dt (.dT (dt (pt f' s (y + w))))) ∧ TD (upd H9 Dt (.dT (dt (pt f' s (y + w))))) Dt f'' ∧ (f''.map (·.1)).Nodup ∧ Pg M (rs.zip ws) goal (lk f'') ∧ (c'' = false → c = false ∧ f'' = f ∧ ∀ (j : Nat) (r : PR), j < q + 1 → (rs.zip ws)[j]? = some r → (∀ m ∈ r.1.1, m ∈ s) → ∀ v, lk f'' (jn s r.1.2) = some v → ∃ u, lk f'' s = some u ∧ u ≤ v + r.2) ∧ (c'' = true → nu M (lk f'') < nu M (lk fs)) ∧ nu M (lk f'') ≤ nu M (lk fs) := fun st1 st2 => by
                have ef : fu (lk f') s (y + w) = lk (pt f' s (y + w)) := by
                  funext j
                  rw [lk_pt]
                  rfl
                rw [ef] at st1 st2
                have im := Im.mut (o := .dT (dt (pt f' s (y + w)))) hF9 trivial
                have lD : l2 ≠ Dt := ne_of hl7 hF7 (fun z => by cases z)
                refine ⟨pt f' s (y + w), true, _, _, _, _, rfl, Ex.mut (x7.trans x89) nD hF9 trivial, ?_, (i7.trans x89.im).trans im, upd_same, pt_nodup hn6, st1, fun z => (nomatch z), fun _ => by omega, by omega⟩
                rw [upd_ne lD]
                exact x89.lst hl7
              refine ⟨_, rfl, _, rfl, Dt, _, rfl, dget_tr (.inl hF9) ho9, _, rfl, ?_⟩
              cases e3 : lk f' s with
              | none =>
                refine iteT (iteT ?_)
                obtain ⟨st1, st2, _⟩ := hP6.step h0 hm5 hR hsS hrR hp e2 (.inl e3)
                exact ⟨_, rfl, _, rfl, Dt, _, rfl, hdl, _, rfl, _, _, rfl, rfl, _, rfl, _, rfl, Dt, _, rfl, dput_td hF9 ho9 (by omega), fin st1 st2⟩
              | some y2 =>
                refine iteF ?_
                have hdl2 : DGet H9 Dt (.ref oa) (some (.int y2)) := by
                  have := dget_tr (.inl hF9) ho9
                  rw [e3] at this
                  exact this
                refine ⟨_, rfl, _, rfl, Dt, _, rfl, hdl, _, rfl, _, _, rfl, rfl, _, rfl, _, rfl, Dt, _, rfl, hdl2, _, _, rfl, rfl, _, rfl, ?_⟩
                by_cases hlt : y + w < y2
                · rw [decide_eq_true hlt]
                  refine iteT ?_
                  obtain ⟨st1, st2, _⟩ := hP6.step h0 hm5 hR hsS hrR hp e2 (.inr ⟨_, e3, hlt⟩)
                  exact ⟨_, rfl, _, rfl, Dt, _, rfl, hdl, _, rfl, _, _, rfl, rfl, _, rfl, _, rfl, Dt, _, rfl, dput_td hF9 ho9 (by omega), fin st1 st2⟩
                · rw [decide_eq_false hlt]
                  refine iteF (stay _ x9 fun _ v hv => ⟨_, e3, ?_⟩)
                  rw [e2] at hv
                  have := Option.some.inj hv
                  omega
        · rintro σ H6 ⟨f', c', v6, v7, v8, v9, rfl, x6, hl6, i6, hF6, hn6, hP6, hcf6, hct6, hnu6⟩
          refine ⟨f', c', _, _, _, _, _, rfl, x6, hl6, i6, hF6, hn6, hP6, fun zc => ?_, hct6, hnu6⟩
          obtain ⟨q1, q2, q3⟩ := hcf6 zc
          obtain ⟨q4, q5⟩ := hcf q1
          refine ⟨q2.trans q4, fun j e hj hje r hr => ?_⟩
          rcases Nat.lt_or_ge j i with z2 | z2
          · rw [q2]
            exact q5 j e z2 hje r hr
          · have ej : j = i := by omega
            rw [ej, he] at hje
            obtain rfl := Option.some.inj hje
            obtain ⟨j2, hj2, hjr2⟩ := List.getElem_of_mem hr
            exact q3 j2 r hj2 (by rw [List.getElem?_eq_getElem hj2, hjr2])
      · rintro σ H5 ⟨f, c, v3, v6, v7, v8, v9, rfl, x5, hl5, i5, hF5, hn5, hP5, hcf, hct, hnu⟩
        refine ⟨2 * nu M (lk f) + (if c = true then 1 else 0), ?_, f, c, _, _, _, _, _, rfl, x5, hF5, hn5, hP5, fun z s hs r hr => ?_, rfl⟩
        · show 2 * nu M (lk f) + (if c = true then 1 else 0) < 2 * nu M (lk fs) + 1
          cases c with
          | true =>
            have := hct rfl
            show 2 * nu M (lk f) + 1 < _
            omega
          | false =>
            show 2 * nu M (lk f) + 0 < _
            omega
        · obtain ⟨e, he, rfl⟩ := List.mem_map.mp (hper2.mem_iff.mpr hs)
          obtain ⟨j, hj, hje⟩ := List.getElem_of_mem he
          exact (hcf z).2 j e (by rw [List.length_map]; exact hj) (by rw [List.getElem?_eq_getElem hj, hje]) r hr


end
end Pb
set_option Elab.async false
set_option linter.all false
set_option maxRecDepth 100000
set_option maxHeartbeats 4000000

namespace Pb
open PySem PySem.Spec PyProof.Rows L2
section
variable {P : Program} {w : World} {K : PySem.W.Frag} {mg : Str → Option Value} {base : Heap} {T : Tb}

abbrev N_law_bill_right : List Str := ["_law_book", "_law_thing", "_law_prices", "_law_goal", "_law_indices", "_law_floors", "_law_held", "_law_total", "_law_index", "_law_one", "_law_first", "_law_late", "_law_price"]
theorem sc_law_bill_right : FnScope N_law_bill_right ["_law_book", "_law_thing", "_law_prices", "_law_goal", "_law_indices", "_law_floors"] (defScope sLBillRight) := ⟨rfl, rfl, rfl, by decide +kernel, rfl, by decide +kernel, by decide +kernel⟩
theorem c_law_bill_right (G : Gx K mg) : C8.Cal P w K mg base 3 "_law_bill_right" (spBillRight T K) [] := by
  refine calOf G 34 rfl rfl sc_law_bill_right (fun _ _ _ _ _ _ us hl => match us, hl with | [_, _, _, _, _, _], _ => rfl) (fun vs H Q E h => ?_) (fun f cdv A outer s H vs Q E hr h => ?_)
  · obtain ⟨b, a, pr, gl, i, e, M, rs, th, ws, goal, is, fl, rfl, hP, hg, hgs, hi, hil, he, hfl, hfk, hfn, k⟩ := h
    rfl
  · obtain ⟨b, a, pr, gl, i, e, M, rs, th, ws, goal, is, fl, rfl, hP, hg, hgs, hi, hil, he, hfl, hfk, hfn, k⟩ := h
    have hu := hu_of hr
    refine ⟨_, (pss_cons (ps_par (i := 6) (j := 7) rfl sc_law_bill_right.nd rfl rfl (by decide) rfl rfl (pa_cons (pv 1) (pa_cons pe_int pa_nil)) (by rfl))
      (pss_cons (ps_for PassesOwn.never rfl (pi_list (pv 4)) (pg_name (i := 8) sc_law_bill_right.nd rfl (Or.inl rfl))
        (pss_cons (ps_if (PW.pt (pw_or (pt_not (pt_chain op_le op_lt pe_int (pv 8) (pe_callB call_len_seq (by rfl) G.b_len (by decide +kernel) (pa_cons (pe_slK (K := K) rfl (pv 0)) pa_nil)))) (pw_or1 (pt_not (pt_val (C8.pe_c (c_law_within (T := T) G) hr (by decide) (by rfl) (pa_cons (pe_ix (ix_tupK (K := K) rfl) (pe_ix (ix_tupK (K := K) rfl) (pe_slK (K := K) rfl (pv 0)) (pv 8) (fun _ _ => rfl)) pe_int (fun _ _ => rfl)) (pa_cons (pv 6) pa_nil))))))))
            (pss_one (ps_ret pe_bl)) pss_nil)
          (pss_one (ps_par (i := 6) (j := 7) rfl sc_law_bill_right.nd rfl rfl (by decide) rfl rfl (pa_cons (C8.pe_c (c_law_joined (T := T) G) hr (by decide) (by rfl) (pa_cons (pv 6) (pa_cons (pe_ix (ix_tupK (K := K) rfl) (pe_ix (ix_tupK (K := K) rfl) (pe_slK (K := K) rfl (pv 0)) (pv 8) (fun _ _ => rfl)) pe_int (fun _ _ => rfl)) pa_nil))) (pa_cons (pe_op op_add (pv 7) (pe_ix (ix_tupK (K := K) rfl) (pv 2) (pv 8) (fun _ _ => rfl))) pa_nil)) (by rfl)))))
      (pss_cons (ps_if (PW.pt (pw_or (pt_not (pt_val (C8.pe_c (c_law_within (T := T) G) hr (by decide) (by rfl) (pa_cons (pv 3) (pa_cons (pv 6) pa_nil))))) (pw_or1 (pt_cmpR op_lt (pe_dget2 hu (pv 5) (pv 1) pe_int ⟨rfl, rfl, rfl, rfl⟩) (pv 7) (nomark _)))))
        (pss_one (ps_ret pe_bl)) pss_nil)
      (pss_cons (ps_lock (ps_for PassesOwn.never rfl (pi_keys (pv 5)) (pg_name (i := 9) sc_law_bill_right.nd rfl (Or.inl rfl))
        (pss_cons (ps_if (PW.pt (pw_or (pt_cmpR op_lt (pe_dget hu (pv 5) (pv 9) (fun _ _ => rfl)) pe_int (nomark _)) (pw_or1 (PW.pt (pw_and (pt_cmpR op_gt (pe_dget hu (pv 5) (pv 9) (fun _ _ => rfl)) pe_int (nomark _)) (pw_and1 (pt_val (C8.pe_c (c_law_within (T := T) G) hr (by decide) (by rfl) (pa_cons (pv 3) (pa_cons (pv 9) pa_nil))))))))))
            (pss_one (ps_ret pe_bl)) pss_nil)
          (pss_one (ps_for PassesOwn.never rfl (RZ.pi_zipA (by rfl) G.b_zip (pa_cons (pe_slK (K := K) rfl (pv 0)) (pa_cons (pv 2) pa_nil))) (pg_tup rfl (pgs_cons (pg_tup rfl (pgs_cons (pg_name (i := 10) sc_law_bill_right.nd rfl (Or.inl rfl)) (pgs_cons (pg_name (i := 11) sc_law_bill_right.nd rfl (Or.inl rfl)) pgs_nil))) (pgs_cons (pg_name (i := 12) sc_law_bill_right.nd rfl (Or.inl rfl)) pgs_nil)))
            (pss_one (ps_if (PW.pt (pw_and (pt_val (C8.pe_c (c_law_within (T := T) G) hr (by decide) (by rfl) (pa_cons (pv 10) (pa_cons (pv 9) pa_nil)))) (pw_and1 (pt_cmpR op_gt (pe_dget hu (pv 5) (pv 9) (fun _ _ => rfl)) (pe_op op_add (pv 12) (pe_dget2 hu (pv 5) (C8.pe_c (c_law_joined (T := T) G) hr (by decide) (by rfl) (pa_cons (pv 9) (pa_cons (pv 11) pa_nil))) pe_int ⟨rfl, rfl, rfl, rfl⟩)) (nomark _)))))
                (pss_one (ps_ret pe_bl)) pss_nil)))))))
      (pss_one (ps_ret pe_bl)))))), ?_⟩
    have hRl := hP.len
    have hm5 := hP.m5
    have hnr := hP.nr
    have hg5 := hgs.mono hm5
    have lg := hg5.len
    have kk : ∀ H' (bb : Bool), Ex T H H' → billB (rs.zip ws) th goal is fl = bb → Q (.bl bb) H' := fun H' bb x e => by
      rw [← e]
      exact k _ x
    obtain ⟨dxb, r, hsl, hrus⟩ := hP.bk
    obtain ⟨as, h1, h2, h3⟩ := hrus.sq
    have hn : (rs.zip ws).length = min (as.map V.ref).length (ws.map V.int).length := by
      rw [List.length_map, List.length_map, h2, hP.nw, hRl]
      omega
    refine ⟨_, rfl, _, _, rfl, ?_⟩
    refine ⟨_, rfl, i, rfl, ⟨_, SqL.of hi⟩, ?_⟩
    refine for_list (xs := is.map V.int) (fun n σ H' => ∃ (v8 : Option V) (h : Addr) (hs : List Int) (tot : Int), σ = [some (.ref b), some (.ref a), some (.ref pr), some (.ref gl), some (.ref i), some (.ref e), some (.ref h), some (.int tot), v8, none, none, none, none] ∧ Ex T H H' ∧ HT H' h hs ∧ IsS M hs ∧ wlk (rs.zip ws) (is.take n) (th, 0) = some (hs, tot))
      ⟨none, a, th, 0, rfl, Ex.refl T H, hP.ht, hP.hth, rfl⟩ (fun n σ H' hn2 ⟨v8, h, hs, tot, _, x, _⟩ => SqL.of (x.lst hi)) ?_ ?_
    · rintro n x σ H4 hx ⟨v8, h, hs, tot, rfl, x4, hh, hhs, hw⟩
      obtain ⟨ix, hix, rfl⟩ := at_of hx
      have hsl4 := slt_keep hsl fun b o _ e n => x4.1 b o e n
      have bad : okI (rs.zip ws) ix = false → billB (rs.zip ws) th goal is fl = false := fun hb => by
        have : wlk (rs.zip ws) (is.take (n + 1)) (th, 0) = none := by
          rw [take_snoc hix, wlk_append, hw]
          show wlk (rs.zip ws) [ix] (hs, tot) = none
          unfold wlk
          rw [hb]
          rfl
        unfold billB
        rw [wlk_none (k := n + 1) this]
      refine ⟨_, rfl, 0, ix, rfl, rfl, _, rfl, ?_⟩
      by_cases hi0 : 0 ≤ ix
      · rw [decide_eq_true hi0]
        refine iteT ?_
        refine ⟨_, rfl, b, _, dxb, _, _, 1, _, rfl, hsl4, G.sclsB, G.slR, rfl, r, _, rfl, .inr (SqT.of (x4.tup h1)), _, _, rfl, rfl, _, rfl, ?_⟩
        rw [List.length_map, h2]
        by_cases hi1 : ix < (rs.length : Int)
        · rw [decide_eq_true hi1]
          refine iteF ?_
          have hok : okI (rs.zip ws) ix = true := by
            unfold okI
            rw [hRl, decide_eq_true hi0, decide_eq_true hi1]
            rfl
          have hk : ix.toNat < rs.length := by omega
          have hik : ((ix.toNat : Nat) : Int) = ix := by omega
          have hri : rs[ix.toNat]? = some rs[ix.toNat] := List.getElem?_eq_getElem hk
          obtain ⟨w, hwi, hRi⟩ := hP.at_ hri
          obtain ⟨ai, hai, hra⟩ := pair_at' h3 hri
          have hru := hP.hr _ (List.mem_of_getElem? hri)
          generalize rs[ix.toNat] = ru at hri hRi hra hru
          obtain ⟨pp, cc, hr1, hr2, hr3⟩ := hra
          have hatI : atI (as.map V.ref) ix = some (.ref ai) := by
            rw [← hik]
            exact atI_nat (by rw [List.getElem?_map, hai]; rfl)
          have hw1 : wlk (rs.zip ws) (is.take (n + 1)) (th, 0) = if sub ru.1 hs = true then some (jn hs ru.2, tot + w) else none := by
            rw [take_snoc hix, wlk_append, hw]
            exact wlk_one (st := (hs, tot)) hok hRi
          refine ⟨_, rfl, b, _, dxb, _, _, 1, _, rfl, hsl4, G.sclsB, G.slR, rfl, _, rfl, r, _, ix, .ref ai, rfl, rfl, SqT.of (x4.tup h1), hatI, ai, _, 0, .ref pp, rfl, rfl, SqT.of (x4.tup hr1), rfl, _, rfl, pp, h, ru.1, (fun m => decide (m ∈ hs)), rfl, hr2.ex x4, by have := (hru.1.mono hm5).len; omega, Mem.tup hh, fun H5 x5 => ⟨_, rfl, ?_⟩⟩
          have hsub : (ru.1.all fun m => decide (m ∈ hs)) = sub ru.1 hs := rfl
          rw [hsub]
          have x35 := x4.trans x5
          cases e1 : sub ru.1 hs with
          | false =>
            rw [e1] at hw1
            refine iteT (kk _ _ x35 ?_)
            unfold billB
            rw [wlk_none (k := n + 1) hw1]
          | true =>
            rw [e1] at hw1
            refine iteF ?_
            have hsl5 := slt_keep hsl fun b o _ e n => x35.1 b o e n
            refine ⟨_, rfl, _, rfl, b, _, dxb, _, _, 1, _, rfl, hsl5, G.sclsB, G.slR, rfl, _, rfl, r, _, ix, .ref ai, rfl, rfl, SqT.of (x35.tup h1), hatI, ai, _, 1, .ref cc, rfl, rfl, SqT.of (x35.tup hr1), rfl, h, cc, hs, ru.2, rfl, hh.ex x5, hr3.ex x35, hhs.mono hm5, hru.2.mono hm5, fun H6 p6 x6 hj => ?_⟩
            have x36 := x35.trans x6
            refine ⟨_, rfl, _, rfl, _, rfl, pr, _, ix, .int w, rfl, rfl, SqT.of (hP.hp.ex x36), ?_, _, _, rfl, rfl, _, _, rfl, _, p6, jn hs ru.2, tot + w, rfl, x36, hj, hhs.jn hm5 hru.2, by rw [hw1]; rfl⟩
            rw [← hik]
            exact atI_nat (by rw [List.getElem?_map, hwi]; rfl)
        · rw [decide_eq_false hi1]
          refine iteT (iteT (kk _ _ x4 (bad ?_)))
          unfold okI
          rw [hRl, decide_eq_false hi1, Bool.and_false]
      · rw [decide_eq_false hi0]
        refine iteF ⟨_, rfl, iteT (iteT (kk _ _ x4 (bad ?_)))⟩
        unfold okI
        rw [decide_eq_false hi0, Bool.false_and]
    · rintro σ H4 ⟨v8, h, hs, tot, rfl, x4, hh, hhs, hw⟩
      rw [List.length_map, List.take_length] at hw
      have eB : billB (rs.zip ws) th goal is fl = (!(!(sub goal hs) || decide ((lk fl th).getD 0 < tot)) && (fl.map (·.1)).all (floorB (rs.zip ws) goal fl)) := by
        unfold billB
        rw [hw]
      refine ⟨_, rfl, _, rfl, gl, h, goal, (fun m => decide (m ∈ hs)), rfl, hg.ex x4, by omega, Mem.tup hh, fun H5 x5 => ⟨_, rfl, ?_⟩⟩
      have hsub : (goal.all fun m => decide (m ∈ hs)) = sub goal hs := rfl
      rw [hsub]
      have x15 := x4.trans x5
      cases e1 : sub goal hs with
      | false =>
        refine iteT (iteT (kk _ _ x15 ?_))
        rw [eB, e1]
        rfl
      | true =>
        refine iteF ?_
        have he5 := he.ex x15
        refine ⟨_, rfl, e, rfl, isD_tr (.inl he5), _, rfl, _, dget_tr (.inl he5) (hP.ht.ex x15), _, rfl, _, _, getD_int _ _, rfl, _, rfl, ?_⟩
        cases e2 : decide ((lk fl th).getD 0 < tot) with
        | true =>
          refine iteT (kk _ _ x15 ?_)
          rw [eB, e1, e2]
          rfl
        | false =>
          refine iteF ?_
          have eB2 : billB (rs.zip ws) th goal is fl = (fl.map (·.1)).all (floorB (rs.zip ws) goal fl) := by
            rw [eB, e1, e2]
            rfl
          refine ⟨e, .dT (dt fl), he5, trivial, fun od => ?_⟩
          have hPl := (hP.ex x15).lock (o := .frz od (.dT (dt fl))) he5 trivial
          have hgl := (hg.ex x15).im (lock_im (o := .frz od (.dT (dt fl))) he5 (show IsDc (.dT (dt fl)) from trivial))
          have hl0 : upd H5 e (.frz od (.dT (dt fl))) e = some (.frz od (.dT (dt fl))) := upd_same
          have hfin : ∀ H' (bb : Bool), Ex T (upd H5 e (.frz od (.dT (dt fl)))) H' → billB (rs.zip ws) th goal is fl = bb → H' e = some (.frz od (.dT (dt fl))) ∧ Q (.bl bb) (upd H' e (.dT (dt fl))) := fun H' bb x eb => by
            obtain ⟨q1, q2⟩ := lock_ex (T := T) he5 (show IsDc (.dT (dt fl)) from trivial) x
            exact ⟨q1, kk _ _ (x15.trans q2) eb⟩
          generalize upd H5 e (.frz od (.dT (dt fl))) = Hl at *
          refine ⟨_, rfl, e, od, rfl, .inr ⟨dt fl, hl0, ?_⟩⟩
          refine for_it (walk_keysT (kvs := dt fl)) (fun n σ H' => ∃ (v8 v9 v10 v11 v12 : Option V), σ = [some (.ref b), some (.ref a), some (.ref pr), some (.ref gl), some (.ref i), some (.ref e), some (.ref h), some (.int tot), v8, v9, v10, v11, v12] ∧ Ex T Hl H' ∧
            (fl.take n).all (fun p => floorB (rs.zip ws) goal fl p.1) = true) ⟨_, none, none, none, none, rfl, Ex.refl T Hl, rfl⟩ ?_ ?_ ?_
          · rintro n σ H1 hn1 ⟨v8, v9, v10, v11, v12, rfl, x1, _⟩
            exact x1.frz hl0
          · rintro n x σ H1 H1' hn1 ⟨v8, v9, v10, v11, v12, rfl, x1, hall⟩ ⟨rfl, kx, vx, o, hkv, rfl, hqa⟩
            obtain ⟨s, v, hs1, rfl, rfl⟩ := keyT (T := T) (Hl := Hl) (H := Hl) hkv
            have ho : HT H1' o s := by
              unfold HT
              rw [hqa, mapK]
            have hsm : s ∈ fl.map (·.1) := List.mem_map.mpr ⟨_, List.mem_of_getElem? hs1, rfl⟩
            have hsS := hfk s hsm
            have hs5 := hsS.mono hm5
            have ev : lk fl s = some v := lk_of hfn (List.mem_of_getElem? hs1)
            have eF : floorB (rs.zip ws) goal fl s = (!(decide (v < 0) || (decide (v > 0) && sub goal s)) && (rs.zip ws).all fun r => !(sub r.1.1 s && decide (v > r.2 + (lk fl (jn s r.1.2)).getD 0))) := by
              unfold floorB
              rw [ev]
              rfl
            have hfail : floorB (rs.zip ws) goal fl s = false → billB (rs.zip ws) th goal is fl = false := fun h1 => by
              rw [eB2, List.all_map, List.all_eq_false]
              refine ⟨_, List.mem_of_getElem? hs1, ?_⟩
              show ¬ floorB (rs.zip ws) goal fl s = true
              rw [h1]
              decide
            have hnext : floorB (rs.zip ws) goal fl s = true → (fl.take (n + 1)).all (fun p => floorB (rs.zip ws) goal fl p.1) = true := fun h => by
              rw [take_snoc hs1, List.all_append, hall, List.all_cons]
              show (true && (floorB (rs.zip ws) goal fl s && true)) = true
              rw [h]
              rfl
            have hgt : ∀ {H'}, Ex T Hl H' → HT H' o s → DGet H' e (.ref o) (some (.int v)) := fun x ho' => by
              have := dget_tr (.inr ⟨od, x.frz hl0⟩ : TR _ e fl) ho'
              rw [ev] at this
              exact this
            refine ⟨_, rfl, _, rfl, e, _, rfl, hgt x1 ho, _, _, rfl, rfl, _, rfl, ?_⟩
            by_cases h0 : v < 0
            · rw [decide_eq_true h0]
              refine iteT (iteT (hfin _ _ x1 (hfail ?_)))
              rw [eF, decide_eq_true h0, Bool.true_or]
              rfl
            · rw [decide_eq_false h0]
              refine iteF ?_
              refine ⟨_, rfl, _, rfl, e, _, rfl, hgt x1 ho, _, _, rfl, rfl, _, rfl, ?_⟩
              by_cases hv : 0 < v
              · rw [decide_eq_true hv]
                refine iteT ?_
                refine ⟨_, rfl, _, rfl, gl, o, goal, (fun m => decide (m ∈ s)), rfl, hgl.ex x1, by omega, Mem.tup ho, fun H2 x2 => ⟨_, rfl, ?_⟩⟩
                have hsubg : (goal.all fun m => decide (m ∈ s)) = sub goal s := rfl
                rw [hsubg]
                cases eg : sub goal s with
                | true =>
                  refine iteT (hfin _ _ (x1.trans x2) (hfail ?_))
                  rw [eF, eg, decide_eq_true (p := v > 0) hv, Bool.and_true, Bool.or_true]
                  rfl
                | false =>
                  refine iteF ?_
                  have hz : (decide (v > 0) && sub goal s) = false := by rw [eg, Bool.and_false]
                  have x12 := x1.trans x2
                  have ho2 := ho.ex x2
                  obtain ⟨dxb2, r2, hsl2, hrus2⟩ := hPl.bk.ex x12
                  obtain ⟨as2, g1, g2, g3⟩ := hrus2.sq
                  have hn2 : (rs.zip ws).length = min (as2.map V.ref).length (ws.map V.int).length := by
                    rw [List.length_map, List.length_map, g2, hP.nw, hRl]
                    omega
                  refine ⟨_, rfl, b, _, dxb2, _, _, 1, _, rfl, hsl2, G.sclsB, G.slR, rfl, _, rfl, r2, pr, _, _, rfl, .inr ⟨SqT.of g1, SqT.of (hPl.hp.ex x12), ?_⟩⟩
                  refine for_it (walk_zipA hn2) (fun i2 σ H' => ∃ v10 v11 v12 : Option V, σ = [some (.ref b), some (.ref a), some (.ref pr), some (.ref gl), some (.ref i), some (.ref e), some (.ref h), some (.int tot), v8, some (.ref o), v10, v11, v12] ∧ Ex T Hl H' ∧ HT H' o s ∧ H' r2 = some (.tup (as2.map V.ref)) ∧ Paired (RuA H') as2 rs ∧ ((rs.zip ws).take i2).all (fun r => !(sub r.1.1 s && decide (v > r.2 + (lk fl (jn s r.1.2)).getD 0))) = true)
                    ⟨_, _, _, rfl, x12, ho2, g1, g3, rfl⟩ (fun i2 σ H' hi2 ⟨_, _, _, _, x, _, hh, _⟩ => ⟨SqT.of hh, SqT.of (hPl.hp.ex x)⟩) ?_ ?_
                  · rintro i2 x σ H3 H3' hi2 ⟨v10, v11, v12, rfl, x3, ho3, hh1, hh3, hall2⟩ ⟨z, u1, u2, rfl, hz2, rfl, gg1, gg2⟩
                    obtain ⟨ai, hai, rfl⟩ := at_of gg1
                    obtain ⟨w, hwi, rfl⟩ := at_of gg2
                    obtain ⟨ru, hri, hra⟩ := pair_at hh3 hai
                    have hRi : (rs.zip ws)[i2]? = some (ru, w) := by rw [List.getElem?_zip_eq_some]; exact ⟨hri, hwi⟩
                    have hru := hP.hr ru (List.mem_of_getElem? hri)
                    have xz : Ex T H3 (upd H3 z (.tup [V.ref ai, V.int w])) := Ex.new hz2
                    have x4 := x3.trans xz
                    refine gZip (r := ru) upd_same (hra.im xz.im) fun p1 cc hp1 hcc => ?_
                    have ho4 := ho3.ex xz
                    have hr4 := xz.tup hh1
                    have hh4 := Paired.imp (fun _ _ q => RuA.im q xz.im) hh3
                    generalize upd H3 z (.tup [V.ref ai, V.int w]) = H4 at *
                    refine ⟨_, rfl, _, rfl, p1, o, ru.1, (fun m => decide (m ∈ s)), rfl, hp1, by have := (hru.1.mono hm5).len; omega, Mem.tup ho4, fun H5 x5 => ⟨_, rfl, ?_⟩⟩
                    have hsub : (ru.1.all fun m => decide (m ∈ s)) = sub ru.1 s := rfl
                    rw [hsub]
                    have x45 := x4.trans x5
                    cases e1 : sub ru.1 s with
                    | false =>
                      refine iteF (iteF ⟨_, _, _, rfl, x45, ho4.ex x5, x5.tup hr4, Paired.imp (fun _ _ q => RuA.im q x5.im) hh4, ?_⟩)
                      rw [take_snoc hRi, List.all_append, hall2, List.all_cons, e1]
                      rfl
                    | true =>
                      refine iteT ?_
                      refine ⟨_, rfl, _, rfl, e, _, rfl, hgt x45 (ho4.ex x5), _, rfl, _, rfl, e, rfl, isD_tr (.inr ⟨od, x45.frz hl0⟩), _, rfl, _, rfl, o, cc, s, ru.2, rfl, ho4.ex x5, hcc.ex x5, hs5, hru.2.mono hm5, fun H6 p6 x6 hj => ⟨_, dget_tr (.inr ⟨od, (x45.trans x6).frz hl0⟩) hj, _, _, rfl, getD_int _ _, _, _, rfl, rfl, _, rfl, ?_⟩⟩
                      have x46 := x45.trans x6
                      have x56 := x5.trans x6
                      cases e2 : decide (w + (lk fl (jn s ru.2)).getD 0 < v) with
                      | false =>
                        refine iteF ⟨_, _, _, rfl, x46, ho4.ex x56, x56.tup hr4, Paired.imp (fun _ _ q => RuA.im q x56.im) hh4, ?_⟩
                        rw [take_snoc hRi, List.all_append, hall2, List.all_cons, e1]
                        show (true && (!(true && decide (w + (lk fl (jn s ru.2)).getD 0 < v)) && true)) = true
                        rw [e2]
                        rfl
                      | true =>
                        refine iteT (hfin _ _ x46 (hfail ?_))
                        rw [eF]
                        have : ((rs.zip ws).all fun r => !(sub r.1.1 s && decide (v > r.2 + (lk fl (jn s r.1.2)).getD 0))) = false := by
                          rw [List.all_eq_false]
                          refine ⟨_, List.mem_of_getElem? hRi, ?_⟩
                          show ¬ (!(sub ru.1 s && decide (w + (lk fl (jn s ru.2)).getD 0 < v))) = true
                          rw [e1, e2]
                          decide
                        rw [this, Bool.and_false]
                  · rintro σ H3 ⟨v10, v11, v12, rfl, x3, ho3, _, _, hall2⟩
                    rw [List.take_length] at hall2
                    refine ⟨_, _, _, _, _, rfl, x3, hnext ?_⟩
                    rw [eF, hall2, decide_eq_false h0, Bool.false_or, Bool.and_true]
                    rw [hz]
                    rfl
              · rw [decide_eq_false hv]
                refine iteF (iteF ?_)
                have hz : (decide (v > 0) && sub goal s) = false := by rw [decide_eq_false (p := v > 0) hv, Bool.false_and]
                have x12 := x1
                have ho2 := ho
                obtain ⟨dxb2, r2, hsl2, hrus2⟩ := hPl.bk.ex x12
                obtain ⟨as2, g1, g2, g3⟩ := hrus2.sq
                have hn2 : (rs.zip ws).length = min (as2.map V.ref).length (ws.map V.int).length := by
                  rw [List.length_map, List.length_map, g2, hP.nw, hRl]
                  omega
                refine ⟨_, rfl, b, _, dxb2, _, _, 1, _, rfl, hsl2, G.sclsB, G.slR, rfl, _, rfl, r2, pr, _, _, rfl, .inr ⟨SqT.of g1, SqT.of (hPl.hp.ex x12), ?_⟩⟩
                refine for_it (walk_zipA hn2) (fun i2 σ H' => ∃ v10 v11 v12 : Option V, σ = [some (.ref b), some (.ref a), some (.ref pr), some (.ref gl), some (.ref i), some (.ref e), some (.ref h), some (.int tot), v8, some (.ref o), v10, v11, v12] ∧ Ex T Hl H' ∧ HT H' o s ∧ H' r2 = some (.tup (as2.map V.ref)) ∧ Paired (RuA H') as2 rs ∧ ((rs.zip ws).take i2).all (fun r => !(sub r.1.1 s && decide (v > r.2 + (lk fl (jn s r.1.2)).getD 0))) = true)
                  ⟨_, _, _, rfl, x12, ho2, g1, g3, rfl⟩ (fun i2 σ H' hi2 ⟨_, _, _, _, x, _, hh, _⟩ => ⟨SqT.of hh, SqT.of (hPl.hp.ex x)⟩) ?_ ?_
                · rintro i2 x σ H3 H3' hi2 ⟨v10, v11, v12, rfl, x3, ho3, hh1, hh3, hall2⟩ ⟨z, u1, u2, rfl, hz2, rfl, gg1, gg2⟩
                  obtain ⟨ai, hai, rfl⟩ := at_of gg1
                  obtain ⟨w, hwi, rfl⟩ := at_of gg2
                  obtain ⟨ru, hri, hra⟩ := pair_at hh3 hai
                  have hRi : (rs.zip ws)[i2]? = some (ru, w) := by rw [List.getElem?_zip_eq_some]; exact ⟨hri, hwi⟩
                  have hru := hP.hr ru (List.mem_of_getElem? hri)
                  have xz : Ex T H3 (upd H3 z (.tup [V.ref ai, V.int w])) := Ex.new hz2
                  have x4 := x3.trans xz
                  refine gZip (r := ru) upd_same (hra.im xz.im) fun p1 cc hp1 hcc => ?_
                  have ho4 := ho3.ex xz
                  have hr4 := xz.tup hh1
                  have hh4 := Paired.imp (fun _ _ q => RuA.im q xz.im) hh3
                  generalize upd H3 z (.tup [V.ref ai, V.int w]) = H4 at *
                  refine ⟨_, rfl, _, rfl, p1, o, ru.1, (fun m => decide (m ∈ s)), rfl, hp1, by have := (hru.1.mono hm5).len; omega, Mem.tup ho4, fun H5 x5 => ⟨_, rfl, ?_⟩⟩
                  have hsub : (ru.1.all fun m => decide (m ∈ s)) = sub ru.1 s := rfl
                  rw [hsub]
                  have x45 := x4.trans x5
                  cases e1 : sub ru.1 s with
                  | false =>
                    refine iteF (iteF ⟨_, _, _, rfl, x45, ho4.ex x5, x5.tup hr4, Paired.imp (fun _ _ q => RuA.im q x5.im) hh4, ?_⟩)
                    rw [take_snoc hRi, List.all_append, hall2, List.all_cons, e1]
                    rfl
                  | true =>
                    refine iteT ?_
                    refine ⟨_, rfl, _, rfl, e, _, rfl, hgt x45 (ho4.ex x5), _, rfl, _, rfl, e, rfl, isD_tr (.inr ⟨od, x45.frz hl0⟩), _, rfl, _, rfl, o, cc, s, ru.2, rfl, ho4.ex x5, hcc.ex x5, hs5, hru.2.mono hm5, fun H6 p6 x6 hj => ⟨_, dget_tr (.inr ⟨od, (x45.trans x6).frz hl0⟩) hj, _, _, rfl, getD_int _ _, _, _, rfl, rfl, _, rfl, ?_⟩⟩
                    have x46 := x45.trans x6
                    have x56 := x5.trans x6
                    cases e2 : decide (w + (lk fl (jn s ru.2)).getD 0 < v) with
                    | false =>
                      refine iteF ⟨_, _, _, rfl, x46, ho4.ex x56, x56.tup hr4, Paired.imp (fun _ _ q => RuA.im q x56.im) hh4, ?_⟩
                      rw [take_snoc hRi, List.all_append, hall2, List.all_cons, e1]
                      show (true && (!(true && decide (w + (lk fl (jn s ru.2)).getD 0 < v)) && true)) = true
                      rw [e2]
                      rfl
                    | true =>
                      refine iteT (hfin _ _ x46 (hfail ?_))
                      rw [eF]
                      have : ((rs.zip ws).all fun r => !(sub r.1.1 s && decide (v > r.2 + (lk fl (jn s r.1.2)).getD 0))) = false := by
                        rw [List.all_eq_false]
                        refine ⟨_, List.mem_of_getElem? hRi, ?_⟩
                        show ¬ (!(sub ru.1 s && decide (w + (lk fl (jn s ru.2)).getD 0 < v))) = true
                        rw [e1, e2]
                        decide
                      rw [this, Bool.and_false]
                · rintro σ H3 ⟨v10, v11, v12, rfl, x3, ho3, _, _, hall2⟩
                  rw [List.take_length] at hall2
                  refine ⟨_, _, _, _, _, rfl, x3, hnext ?_⟩
                  rw [eF, hall2, decide_eq_false h0, Bool.false_or, Bool.and_true]
                  rw [hz]
                  rfl
          · rintro σ H1 ⟨v8, v9, v10, v11, v12, rfl, x1, hall⟩
            rw [List.length_map, List.take_length] at hall
            exact hfin _ _ x1 (by rw [eB2, List.all_map]; exact hall)


end
end Pb
set_option Elab.async false
set_option linter.all false
set_option maxRecDepth 100000
set_option maxHeartbeats 4000000
namespace Pb
open PySem PySem.Spec PyProof.Rows L2
/-! ### the draws -/
theorem shaped_li (s : List Int) : SeqAt.shaped (.list (s.map PyData.int)) = true := by
  unfold SeqAt.shaped
  rw [Bool.and_eq_true]
  have hd := depthInts s
  refine ⟨by simp only [PyData.canLay0]; exact canInts s, decide_eq_true ?_⟩
  simp only [PyData.depth]
  omega
theorem eqv_li (s t : List Int) : PyData.eqv (.list (s.map PyData.int)) (.list (t.map PyData.int)) = decide (s = t) := by
  have := eqv_ints s t
  simp only [PyData.eqv] at this ⊢
  exact this
section
variable {T : Tb} {K : PySem.W.Frag} {d b p : Addr} {H H1 : Hp} {o : HO}
theorem Ed.kp (x : Ed T d H H1) (hd : Dr H d) (h : H b = some o) (nl : ∀ xs, o ≠ .lst xs) (nt : ∀ ps, o ≠ .tbl ps) : H1 b = some o := by
  obtain ⟨ns, _, e⟩ := hd
  exact x.all b o (fun q => by rw [q, e] at h; exact nl _ (Option.some.inj h).symm) h nt
theorem Ed.pop {x : Int} {ns : List Int} (h : H d = some (.lst ((x :: ns).map V.int))) (l : (x :: ns).length ≤ 100000) : Ed T d H (upd H d (.lst (ns.map V.int))) :=
  ⟨fun b o n e _ => by rw [upd_ne n]; exact e, fun t => tabs_upd t h (fun _ z => by cases z) (fun c q z => by unfold LamX.CodeO at z; cases z), fun _ => ⟨ns, by rw [List.length_cons] at l; omega, upd_same⟩, Im.mut h trivial⟩
theorem Ed.bk {M : Int} {rs : List Ru} (x : Ed T d H H1) (hd : Dr H d) (h : Bk K H b M rs) : Bk K H1 b M rs := by
  obtain ⟨dx, r, h1, h2⟩ := h
  rcases h1 with ⟨_, z⟩ | ⟨a1, a2⟩
  · cases z
  · exact ⟨dx, r, .inr ⟨x.kp hd a1 (fun xs z => by unfold SlX.SlO at z; cases z) (fun xs z => by unfold SlX.SlO at z; cases z), x.kp hd a2 (fun _ z => by cases z) (fun _ z => by cases z)⟩, h2.im x.im⟩
end
/-- bounds of great ints -/
theorem big_add {c x : Int} {n : Nat} (h20 : 20 ≤ n) (hc : c.natAbs < 2 ^ n) (hx : x.natAbs < 1048576) : (c + x).natAbs < 2 ^ (n + 1) := by
  have h1 : (2 : Nat) ^ 20 ≤ 2 ^ n := Nat.pow_le_pow_right (by decide) h20
  have h2 : (2 : Nat) ^ 20 = 1048576 := by decide
  rw [h2] at h1
  have h3 : (2 : Nat) ^ (n + 1) = 2 ^ n * 2 := Nat.pow_succ 2 n
  rw [h3]
  generalize (2 : Nat) ^ n = t at *
  omega
theorem small_lt {c : Int} {n : Nat} (h20 : 20 ≤ n) (h0 : 0 ≤ c) (hc : c < 1048576) : c.natAbs < 2 ^ n := by
  have h1 : (2 : Nat) ^ 20 ≤ 2 ^ n := Nat.pow_le_pow_right (by decide) h20
  have h2 : (2 : Nat) ^ 20 = 1048576 := by decide
  rw [h2] at h1
  generalize (2 : Nat) ^ n = t at *
  omega
end Pb
namespace Pb
open PySem PySem.Spec PyProof.Rows L2
theorem HT.ed {T : Tb} {d a : Addr} {H H1 : Hp} {s : List Int} (h : HT H a s) (x : Ed T d H H1) : HT H1 a s := h.im x.im
theorem Pr.ed {K : PySem.W.Frag} {T : Tb} {H H' : Hp} {b a pr d : Addr} {M : Int} {rs : List Ru} {th ws : List Int} (p : Pr K H b a pr M rs th ws) (x : Ed T d H H') (hd : Dr H d) : Pr K H' b a pr M rs th ws := { p with bk := x.bk hd p.bk, ht := p.ht.ed x, hp := p.hp.ed x }
end Pb
set_option Elab.async false
set_option linter.all false
set_option maxRecDepth 100000
set_option maxHeartbeats 4000000

namespace Pb
open PySem PySem.Spec PyProof.Rows L2
section
variable {P : Program} {w : World} {K : PySem.W.Frag} {mg : Str → Option Value} {base : Heap} {T : Tb}

theorem ne_of_none' {H : Hp} {b d : Addr} (h : H b = none) (hd : Dr H d) : b ≠ d := by
  obtain ⟨ns, _, e⟩ := hd
  intro q
  rw [q, e] at h
  cases h
theorem ix_seqK {K : PySem.W.Frag} {X : Cx} (e : X.K = K) : IxR X (rIx K) := by
  rw [← e]
  exact ix_seq
def spDraw (T : Tb) : Sp := fun vs H Q _ => ∃ c k m : Int, vs = [.int c, .int k, .int m] ∧ 0 < m ∧ ∀ H' r, Ex T H H' → 0 ≤ r → r < m → Q (.int r) H'
def primes : List Int := [1000003, 1000033, 1000037, 1000039, 1000081, 1000099, 1000117, 1000121, 1000133, 1000151, 1000159, 1000171, 1000183, 1000187, 1000193, 1000199]
theorem prime_at (k : Int) : ∃ p : Int, 0 < p ∧ atI (primes.map V.int) (k % 16) = some (.int p) := by
  have h0 : 0 ≤ k % 16 := Int.emod_nonneg _ (by decide)
  have h1 : k % 16 < 16 := Int.emod_lt_of_pos _ (by decide)
  generalize k % 16 = i at *
  have hi : i.toNat < primes.length := by show i.toNat < 16; omega
  have all : ∀ p ∈ primes, 0 < p := by decide
  refine ⟨primes[i.toNat], all _ (List.getElem_mem hi), ?_⟩
  have e : ((i.toNat : Nat) : Int) = i := by omega
  have h : (primes.map V.int)[i.toNat]? = some (.int primes[i.toNat]) := by rw [List.getElem?_map, List.getElem?_eq_getElem hi]; rfl
  have := atI_nat h
  rw [e] at this
  exact this
/-- a script: ints below 2 ^ n -/
def Scr (H : Hp) (a : Addr) (n : Nat) : Prop := ∃ ns : List Int, H a = some (.lst (ns.map V.int)) ∧ 20 ≤ n ∧ n ≤ 2000000 ∧ ns.length ≤ 100000 ∧ ∀ x ∈ ns, x.natAbs < 2 ^ n
theorem Scr.ex {H H' : Hp} {a : Addr} {n : Nat} (h : Scr H a n) (x : Ex T H H') : Scr H' a n := by
  obtain ⟨ns, h1, h2⟩ := h
  exact ⟨ns, x.lst h1, h2⟩
def spCellAt (T : Tb) : Sp := fun vs H Q _ => ∃ (a : Addr) (k : Int) (n : Nat), vs = [.ref a, .int k] ∧ Scr H a n ∧ 0 ≤ k ∧ k < 1000 ∧ ∀ H' c, Ex T H H' → c.natAbs < 2 ^ n → Q (.int c) H'
def spDigits (T : Tb) : Sp := fun vs H Q _ => ∃ (a : Addr) (k m g : Int) (n : Nat), vs = [.ref a, .int k, .int m, .int g] ∧ Scr H a n ∧ 0 ≤ k ∧ k < 1000 ∧ 0 ≤ m ∧ m ≤ 1000 ∧ 0 < g ∧ g < 1073741824 ∧ ∀ H' l (ds : List Int), Ex T H H' → H' l = some (.lst (ds.map V.int)) → ds.length = m.toNat → Q (.ref l) H'
def spTake (T : Tb) : Sp := fun vs H Q _ => ∃ (d : Addr) (m : Int), vs = [.ref d, .int m] ∧ Dr H d ∧ 0 < m ∧ ∀ H' r, Ed T d H H' → 0 ≤ r → r < m → Q (.int r) H'
def spPool (T : Tb) : Sp := fun vs H Q _ => ∃ (a g : Addr) (gs : List Int) (n : Nat), vs = [.ref a, .ref g] ∧ Scr H a n ∧ HT H g gs ∧ gs.length ≤ 100 ∧ (∀ x ∈ gs, 0 < x ∧ x < 1073741824) ∧ ∀ H' d, Ex T H H' → Dr H' d → Q (.ref d) H'
def spPick (T : Tb) (K : PySem.W.Frag) : Sp := fun vs H Q _ => ∃ (d t : Addr) (xs : List V), vs = [.ref d, .ref t] ∧ Dr H d ∧ (H t = some (.tup xs) ∨ (H t = some (.lst xs) ∧ t ≠ d)) ∧ 0 < xs.length ∧ xs.length < 1000000 ∧ ∀ H' v, Ed T d H H' → v ∈ xs → Q v H'
def spSet (T : Tb) : Sp := fun vs H Q _ => ∃ (d : Addr) (M m : Int), vs = [.ref d, .int M, .int m] ∧ Dr H d ∧ 0 ≤ M ∧ M ≤ 5 ∧ 0 < m ∧ ∀ H' a s, Ed T d H H' → HT H' a s → IsS M s → Q (.ref a) H'
def spRules (T : Tb) : Sp := fun vs H Q _ => ∃ (d : Addr) (M m : Int), vs = [.ref d, .int M, .int m] ∧ Dr H d ∧ 0 ≤ M ∧ M ≤ 5 ∧ 0 ≤ m ∧ m ≤ 100 ∧ ∀ H' r (rs : List Ru), Ed T d H H' → Rus H' r rs → (rs.length : Int) ≤ m → (∀ r ∈ rs, IsS M r.1 ∧ IsS M r.2) → Q (.ref r) H'

abbrev N_law_draw : List Str := ["_law_cell", "_law_k", "_law_many", "_law_primes"]
theorem sc_law_draw : FnScope N_law_draw ["_law_cell", "_law_k", "_law_many"] (defScope sLDraw) := ⟨rfl, rfl, rfl, by decide +kernel, rfl, by decide +kernel, by decide +kernel⟩
theorem c_law_draw (G : Gx K mg) : C8.Cal P w K mg base 1 "_law_draw" (spDraw T) [] := by
  refine calOf G 19 rfl rfl sc_law_draw (fun _ _ _ _ _ _ us hl => match us, hl with | [_, _, _], _ => rfl) (fun vs H Q E h => ?_) (fun f cdv A outer s H vs Q E hr h => ?_)
  · obtain ⟨c, k, m, rfl, hm, q⟩ := h
    rfl
  · obtain ⟨c, k, m, rfl, hm, q⟩ := h
    refine ⟨_, (pss_cons (ps_set (i := 3) sc_law_draw.nd rfl (Or.inl rfl) (pe_tup (pa_cons pe_int (pa_cons pe_int (pa_cons pe_int (pa_cons pe_int (pa_cons pe_int (pa_cons pe_int (pa_cons pe_int (pa_cons pe_int (pa_cons pe_int (pa_cons pe_int (pa_cons pe_int (pa_cons pe_int (pa_cons pe_int (pa_cons pe_int (pa_cons pe_int (pa_cons pe_int pa_nil))))))))))))))))))
      (pss_one (ps_ret (pe_op op_mod (pe_callTy call_int1 (by rfl) G.b_int (by decide +kernel) (pa_cons (pe_op op_mod (pe_callTy call_int1 (by rfl) G.b_int (by decide +kernel) (pa_cons (pe_op op_add (pe_op op_mul (pv 0) pe_int) (pe_op op_mul (pv 1) pe_int)) pa_nil)) (pe_ix (ix_tupK (K := K) rfl) (pv 3) (pe_op op_mod (pv 1) pe_int) (fun _ _ => rfl))) pa_nil)) (pv 2))))), ?_⟩
    obtain ⟨p, hp, hat⟩ := prime_at k
    refine ⟨by show 16 ≤ sizeLine; decide, fun a ha => ?_⟩
    have hs : (upd H a (.tup (primes.map V.int))) a = some (.tup (primes.map V.int)) := upd_same
    refine ⟨_, rfl, c, 48271, rfl, rfl, .inr (by decide), _, rfl, k, 69621, rfl, rfl, .inr (by decide), _, _, rfl, rfl, .inl ⟨_, rfl, _, rfl, _, rfl, k, 16, rfl, rfl, (show (0 : Int) < 16 by decide), a, _, _, .int p, rfl, rfl, SqT.of hs, hat, _, p, rfl, rfl, hp, .inl ⟨_, rfl, _, rfl, _, m, rfl, rfl, hm, ?_⟩⟩⟩
    exact q _ _ (Ex.new ha) (Int.emod_nonneg _ (by omega)) (Int.emod_lt_of_pos _ hm)


abbrev N_law_cell_at : List Str := ["_law_script", "_law_k"]
theorem sc_law_cell_at : FnScope N_law_cell_at ["_law_script", "_law_k"] (defScope sLCellAt) := ⟨rfl, rfl, rfl, by decide +kernel, rfl, by decide +kernel, by decide +kernel⟩
theorem c_law_cell_at (G : Gx K mg) : C8.Cal P w K mg base 2 "_law_cell_at" (spCellAt T) [] := by
  refine calOf G 20 rfl rfl sc_law_cell_at (fun _ _ _ _ _ _ us hl => match us, hl with | [_, _], _ => rfl) (fun vs H Q E h => ?_) (fun f cdv A outer s H vs Q E hr h => ?_)
  · obtain ⟨a, k, n, rfl, hs, h0, h1, q⟩ := h
    rfl
  · obtain ⟨a, k, n, rfl, hs, h0, h1, q⟩ := h
    refine ⟨_, (pss_cons (ps_if (pt_cmpR op_lt (pv 1) (pe_callB call_len_seq (by rfl) G.b_len (by decide +kernel) (pa_cons (pv 0) pa_nil)) (nomark _))
        (pss_one (ps_ret (pe_callB call_abs (by rfl) G.b_abs (by decide +kernel) (pa_cons (pe_ix (ix_listK (K := K) rfl) (pv 0) (pv 1) (fun _ _ => rfl)) pa_nil)))) pss_nil)
      (pss_one (ps_ret (C8.pe_c (c_law_draw (T := T) G) hr (by decide) (by rfl) (pa_cons (pe_op op_add (pe_callB call_abs (by rfl) G.b_abs (by decide +kernel) (pa_cons (pe_callB (cr_sum rfl) (by rfl) G.b_sum (by decide +kernel) (pa_cons (pv 0) pa_nil)) pa_nil)) (pe_op op_mul pe_int (pv 1))) (pa_cons (pv 1) (pa_cons pe_int pa_nil))))))), ?_⟩
    obtain ⟨ns, hl, n0, n1, nl, hb⟩ := hs
    refine ⟨_, rfl, _, rfl, a, _, rfl, .inl (SqL.of hl), _, _, rfl, rfl, _, rfl, ?_⟩
    rw [List.length_map]
    by_cases hk : k < (ns.length : Int)
    · rw [decide_eq_true hk]
      refine iteT ?_
      have hk2 : k.toNat < ns.length := by omega
      have e : ((k.toNat : Nat) : Int) = k := by omega
      have hat : atI (ns.map V.int) k = some (.int ns[k.toNat]) := by
        have h : (ns.map V.int)[k.toNat]? = some (.int ns[k.toNat]) := by rw [List.getElem?_map, List.getElem?_eq_getElem hk2]; rfl
        have := atI_nat h
        rw [e] at this
        exact this
      refine ⟨_, rfl, _, rfl, a, _, k, .int ns[k.toNat], rfl, rfl, SqL.of hl, hat, _, rfl, ?_⟩
      refine q _ _ (Ex.refl T H) ?_
      have := hb _ (List.getElem_mem hk2)
      have e2 : (if ns[k.toNat] < 0 then -ns[k.toNat] else ns[k.toNat]).natAbs = ns[k.toNat].natAbs := by
        split
        · exact Int.natAbs_neg _
        · rfl
      rw [e2]
      exact this
    · rw [decide_eq_false hk]
      refine iteF ?_
      refine ⟨_, rfl, a, _, rfl, SqL.of hl, _, rfl, _, rfl, 7919, k, rfl, rfl, .inl (by decide), _, _, rfl, rfl, _, rfl, _, k, 999983, rfl, by decide, fun H' r x r0 r1 => q _ _ x (small_lt n0 r0 (by omega))⟩


abbrev N_law_digits : List Str := ["_law_script", "_law_at", "_law_many", "_law_base", "_law_cell", "_law_found", "_law_left", "_law_turn", "_law_blend", "_law_more"]
theorem sc_law_digits : FnScope N_law_digits ["_law_script", "_law_at", "_law_many", "_law_base"] (defScope sLDigits) := ⟨rfl, rfl, rfl, by decide +kernel, rfl, by decide +kernel, by decide +kernel⟩
theorem c_law_digits (G : Gx K mg) : C8.Cal P w K mg base 3 "_law_digits" (spDigits T) [] := by
  refine calOf G 21 rfl rfl sc_law_digits (fun _ _ _ _ _ _ us hl => match us, hl with | [_, _, _, _], _ => rfl) (fun vs H Q E h => ?_) (fun f cdv A outer s H vs Q E hr h => ?_)
  · obtain ⟨a, k, m, g, n, rfl, hs, h0, h1, m0, m1, g0, g1, q⟩ := h
    rfl
  · obtain ⟨a, k, m, g, n, rfl, hs, h0, h1, m0, m1, g0, g1, q⟩ := h
    refine ⟨_, (pss_cons (ps_par (i := 4) (j := 5) rfl sc_law_digits.nd rfl rfl (by decide) rfl rfl (pa_cons (C8.pe_c (c_law_cell_at (T := T) G) hr (by decide) (by rfl) (pa_cons (pv 0) (pa_cons (pv 1) pa_nil))) (pa_cons (pe_lst pa_nil) pa_nil)) (by rfl))
      (pss_cons (ps_set (i := 6) sc_law_digits.nd rfl (Or.inl rfl) (pe_op op_sub (pv 4) (pe_op op_pow pe_int pe_int)))
      (pss_cons (ps_for PassesOwn.never rfl (pi_range1 (by rfl) G.b_range (pa_cons (pv 2) pa_nil)) (pg_name (i := 7) sc_law_digits.nd rfl (Or.inl rfl))
        (pss_one (ps_if (pt_cmpR op_gt (pv 6) pe_int (nomark _))
            (pss_cons (ps_expr (pe_bm PySem.F.plainAttrs_list PySem.F.slot_list_append PySem.F.type_list_append mt_append (pv 5) (pa_cons (pe_op op_mod (pe_callTy call_int1 (by rfl) G.b_int (by decide +kernel) (pa_cons (pv 6) pa_nil)) (pv 3)) pa_nil)))
              (pss_one (ps_set (i := 6) sc_law_digits.nd rfl (Or.inl rfl) (pe_op op_fdiv (pv 6) (pv 3))))) (pss_cons (ps_set (i := 8) sc_law_digits.nd rfl (Or.inl rfl) (C8.pe_c (c_law_draw (T := T) G) hr (by decide) (by rfl) (pa_cons (pe_op op_mulX (pe_op op_add (pv 4) (pe_op op_mul pe_int (pv 7))) (pe_op op_add (pe_op op_add (pv 4) (pe_op op_mul pe_int (pv 7))) pe_int)) (pa_cons (pe_op op_add (pe_op op_mod (pv 7) pe_int) pe_int) (pa_cons pe_int pa_nil)))))
              (pss_cons (ps_set (i := 9) sc_law_digits.nd rfl (Or.inl rfl) (C8.pe_c (c_law_draw (T := T) G) hr (by decide) (by rfl) (pa_cons (pe_op op_add (pe_op op_mulX (pe_op op_add (pv 4) (pe_op op_mul pe_int (pv 7))) (pe_op op_add (pv 4) pe_int)) (pe_op op_mul pe_int (pv 7))) (pa_cons (pe_op op_add (pe_op op_mod (pv 7) pe_int) pe_int) (pa_cons pe_int pa_nil)))))
              (pss_one (ps_expr (pe_bm PySem.F.plainAttrs_list PySem.F.slot_list_append PySem.F.type_list_append mt_append (pv 5) (pa_cons (pe_op op_mod (pe_callTy call_int1 (by rfl) G.b_int (by decide +kernel) (pa_cons (pe_op op_add (pe_op op_mul (pv 8) pe_int) (pv 9)) pa_nil)) (pv 3)) pa_nil)))))))))
      (pss_one (ps_ret (pv 5)))))), ?_⟩
    refine ⟨_, rfl, _, rfl, a, k, n, rfl, hs, h0, h1, fun H1 c x1 hc => ?_⟩
    refine ⟨by show 0 ≤ sizeLine; exact Nat.zero_le _, fun l hl => ?_⟩
    refine ⟨_, _, rfl, ?_⟩
    refine ⟨_, rfl, 10, 18, rfl, rfl, ⟨by decide, by decide, by decide⟩, _, _, rfl, rfl, ?_⟩
    obtain ⟨ns, hsl, n0, n1, nl, hb⟩ := hs
    have hl0 := NT.new x1 hl
    have x2 : Ex T H (upd H1 l (.lst [])) := x1.push hl
    refine ⟨_, rfl, m, rfl, by omega, by omega, ?_⟩
    refine for_it (n := m.toNat) walk_range (fun i σ H' => ∃ (left : Int) (ds : List Int) (v7 v8 v9 : Option V), σ = [some (.ref a), some (.int k), some (.int m), some (.int g), some (.int c), some (.ref l), some (.int left), v7, v8, v9] ∧ Ex T H H' ∧ H' l = some (.lst (ds.map V.int)) ∧ ds.length = i)
      ⟨_, [], none, none, none, rfl, x2, upd_same, rfl⟩ (fun _ _ _ _ _ => trivial) ?_ ?_
    · rintro i x σ H3 H3' hi ⟨left, ds, v7, v8, v9, rfl, x3, hds, hlen⟩ ⟨rfl, rfl⟩
      have e0 : (0 : Int) + (i : Int) = i := by omega
      dsimp only
      rw [e0]
      have hz : (ds.map V.int).length < sizeLine := by
        rw [List.length_map]
        exact Nat.lt_of_lt_of_le (by omega : _ < 1001) (by decide)
      have fin : ∀ (H4 : Hp) (r left' : Int) (v8 v9 : Option V), Ex T H3' H4 → (∃ (left : Int) (ds' : List Int) (v7 v8' v9' : Option V), ([some (.ref a), some (.int k), some (.int m), some (.int g), some (.int c), some (.ref l), some (.int left'), some (.int (i : Int)), v8, v9] : L2.St) = [some (.ref a), some (.int k), some (.int m), some (.int g), some (.int c), some (.ref l), some (.int left), v7, v8', v9'] ∧ Ex T H (upd H4 l (.lst (ds.map V.int ++ [.int r]))) ∧ (upd H4 l (.lst (ds.map V.int ++ [.int r]))) l = some (.lst (ds'.map V.int)) ∧ ds'.length = i + 1) := fun H4 r left' v8 v9 x4 =>
        ⟨left', ds ++ [r], _, _, _, rfl, Ex.mut (x3.trans x4) hl0 (x4.lst hds) trivial, by rw [upd_same, List.map_append]; rfl, by rw [List.length_append, hlen]; rfl⟩
      refine ⟨_, rfl, _, _, rfl, rfl, _, rfl, ?_⟩
      by_cases hp : 0 < left
      · rw [decide_eq_true hp]
        refine iteT ?_
        refine ⟨_, rfl, .inl ⟨rfl, _, SqL.of hds⟩, _, rfl, .inl ⟨_, rfl, _, rfl, _, g, rfl, rfl, g0, l, _, _, rfl, rfl, hds, hz, ?_⟩⟩
        refine ⟨_, rfl, _, rfl, _, g, rfl, rfl, ⟨g0, g1⟩, ?_⟩
        exact fin _ _ _ _ _ (Ex.refl T H3')
      · rw [decide_eq_false hp]
        refine iteF ?_
        have hi2 : (i : Int) < 1000 := by omega
        refine ⟨_, rfl, _, rfl, 977, (i : Int), rfl, rfl, .inl (by decide), c, _, rfl, rfl, _, rfl, _, rfl, 31, (i : Int), rfl, rfl, .inl (by decide), c, _, rfl, rfl, _, 5, rfl, rfl, _, _, rfl, rfl, mulx_ok (a := n + 1) (b := n + 2) (big_add n0 hc (by omega)) (big_add (by omega) (big_add n0 hc (by omega)) (by decide)) (by omega), _, rfl, _, 9, rfl, rfl, (show (0 : Int) < 9 by decide), _, 1, rfl, rfl, _, _, _, rfl, by decide, fun H4 r x4 r0 r1 => ?_⟩
        refine ⟨_, rfl, _, rfl, 31, (i : Int), rfl, rfl, .inl (by decide), c, _, rfl, rfl, _, rfl, c, 7, rfl, rfl, _, _, rfl, rfl, mulx_ok (a := n + 1) (b := n + 1) (big_add n0 hc (by omega)) (big_add n0 hc (by decide)) (by omega), _, rfl, 977, (i : Int), rfl, rfl, .inl (by decide), _, _, rfl, rfl, _, rfl, _, 7, rfl, rfl, (show (0 : Int) < 7 by decide), _, 2, rfl, rfl, _, _, _, rfl, by decide, fun H5 r' x5 r0' r1' => ?_⟩
        have hd5 := x5.lst (x4.lst hds)
        refine ⟨_, rfl, .inl ⟨rfl, _, SqL.of hd5⟩, _, rfl, _, 1000003, rfl, rfl, .inr (by decide), _, rfl, _, _, rfl, rfl, .inl ⟨_, rfl, _, rfl, _, g, rfl, rfl, g0, l, _, _, rfl, rfl, hd5, hz, ?_⟩⟩
        exact fin _ _ _ _ _ (x4.trans x5)
    · rintro σ H3 ⟨left, ds, v7, v8, v9, rfl, x3, hds, hlen⟩
      exact ⟨_, rfl, q _ l ds x3 hds hlen⟩


abbrev N_law_take : List Str := ["_law_draws", "_law_many"]
theorem sc_law_take : FnScope N_law_take ["_law_draws", "_law_many"] (defScope sLTake) := ⟨rfl, rfl, rfl, by decide +kernel, rfl, by decide +kernel, by decide +kernel⟩
theorem c_law_take (G : Gx K mg) : C8.Cal P w K mg base 1 "_law_take" (spTake T) [] := by
  refine calOf G 22 rfl rfl sc_law_take (fun _ _ _ _ _ _ us hl => match us, hl with | [_, _], _ => rfl) (fun vs H Q E h => ?_) (fun f cdv A outer s H vs Q E hr h => ?_)
  · obtain ⟨d, m, rfl, hd, hm, q⟩ := h
    rfl
  · obtain ⟨d, m, rfl, hd, hm, q⟩ := h
    refine ⟨_, (pss_one (ps_ret (pe_ifExp (pt_cmpR (op_neD hr.units) (pv 0) (pe_lst pa_nil) (nomark _)) (pe_op op_mod (pe_callTy call_int1 (by rfl) G.b_int (by decide +kernel) (pa_cons (pe_bm PySem.F.plainAttrs_list PySem.F.slot_list_pop PySem.F.type_list_pop mt_popAt (pv 0) (pa_cons pe_int pa_nil)) pa_nil)) (pv 1)) pe_int))), ?_⟩
    obtain ⟨ns, nl, hns⟩ := id hd
    refine ⟨_, rfl, by show 0 ≤ sizeLine; exact Nat.zero_le _, fun e he => ?_⟩
    have x1 : Ex T H (upd H e (.lst [])) := Ex.new he
    have hns1 := x1.lst hns
    have he1 : (upd H e (.lst [])) e = some (.lst []) := upd_same
    generalize upd H e (.lst []) = H1 at *
    refine ⟨_, _, .lst (SqL.of hns1) (dpInts K H1 _), .lst (SqL.of he1) .nil, shaped_li _, shaped_li [], _, rfl, ?_⟩
    rw [show PyData.eqv (.list (ns.map PyData.int)) (.list []) = decide (ns = []) from eqv_li ns []]
    cases ns with
    | nil =>
      refine iteF ?_
      exact q _ _ (Ed.of x1) (Int.le_refl _) hm
    | cons y ns =>
      refine iteT ?_
      refine ⟨_, rfl, .inl ⟨rfl, _, SqL.of hns1⟩, d, _, 0, 0, .int y, rfl, rfl, hns1, by decide, by decide, by simp [seqIndex?], rfl, .inl ⟨_, rfl, _, rfl, _, m, rfl, rfl, hm, ?_⟩⟩
      exact q _ _ ((Ed.of x1).trans (Ed.pop hns1 nl)) (Int.emod_nonneg _ (by omega)) (Int.emod_lt_of_pos _ hm)


abbrev N_law_pool : List Str := ["_law_script", "_law_grounds", "_law_found", "_law_at", "_law_base"]
theorem sc_law_pool : FnScope N_law_pool ["_law_script", "_law_grounds"] (defScope sLPool) := ⟨rfl, rfl, rfl, by decide +kernel, rfl, by decide +kernel, by decide +kernel⟩
theorem c_law_pool (G : Gx K mg) : C8.Cal P w K mg base 4 "_law_pool" (spPool T) [] := by
  refine calOf G 23 rfl rfl sc_law_pool (fun _ _ _ _ _ _ us hl => match us, hl with | [_, _], _ => rfl) (fun vs H Q E h => ?_) (fun f cdv A outer s H vs Q E hr h => ?_)
  · obtain ⟨a, g, gs, n, rfl, hs, hg, gl, hgs, q⟩ := h
    rfl
  · obtain ⟨a, g, gs, n, rfl, hs, hg, gl, hgs, q⟩ := h
    refine ⟨_, (pss_cons (ps_set (i := 2) sc_law_pool.nd rfl (Or.inl rfl) (pe_lst pa_nil))
      (pss_cons (ps_for PassesOwn.never rfl (pi_enumT (by rfl) G.b_enumerate (pa_cons (pv 1) pa_nil)) (pg_tup rfl (pgs_cons (pg_name (i := 3) sc_law_pool.nd rfl (Or.inl rfl)) (pgs_cons (pg_name (i := 4) sc_law_pool.nd rfl (Or.inl rfl)) pgs_nil)))
        (pss_one (ps_set (i := 2) sc_law_pool.nd rfl (Or.inl rfl) (pe_op op_cat (pv 2) (C8.pe_c (c_law_digits (T := T) G) hr (by decide) (by rfl) (pa_cons (pv 0) (pa_cons (pv 3) (pa_cons pe_int (pa_cons (pv 4) pa_nil)))))))))
      (pss_one (ps_ret (pv 2))))), ?_⟩
    refine ⟨by show 0 ≤ sizeLine; exact Nat.zero_le _, fun l hl => ?_⟩
    have x0 : Ex T H (upd H l (.lst [])) := Ex.new hl
    refine ⟨_, rfl, g, _, rfl, SqT.of (hg.ex x0), ?_⟩
    refine for_it (walk_enumT (xs := gs.map V.int)) (fun i σ H' => ∃ (l : Addr) (ds : List Int) (v3 v4 : Option V), σ = [some (.ref a), some (.ref g), some (.ref l), v3, v4] ∧ Ex T H H' ∧ H' l = some (.lst (ds.map V.int)) ∧ ds.length = 120 * i)
      ⟨l, [], none, none, rfl, x0, upd_same, rfl⟩ (fun i σ H' hi ⟨_, _, _, _, _, x, _⟩ => SqT.of (hg.ex x)) ?_ ?_
    · rintro i x σ H3 H3' hi ⟨l, ds, v3, v4, rfl, x3, hds, hlen⟩ ⟨z, u1, u2, rfl, hz, rfl, gg1, gg2⟩
      obtain rfl : V.int (i : Int) = u1 := Option.some.inj gg1
      obtain ⟨b, hb, rfl⟩ := at_of gg2
      rw [List.length_map] at hi
      obtain ⟨b0, b1⟩ := hgs b (List.mem_of_getElem? hb)
      have xz : Ex T H3 (upd H3 z (.tup [V.int i, V.int b])) := Ex.new hz
      refine ⟨z, _, rfl, SqT.of upd_same, rfl, _, _, rfl, _, _, rfl, rfl, ?_⟩
      have hd4 := xz.lst hds
      have hs4 := hs.ex (x3.trans xz)
      generalize upd H3 z (.tup [V.int i, V.int b]) = H4 at *
      refine ⟨_, rfl, _, rfl, _, rfl, _, rfl, a, (i : Int), 120, b, n, rfl, hs4, by omega, by omega, by decide, by decide, b0, b1, fun H5 l2 es x5 hl2 hes => ?_⟩
      have hd5 := x5.lst hd4
      refine ⟨l, l2, _, _, rfl, rfl, hd5, hl2, ?_, fun p hp => ?_⟩
      · rw [List.length_map, List.length_map, hes, hlen]
        exact Nat.le_trans (show 120 * i + 120 ≤ 100000 by omega) (by decide)
      · have x6 : Ex T H (upd H5 p (.lst (ds.map V.int ++ es.map V.int))) := ((x3.trans xz).trans x5).push hp
        refine ⟨p, ds ++ es, _, _, rfl, x6, by rw [upd_same, List.map_append], ?_⟩
        · rw [List.length_append, hes, hlen]
          show 120 * i + 120 = _
          omega
    · rintro σ H3 ⟨l, ds, v3, v4, rfl, x3, hds, hlen⟩
      rw [List.length_map] at hlen
      exact ⟨_, rfl, q _ l x3 ⟨ds, by omega, hds⟩⟩


abbrev N_law_pick : List Str := ["_law_draws", "_law_things"]
theorem sc_law_pick : FnScope N_law_pick ["_law_draws", "_law_things"] (defScope sLPick) := ⟨rfl, rfl, rfl, by decide +kernel, rfl, by decide +kernel, by decide +kernel⟩
theorem c_law_pick (G : Gx K mg) : C8.Cal P w K mg base 2 "_law_pick" (spPick T K) [] := by
  refine calOf G 24 rfl rfl sc_law_pick (fun _ _ _ _ _ _ us hl => match us, hl with | [_, _], _ => rfl) (fun vs H Q E h => ?_) (fun f cdv A outer s H vs Q E hr h => ?_)
  · obtain ⟨d, t, xs, rfl, hd, ht, h0, h1, q⟩ := h
    rfl
  · obtain ⟨d, t, xs, rfl, hd, ht, h0, h1, q⟩ := h
    refine ⟨_, (pss_one (ps_ret (pe_ix (ix_seqK (K := K) rfl) (pv 1) (C8.pe_c (c_law_take (T := T) G) hr (by decide) (by rfl) (pa_cons (pv 0) (pa_cons (pe_callB call_len_seq (by rfl) G.b_len (by decide +kernel) (pa_cons (pv 1) pa_nil)) pa_nil))) (fun _ _ => rfl)))), ?_⟩
    have hlen : ∀ {H' : Hp} {Q : VK}, Q (.int (xs.length : Int)) H' → Q (.int (xs.length : Int)) H' := fun h => h
    refine ⟨_, rfl, _, rfl, _, rfl, t, xs, rfl, ?_, d, (xs.length : Int), rfl, hd, by omega, fun H1 r x1 r0 r1 => ?_⟩
    · rcases ht with ht | ⟨ht, _⟩
      · exact .inr (SqT.of ht)
      · exact .inl (SqL.of ht)
    have hk2 : r.toNat < xs.length := by omega
    have e : ((r.toNat : Nat) : Int) = r := by omega
    have hat : atI xs r = some xs[r.toNat] := by
      have := atI_nat (List.getElem?_eq_getElem hk2)
      rw [e] at this
      exact this
    have hq := q H1 xs[r.toNat] x1 (List.getElem_mem hk2)
    rcases ht with ht | ⟨ht, hn⟩
    · exact .inr (.inl ⟨t, xs, r, _, rfl, rfl, SqT.of (x1.im _ _ ht), hat, hq⟩)
    · exact .inl ⟨t, xs, r, _, rfl, rfl, SqL.of (x1.all t _ hn ht (fun _ z => by cases z)), hat, hq⟩


abbrev N_law_set : List Str := ["_law_draws", "_law_marks", "_law_often", "_law_mark"]
theorem sc_law_set : FnScope N_law_set ["_law_draws", "_law_marks", "_law_often"] (defScope sLSet) := ⟨rfl, rfl, rfl, by decide +kernel, rfl, by decide +kernel, by decide +kernel⟩
theorem c_law_set (G : Gx K mg) : C8.Cal P w K mg base 2 "_law_set" (spSet T) [] := by
  refine calOf G 27 rfl rfl sc_law_set (fun _ _ _ _ _ _ us hl => match us, hl with | [_, _, _], _ => rfl) (fun vs H Q E h => ?_) (fun f cdv A outer s H vs Q E hr h => ?_)
  · obtain ⟨d, M, m, rfl, hd, h0, h5, hm, q⟩ := h
    rfl
  · obtain ⟨d, M, m, rfl, hd, h0, h5, hm, q⟩ := h
    refine ⟨_, (pss_one (ps_ret (pe_callTy call_tuple_of (by rfl) G.b_tuple (by decide +kernel) (pa_cons (pe_lc (own := [("_law_mark", 3)]) (g := gName 3) rfl sc_law_set.nd (pi_range1 (by rfl) G.b_range (pa_cons (pv 1) pa_nil)) (blkOk_by (own := [("_law_mark", 3)]) (N := N_law_set) (sc := defScope sLSet) (by decide +kernel)) (fun _ _ _ _ _ => (pg_name (i := 3) sc_law_set.nd rfl (Or.inl rfl))) (fun _ _ _ _ _ => pts_one (pt_cmpR op_eq (C8.pe_c (c_law_take (T := T) G) hr (by decide) (by rfl) (pa_cons (pv 0) (pa_cons (pv 2) pa_nil))) pe_int (nomark _))) (fun _ _ _ _ _ => (pv 3))) pa_nil)))), ?_⟩
    refine ⟨_, rfl, M, rfl, by omega, by omega, fun D hD => ?_⟩
    have hDd : D ≠ d := ne_of_none' hD hd
    refine lc_any (roEd T d) hDd (walk_range (lo := 0) (n := M.toNat)) (ds := List.range M.toNat) (by rw [List.length_range]) (by omega) hD (fun _ _ => trivial) (fun _ _ _ _ _ _ y => Ed.of (yfn_ex y)) (fun _ _ => True)
      (fun (j : Nat) v _ => v = V.int (j : Int)) (fun _ _ _ _ _ h => h) ?_ ?_
    · intro i j v Hx Hy hj x y z S hS
      obtain ⟨rfl, rfl⟩ := z
      have hji : j = i := by
        rw [List.getElem?_range] at hj
        · exact (Option.some.inj hj).symm
        · have := (List.getElem?_eq_some_iff.mp hj).1
          rw [List.length_range] at this
          exact this
      subst hji
      refine hS _ rfl (fun Hz xz Q3 k3 => ?_) (fun _ Hz xz Q3 k3 => ?_)
      · exact ⟨_, rfl, _, rfl, d, m, rfl, (y.trans xz).dr hd, hm, fun Hw r xw r0 r1 => ⟨rfl, _, rfl, k3 _ _ xw trivial⟩⟩
      · exact ⟨_, rfl, k3 _ _ (Ed.of (Ex.refl T _)) (by show V.int (0 + (j : Int)) = V.int (j : Int); rw [Int.zero_add])⟩
    · intro acc es H2 x2 hD2 hsub _ _ hp
      have hacc : acc = (es.map fun j : Nat => (j : Int)).map V.int := by
        rw [paired_map hp, List.map_map]
        rfl
      refine ⟨D, acc, rfl, .inl ⟨SqL.of hD2, fun l hl => ?_⟩⟩
      refine q _ l (es.map fun j : Nat => (j : Int)) (x2.trans (Ed.of (Ex.new hl))) (by unfold HT; rw [upd_same, hacc]) ⟨fun z hz => ?_, ?_⟩
      · obtain ⟨j, hj, rfl⟩ := List.mem_map.mp hz
        have := List.mem_range.mp (hsub.mem hj)
        omega
      · have : es.Pairwise (· < ·) := List.Pairwise.sublist hsub List.pairwise_lt_range
        rw [List.pairwise_map]
        exact this.imp fun h => by omega


abbrev N_law_rules : List Str := ["_law_draws", "_law_marks", "_law_most", "_law_found", "_law_turn", "_law_premise"]
theorem sc_law_rules : FnScope N_law_rules ["_law_draws", "_law_marks", "_law_most"] (defScope sLRules) := ⟨rfl, rfl, rfl, by decide +kernel, rfl, by decide +kernel, by decide +kernel⟩
theorem c_law_rules (G : Gx K mg) : C8.Cal P w K mg base 3 "_law_rules" (spRules T) [] := by
  refine calOf G 28 rfl rfl sc_law_rules (fun _ _ _ _ _ _ us hl => match us, hl with | [_, _, _], _ => rfl) (fun vs H Q E h => ?_) (fun f cdv A outer s H vs Q E hr h => ?_)
  · obtain ⟨d, M, m, rfl, hd, h0, h5, m0, m1, q⟩ := h
    rfl
  · obtain ⟨d, M, m, rfl, hd, h0, h5, m0, m1, q⟩ := h
    refine ⟨_, (pss_cons (ps_set (i := 3) sc_law_rules.nd rfl (Or.inl rfl) (pe_lst pa_nil))
      (pss_cons (ps_for PassesOwn.never rfl (pi_range1 (by rfl) G.b_range (pa_cons (C8.pe_c (c_law_take (T := T) G) hr (by decide) (by rfl) (pa_cons (pv 0) (pa_cons (pe_op op_add (pv 2) pe_int) pa_nil))) pa_nil)) (pg_name (i := 4) sc_law_rules.nd rfl (Or.inl rfl))
        (pss_cons (ps_set (i := 5) sc_law_rules.nd rfl (Or.inl rfl) (C8.pe_c (c_law_set (T := T) G) hr (by decide) (by rfl) (pa_cons (pv 0) (pa_cons (pv 1) (pa_cons (pe_op op_add pe_int (C8.pe_c (c_law_take (T := T) G) hr (by decide) (by rfl) (pa_cons (pv 0) (pa_cons pe_int pa_nil)))) pa_nil)))))
          (pss_one (ps_expr (pe_bm PySem.F.plainAttrs_list PySem.F.slot_list_append PySem.F.type_list_append mt_append (pv 3) (pa_cons (pe_tup (pa_cons (pv 5) (pa_cons (C8.pe_c (c_law_set (T := T) G) hr (by decide) (by rfl) (pa_cons (pv 0) (pa_cons (pv 1) (pa_cons (pe_op op_add pe_int (C8.pe_c (c_law_take (T := T) G) hr (by decide) (by rfl) (pa_cons (pv 0) (pa_cons pe_int pa_nil)))) pa_nil)))) pa_nil))) pa_nil))))))
      (pss_one (ps_ret (pe_callTy call_tuple_of (by rfl) G.b_tuple (by decide +kernel) (pa_cons (pv 3) pa_nil)))))), ?_⟩
    refine ⟨by show 0 ≤ sizeLine; exact Nat.zero_le _, fun l hl => ?_⟩
    have hld : l ≠ d := ne_of_none' hl hd
    have x0 : Ed T d H (upd H l (.lst [])) := Ed.of (Ex.new hl)
    have hl1 : (upd H l (.lst [])) l = some (.lst []) := upd_same
    generalize upd H l (.lst []) = H1 at *
    refine ⟨_, rfl, _, rfl, _, _, rfl, rfl, d, m + 1, rfl, x0.dr hd, by omega, fun H2 n x2 n0 n1 => ?_⟩
    refine ⟨n, rfl, by omega, by omega, ?_⟩
    have hl2 : H2 l = some (.lst []) := x2.all l _ hld hl1 (fun _ z => by cases z)
    refine for_it (n := n.toNat) walk_range (fun i σ H' => ∃ (as : List Addr) (rs : List Ru) (v4 v5 : Option V), σ = [some (.ref d), some (.int M), some (.int m), some (.ref l), v4, v5] ∧ Ed T d H H' ∧ H' l = some (.lst (as.map V.ref)) ∧ Paired (RuA H') as rs ∧ rs.length = i ∧ ∀ r ∈ rs, IsS M r.1 ∧ IsS M r.2)
      ⟨[], [], none, none, rfl, x0.trans x2, hl2, .nil, rfl, fun r hr => (nomatch hr)⟩ (fun _ _ _ _ _ => trivial) ?_ ?_
    · rintro i x σ H3 H3' hi ⟨as, rs, v4, v5, rfl, x3, has, hpr, hlen, hrs⟩ ⟨rfl, rfl⟩
      have hln := Paired.length hpr
      refine ⟨_, rfl, _, rfl, _, rfl, d, 3, rfl, x3.dr hd, by decide, fun H4 t x4 t0 t1 => ⟨_, _, rfl, rfl, d, M, 2 + t, rfl, (x3.trans x4).dr hd, h0, h5, by omega, fun H5 a s x5 ha hs => ?_⟩⟩
      have x35 := x4.trans x5
      have has5 := x35.all l _ hld has (fun _ z => by cases z)
      refine ⟨_, rfl, .inl ⟨rfl, _, SqL.of has5⟩, _, rfl, _, rfl, _, rfl, _, rfl, d, 3, rfl, (x3.trans x35).dr hd, by decide, fun H6 t' x6 t0' t1' => ⟨_, _, rfl, rfl, d, M, 2 + t', rfl, ((x3.trans x35).trans x6).dr hd, h0, h5, by omega, fun H7 a2 s2 x7 ha2 hs2 => ?_⟩⟩
      refine ⟨by show 2 ≤ sizeLine; decide, fun p hp => ?_⟩
      have x37 := (x35.trans x6).trans x7
      have has7 := x37.all l _ hld has (fun _ z => by cases z)
      have xp : Ed T d H7 (upd H7 p (.tup [.ref a, .ref a2])) := Ed.of (Ex.new hp)
      have has8 := xp.all l _ hld has7 (fun _ z => by cases z)
      have im := Im.mut (o := .lst (as.map V.ref ++ [.ref p])) has8 trivial
      have im3 := (x37.im.trans xp.im).trans im
      have hlh : H l = none := hl
      refine ⟨l, _, _, rfl, rfl, has8, ?_, ?_⟩
      · rw [List.length_map]
        exact Nat.lt_of_lt_of_le (by omega : _ < 1001) (by decide)
      · refine ⟨as ++ [p], rs ++ [(s, s2)], _, _, rfl, Ed.mut ((x3.trans x37).trans xp) hl has8 trivial, by rw [upd_same, List.map_append]; rfl, ?_, by rw [List.length_append, hlen]; rfl, ?_⟩
        · exact Paired.snoc (Paired.imp (fun _ _ q => RuA.im q im3) hpr) ⟨a, a2, im _ _ upd_same, ((ha.im ((x6.trans x7).im)).im xp.im).im im, (ha2.im xp.im).im im⟩
        · intro r hr
          rcases List.mem_append.mp hr with z | z
          · exact hrs r z
          · rw [List.mem_singleton.mp z]
            exact ⟨hs, hs2⟩
    · rintro σ H3 ⟨as, rs, v4, v5, rfl, x3, has, hpr, hlen, hrs⟩
      refine ⟨_, rfl, l, _, rfl, .inl ⟨SqL.of has, fun r hr => ?_⟩⟩
      have xr : Ed T d H3 (upd H3 r (.tup (as.map V.ref))) := Ed.of (Ex.new hr)
      exact q _ r rs (x3.trans xr) ⟨as, upd_same, Paired.imp (fun _ _ q => RuA.im q xr.im) hpr⟩ (by omega) hrs


end
end Pb
set_option Elab.async false
set_option linter.all false
set_option maxRecDepth 100000
set_option maxHeartbeats 4000000
namespace Pb
open PySem PySem.Spec PyProof.Rows L2
theorem seq_cut {t u : TS} {D : Ends} {σ : L2.St} {H : Hp} (P : L2.St → Hp → Prop) (h1 : ∀ B : L2.St → Hp → Prop, (∀ σ' H', P σ' H' → B σ' H') → t { D with nx := B } σ H) (h2 : ∀ σ' H', P σ' H' → u D σ' H') : tSeq t u D σ H := h1 _ h2
theorem st_cast {S : L2.St → Hp → Prop} {σ : L2.St} (σ' : L2.St) {H : Hp} (e : σ = σ') (h : S σ' H) : S σ H := e ▸ h
/-! ### tuples of ints and None -/
def optD : Option Int → PyData
  | none => .none
  | some i => .int i
theorem dpOpts (K : PySem.W.Frag) (H : Hp) {α : Type} (f : α → Option Int) : ∀ l : List α, DpAll K H (l.map fun i => optV (f i)) (l.map fun i => optD (f i))
  | [] => .nil
  | i :: l => by
    refine .cons ?_ (dpOpts K H f l)
    show Dp K H (optV (f i)) (optD (f i))
    cases f i with
    | none => exact .non
    | some v => exact .int v
theorem shaped_tuple {ds : List PyData} (h : ∀ d ∈ ds, d.canLay0 = true ∧ d.depth ≤ 60) : SeqAt.shaped (.tuple ds) = true := by
  have := shaped_list h
  unfold SeqAt.shaped at this ⊢
  simp only [PyData.canLay0, PyData.depth] at this ⊢
  exact this
theorem shaped_opts {α : Type} (f : α → Option Int) (l : List α) : SeqAt.shaped (.tuple (l.map fun i => optD (f i))) = true := shaped_tuple fun d hd => by
  obtain ⟨i, _, rfl⟩ := List.mem_map.mp hd
  cases f i <;> simp [optD, PyData.canLay0, PyData.depth]
theorem eqv_opts {α : Type} (f : α → Option Int) : ∀ l : List α, PyData.eqv (.tuple (l.map fun i => optD (f i))) (.tuple (l.map fun i => optD (f i))) = true := by
  intro l
  simp only [PyData.eqv]
  induction l with
  | nil => simp [PyData.eqvAll]
  | cons i l ih =>
    simp only [List.map_cons, PyData.eqvAll, ih, Bool.and_true]
    cases f i <;> simp [optD, PyData.eqv]
/-! ### mutating what is new -/
theorem Ed.mutN {T : Tb} {d p : Addr} {H H1 : Hp} {o o1 : HO} (x : Ed T d H H1) (n : NT H p) (h1 : H1 p = some o1) (w : Wr o1) : Ed T d H (upd H1 p o) := by
  cases e : H p with
  | none => exact x.mut e h1 w
  | some u =>
    obtain ⟨ps, rfl⟩ := n u e
    refine ⟨fun b o' nb e' t => ?_, fun t => ?_, fun q => ?_, fun b xs e' => ?_⟩
    · rw [upd_ne (fun z => by rw [z, e] at e'; exact t ps (Option.some.inj e').symm)]
      exact x.all b o' nb e' t
    · refine tabs_upd (x.tabs t) h1 (fun ps => w.ntb ps) (fun c q z => ?_)
      rw [z] at w
      exact w
    · obtain ⟨ns, l, e2⟩ := x.dr q
      obtain ⟨ns', l', e'⟩ := q
      refine ⟨ns, l, ?_⟩
      rw [upd_ne (fun z => by rw [z, e] at e'; cases e')]
      exact e2
    · rw [upd_ne (fun z => by rw [z, e] at e'; cases e')]
      exact x.im b xs e'
theorem KD.ed {T : Tb} {d p : Addr} {H H1 : Hp} {t : List (Int × Int)} (h : KD H p t) (x : Ed T d H H1) (hd : Dr H d) : KD H1 p t := x.kp hd h (fun _ z => by cases z) (fun _ z => by cases z)
theorem TD.ed {T : Tb} {d p : Addr} {H H1 : Hp} {t : List (List Int × Int)} (h : TD H p t) (x : Ed T d H H1) (hd : Dr H d) : TD H1 p t := x.kp hd h (fun _ z => by cases z) (fun _ z => by cases z)
theorem CoA.ed {K : PySem.W.Frag} {T : Tb} {H H' : Hp} {c d : Addr} {t us : List (Int × Int)} (h : CoA K H c t us) (x : Ed T d H H') (hd : Dr H d) : CoA K H' c t us := by
  obtain ⟨dx, p, q, h1, h2, h3⟩ := h
  exact ⟨dx, p, q, x.kp hd h1 (fun _ z => by cases z) (fun _ z => by cases z), h2.ed x hd, h3.ed x hd⟩
theorem BiS.ed {K : PySem.W.Frag} {T : Tb} {H H' : Hp} {c d : Addr} {is : List Int} {fl : List (List Int × Int)} (h : BiS K H c is fl) (x : Ed T d H H') (hd : Dr H d) : BiS K H' c is fl := by
  obtain ⟨dx, p, q, h1, h2, h3⟩ := h
  exact ⟨dx, p, q, x.kp hd h1 (fun _ z => by cases z) (fun _ z => by cases z), h2.ed x, h3.ed x hd⟩
/-! ### tables of ints -/
theorem eqT_nil (t : List (Int × Int)) : eqT t [] = decide (t = []) := by
  unfold eqT
  cases t with
  | nil => rfl
  | cons p t => simp
theorem dropK_dk (t : List (Int × Int)) (m : Int) : dropK (dk t) (kI m) = dk (t.filter fun p => decide (p.1 ≠ m)) := by
  unfold dropK
  show (t.map _).filter _ = (t.filter _).map _
  rw [List.filter_map]
  congr 1
  refine List.filter_congr fun p _ => ?_
  show decide (kI p.1 ≠ kI m) = decide (p.1 ≠ m)
  exact decide_eq_decide.mpr ⟨fun h z => h (by rw [z]), fun h z => h (kI_inj _ _ z)⟩
theorem len5 {ks : List Int} {M : Int} (h5 : M ≤ 5) (n : ks.Nodup) (h : ∀ m ∈ ks, 0 ≤ m ∧ m < M) : ks.length ≤ 5 := nodup_le n (m := Pb.U) fun x hx => mem_U.mpr (by have := h x hx; omega)
theorem keys_asc {t due : List (Int × Int)} {zs : List Int} (ht : (t.map (·.1)).Pairwise (· < ·)) (nd : (due.map (·.1)).Nodup) (e : lk t = lk due) (hz : zs.Perm (due.map (·.1))) (hp : zs.Pairwise (· ≤ ·)) : zs = t.map (·.1) := by
  refine asc_ext (asc_of_perm hz nd hp) ht fun m => ?_
  rw [hz.mem_iff, ← lk_mem, ← lk_mem, e]
end Pb
set_option Elab.async false
set_option linter.all false
set_option maxRecDepth 100000
set_option maxHeartbeats 4000000

namespace Pb
open PySem PySem.Spec PyProof.Rows L2
section
variable {P : Program} {w : World} {K : PySem.W.Frag} {mg : Str → Option Value} {base : Heap} {T : Tb}

def spCostsPapers (T : Tb) (K : PySem.W.Frag) : Sp := fun vs H Q _ => ∃ (d b a pr : Addr) (wd : Bool) (M : Int) (rs : List Ru) (th ws : List Int), vs = [.ref d, .ref b, .ref a, .ref pr, .str (wS wd)] ∧ Dr H d ∧ Pr K H b a pr M rs th ws ∧ ∀ H', Ed T d H H' → Q (.bl true) H'
/-- a turn's state: the two dicts in the making -/
def CpS (T : Tb) (d b a pr dd c tl : Addr) (wd : Bool) (H0 : Hp) (kd : Int) (us : List (Int × Int)) (n : Nat) (σ : L2.St) (H' : Hp) : Prop := ∃ (e g : Addr) (t' us' : List (Int × Int)) (v8 v9 v13 v14 v15 v16 : Option V), σ = [some (.ref d), some (.ref b), some (.ref a), some (.ref pr), some (.str (wS wd)), some (.ref dd), some (.ref c), some (.ref tl), v8, v9, some (.ref e), some (.ref g), some (.int kd), v13, v14, v15, v16] ∧ Ed T d H0 H' ∧ H0 e = none ∧ H0 g = none ∧ e ≠ g ∧ KD H' e t' ∧ KD H' g us' ∧ (t'.map (·.1)).Nodup ∧ t'.length ≤ n ∧ us'.length ≤ n ∧ (kd = 3 → us' = us)

abbrev N_law_costs_papers : List Str := ["_law_draws", "_law_book", "_law_thing", "_law_prices", "_law_word", "_law_due", "_law_found", "_law_told", "_law_mark", "_law_turn", "_law_table", "_law_uses", "_law_kind", "_law_some", "_law_is_due", "_law_at", "_law_rule"]
theorem sc_law_costs_papers : FnScope N_law_costs_papers ["_law_draws", "_law_book", "_law_thing", "_law_prices", "_law_word"] (defScope sLCostsPapers) := ⟨rfl, rfl, rfl, by decide +kernel, rfl, by decide +kernel, by decide +kernel⟩
theorem c_law_costs_papers (G : Gx K mg) : C8.Cal P w K mg base 7 "_law_costs_papers" (spCostsPapers T K) [] := by
  refine calOf G 36 rfl rfl sc_law_costs_papers (fun _ _ _ _ _ _ us hl => match us, hl with | [_, _, _, _, _], _ => rfl) (fun vs H Q E h => ?_) (fun f cdv A outer s H vs Q E hr h => ?_)
  · obtain ⟨d, b, a, pr, wd, M, rs, th, ws, rfl, hd, hP, k⟩ := h
    rfl
  · obtain ⟨d, b, a, pr, wd, M, rs, th, ws, rfl, hd, hP, k⟩ := h
    have hu := hu_of hr
    refine ⟨_, (pss_cons (ps_asg (pe_tup (pa_cons (C8.pe_c (c_law_costs (T := T) G) hr (by decide) (by rfl) (pa_cons (pe_slK (K := K) rfl (pv 1)) (pa_cons (pv 2) (pa_cons (pv 3) (pa_cons (pv 4) pa_nil))))) (pa_cons (C8.pe_c (c_costs (T := T) G) hr (by decide) (by rfl) (pa_cons (pv 1) (pa_cons (pv 2) (pa_cons (pv 3) (pa_cons (pv 4) pa_nil))))) pa_nil))) (pg_tup rfl (pgs_cons (pg_name (i := 5) sc_law_costs_papers.nd rfl (Or.inr rfl)) (pgs_cons (pg_name (i := 6) sc_law_costs_papers.nd rfl (Or.inl rfl)) pgs_nil))))
      (pss_cons (ps_set (i := 7) sc_law_costs_papers.nd rfl (Or.inl rfl) (C8.pe_c (c_mark_costs (T := T) G) hr (by decide) (by rfl) (pa_cons (pv 1) (pa_cons (pv 2) (pa_cons (pv 3) (pa_cons (pv 4) pa_nil))))))
      (pss_cons (ps_if (pt_cmpR (op_neD hr.units) (pv 7) (pe_callTy call_tuple_of (by rfl) G.b_tuple (by decide +kernel) (pa_cons (pe_lc (own := [("_law_mark", 8)]) (g := gName 8) rfl sc_law_costs_papers.nd (pi_range1 (by rfl) G.b_range (pa_cons (pe_slK (K := K) rfl (pv 1)) pa_nil)) (blkOk_by (own := [("_law_mark", 8)]) (N := N_law_costs_papers) (sc := defScope sLCostsPapers) (by decide +kernel)) (fun _ _ _ _ _ => (pg_name (i := 8) sc_law_costs_papers.nd rfl (Or.inl rfl))) (fun _ _ _ _ _ => pts_nil) (fun _ _ _ _ _ => (pe_dget1 hu (pv 5) (pv 8) ⟨rfl, rfl, rfl, rfl⟩))) pa_nil)) (nomark _))
        (pss_one (ps_ret pe_bl)) pss_nil)
      (pss_cons (ps_if (pt_cmpR op_isnot_bl (C8.pe_mt (m_Costs_shows (T := T) G) hr (by decide) (pv 6) (pa_cons (pv 1) (pa_cons (pv 2) (pa_cons (pv 3) (pa_cons (pv 4) pa_nil))))) pe_bl (nomark _))
        (pss_one (ps_ret pe_bl)) pss_nil)
      (pss_cons (ps_if (pt_not (pt_val (C8.pe_c (c_law_costs_right (T := T) G) hr (by decide) (by rfl) (pa_cons (pv 1) (pa_cons (pv 2) (pa_cons (pv 3) (pa_cons (pv 4) (pa_cons (pv 5) (pa_cons (pe_fldK (K := K) rfl (pv 6) rfl) (pa_cons (pe_fldK (K := K) rfl (pv 6) rfl) pa_nil))))))))))
        (pss_one (ps_ret pe_bl)) pss_nil)
      (pss_cons (ps_if (pt_cmpR (op_neD hr.units) (pe_callTy (call_listD rfl) (by rfl) G.b_list (by decide +kernel) (pa_cons (pe_fldK (K := K) rfl (pv 6) rfl) pa_nil)) (pe_callB (call_sortedDI rfl) (by rfl) G.b_sorted (by decide +kernel) (pa_cons (pv 5) pa_nil)) (nomark _))
        (pss_one (ps_ret pe_bl)) pss_nil)
      (pss_cons (ps_if (pt_cmpR (op_neD hr.units) (pe_callTy (call_listD rfl) (by rfl) G.b_list (by decide +kernel) (pa_cons (pe_fldK (K := K) rfl (pv 6) rfl) pa_nil)) (pe_lc (own := [("_law_mark", 8)]) (g := gName 8) rfl sc_law_costs_papers.nd (pi_list (pe_callB (call_sortedDI rfl) (by rfl) G.b_sorted (by decide +kernel) (pa_cons (pv 5) pa_nil))) (blkOk_by (own := [("_law_mark", 8)]) (N := N_law_costs_papers) (sc := defScope sLCostsPapers) (by decide +kernel)) (fun _ _ _ _ _ => (pg_name (i := 8) sc_law_costs_papers.nd rfl (Or.inl rfl))) (fun _ _ _ _ _ => pts_one (pt_cmpR (op_notInK (K := K) rfl) (pv 8) (pv 2) (by rfl))) (fun _ _ _ _ _ => (pv 8))) (nomark _))
        (pss_one (ps_ret pe_bl)) pss_nil)
      (pss_cons (ps_for PassesOwn.never rfl (pi_range1 (by rfl) G.b_range (pa_cons pe_int pa_nil)) (pg_name (i := 9) sc_law_costs_papers.nd rfl (Or.inl rfl))
        (pss_cons (ps_par3 (i := 10) (j := 11) (l := 12) rfl sc_law_costs_papers.nd rfl rfl rfl (by decide) (by decide) (by decide) rfl rfl rfl (pa_cons (pe_callTy call_dictD (by rfl) G.b_dict (by decide +kernel) (pa_cons (pe_fldK (K := K) rfl (pv 6) rfl) pa_nil)) (pa_cons (pe_callTy call_dictD (by rfl) G.b_dict (by decide +kernel) (pa_cons (pe_fldK (K := K) rfl (pv 6) rfl) pa_nil)) (pa_cons (C8.pe_c (c_law_take (T := T) G) hr (by decide) (by rfl) (pa_cons (pv 0) (pa_cons pe_int pa_nil))) pa_nil))) (by rfl))
          (pss_cons (ps_if (pt_cmpR op_eq (pv 12) pe_int (nomark _))
            (pss_one (ps_dput hu (pv 10) (C8.pe_c (c_law_take (T := T) G) hr (by decide) (by rfl) (pa_cons (pv 0) (pa_cons (pe_slK (K := K) rfl (pv 1)) pa_nil))) (pe_op op_sub (C8.pe_c (c_law_take (T := T) G) hr (by decide) (by rfl) (pa_cons (pv 0) (pa_cons pe_int pa_nil))) pe_int) rfl)) pss_nil)
          (pss_cons (ps_if (pt_cmpR op_eq (pv 12) pe_int (nomark _))
            (pss_one (ps_dput hu (pv 11) (C8.pe_c (c_law_take (T := T) G) hr (by decide) (by rfl) (pa_cons (pv 0) (pa_cons (pe_slK (K := K) rfl (pv 1)) pa_nil))) (pe_op op_sub (C8.pe_c (c_law_take (T := T) G) hr (by decide) (by rfl) (pa_cons (pv 0) (pa_cons (pe_op op_add (pe_callB call_len_seq (by rfl) G.b_len (by decide +kernel) (pa_cons (pe_slK (K := K) rfl (pv 1)) pa_nil)) pe_int) pa_nil))) pe_int) rfl)) pss_nil)
          (pss_cons (ps_if (PW.pt (pw_and (pt_cmpR op_eq (pv 12) pe_int (nomark _)) (pw_and1 (pt_cmpR (op_neDict (hu0_of hr)) (pv 10) pe_dnewK (nomark _)))))
            (pss_one (ps_expr (pe_dpop1 (pv 10) (C8.pe_c (c_law_pick (T := T) G) hr (by decide) (by rfl) (pa_cons (pv 0) (pa_cons (pe_callTy (call_listD rfl) (by rfl) G.b_list (by decide +kernel) (pa_cons (pv 10) pa_nil)) pa_nil))) ⟨rfl, rfl, rfl, rfl⟩))) pss_nil)
          (pss_cons (ps_if (PW.pt (pw_and (pt_cmpR op_eq (pv 12) pe_int (nomark _)) (pw_and1 (pt_cmpR (op_neDict (hu0_of hr)) (pv 11) pe_dnewK (nomark _)))))
            (pss_cons (ps_set (i := 8) sc_law_costs_papers.nd rfl (Or.inr rfl) (C8.pe_c (c_law_pick (T := T) G) hr (by decide) (by rfl) (pa_cons (pv 0) (pa_cons (pe_callTy (call_listD rfl) (by rfl) G.b_list (by decide +kernel) (pa_cons (pv 11) pa_nil)) pa_nil))))
              (pss_cons (ps_setLc (i := 13) (own := [("_law_at", 15), ("_law_rule", 16)]) (g := gTup K 2 (gCons (gName 15) (gCons (gName 16) gNil))) rfl sc_law_costs_papers.nd rfl rfl (sw_true rfl rfl rfl (by decide +kernel)) (pi_enumT (by rfl) G.b_enumerate (pa_cons (pe_slK (K := K) rfl (pv 1)) pa_nil)) (blkOk_by (own := [("_law_at", 15), ("_law_rule", 16)]) (N := N_law_costs_papers) (sc := defScope sLCostsPapers) (by decide +kernel)) (fun _ _ _ _ _ => (pg_tup rfl (pgs_cons (pg_name (i := 15) sc_law_costs_papers.nd rfl (Or.inl rfl)) (pgs_cons (pg_name (i := 16) sc_law_costs_papers.nd rfl (Or.inl rfl)) pgs_nil)))) (fun _ _ _ _ _ => pts_one (pt_cmpR (op_inK (K := K) hu rfl) (pv 8) (pe_ix (ix_tupK (K := K) rfl) (pv 16) pe_int (fun _ _ => rfl)) (by rfl))) (fun _ _ _ _ _ => (pv 15)))
              (pss_one (ps_dput hu (pv 11) (pv 8) (C8.pe_c (c_law_pick (T := T) G) hr (by decide) (by rfl) (pa_cons (pv 0) (pa_cons (pv 13) pa_nil))) rfl)))) pss_nil)
          (pss_cons (ps_set (i := 14) sc_law_costs_papers.nd rfl (Or.inl rfl) (C8.pe_c (c_law_costs_right (T := T) G) hr (by decide) (by rfl) (pa_cons (pv 1) (pa_cons (pv 2) (pa_cons (pv 3) (pa_cons (pv 4) (pa_cons (pv 5) (pa_cons (pv 10) (pa_cons (pv 11) pa_nil)))))))))
          (pss_one (ps_if (pt_cmpR op_ne (C8.pe_mt (m_Costs_shows (T := T) G) hr (by decide) (C8.pe_mk (c_Costs (T := T) G) hr (by decide) (by rfl) (pa_cons (pv 10) (pa_cons (pv 11) pa_nil))) (pa_cons (pv 1) (pa_cons (pv 2) (pa_cons (pv 3) (pa_cons (pv 4) pa_nil))))) (pv 14) (nomark _))
            (pss_one (ps_ret pe_bl)) pss_nil)))))))))
      (pss_one (ps_ret pe_bl)))))))))), ?_⟩
    have hR := hP.ok
    have hm1 := hP.m1
    have hm5 := hP.m5
    have hnr := hP.nr
    obtain ⟨dxb, r, hsl, hrus⟩ := id hP.bk
    refine ⟨_, rfl, b, _, dxb, _, _, 1, _, rfl, hsl, G.sclsB, G.slR, rfl, _, rfl, _, rfl, _, rfl, r, b, a, pr, wd, M, rs, th, ws, rfl, hP, hrus, fun H1 dd due x1 hdd hnd hSol => ?_⟩
    refine ⟨_, rfl, _, rfl, _, rfl, _, rfl, b, a, pr, wd, M, rs, th, ws, rfl, hP.ex x1, fun H2 c t us B x2 hco hDj hS2 hta hua => ?_⟩
    refine ⟨by show 2 ≤ sizeLine; decide, fun q hq => ?_⟩
    have x3 : Ex T H2 (upd H2 q (.tup [.ref dd, .ref c])) := Ex.new hq
    refine ⟨q, _, rfl, SqT.of upd_same, rfl, _, _, rfl, _, _, rfl, rfl, ?_⟩
    have x13 := (x1.trans x2).trans x3
    have hdd3 := hdd.ex (x2.trans x3)
    have hco3 := hco.ex x3
    generalize upd H2 q (.tup [.ref dd, .ref c]) = H3 at *
    have elk : lk t = lk due := hS2.uniq hR hSol
    have htn : (t.map (·.1)).Nodup := asc_nodup hta
    have hun : (us.map (·.1)).Nodup := asc_nodup hua
    have hdt : ∀ m ∈ t.map (·.1), 0 ≤ m ∧ m < M := fun m hm => hDj.dom m (lk_mem.mpr hm)
    have hdu : ∀ m ∈ us.map (·.1), 0 ≤ m ∧ m < M := fun m hm => hDj.dom m ((hDj.us2 m).mp (lk_mem.mpr hm)).1
    have lt5 : t.length ≤ 5 := by
      have := len5 hm5 htn hdt
      rw [List.length_map] at this
      exact this
    have lu5 : us.length ≤ 5 := by
      have := len5 hm5 hun hdu
      rw [List.length_map] at this
      exact this
    have ld5 : due.length ≤ 5 := by
      have := len5 hm5 hnd (fun m hm => hDj.dom m (by rw [elk]; exact lk_mem.mpr hm))
      rw [List.length_map] at this
      exact this
    have hright : rightB (rs.zip ws) th wd due t us = true := dj_right (u := lk us) hR hP.hth hSol hnd htn hun hDj hS2
    have hshow : ∀ {cl : List Int} {t' us' : List (Int × Int)}, IsS M cl → Clo rs th cl → (t'.map (·.1)).Nodup → showsB (rs.zip ws) th wd cl t' us' = rightB (rs.zip ws) th wd due t' us' := fun hc hC hn => shows_right hR hP.hth hc (by rw [hP.fst]; exact hC) hSol hnd hn
    refine ⟨_, rfl, _, rfl, _, rfl, _, rfl, b, a, pr, wd, M, rs, th, ws, rfl, hP.ex x13, fun H4 tl f x4 hSf htl => ?_⟩
    have ef : f = lk due := hSf.uniq hR hSol
    subst ef
    have x14 := x13.trans x4
    have hdd4 := hdd3.ex x4
    have hco4 := hco3.ex x4
    -- the marks told
    obtain ⟨dxb2, r2, hsl2, hrus2⟩ := id (hP.ex x14).bk
    refine ⟨_, rfl, _, rfl, b, _, dxb2, _, _, 0, _, rfl, hsl2, G.sclsB, G.slM, rfl, M, rfl, by omega, by omega, fun D hD => ?_⟩
    refine lc_all (T := T) (ds := List.range M.toNat) (k := fun i : Nat => optV (lk due (i : Int))) (walk_range (lo := 0) (n := M.toNat)) (by rw [List.length_range]) (by omega) hD (fun _ _ => trivial) (fun _ _ _ _ _ _ y => yfn_ex y) ?_ ?_
    · intro i dq v Ha Hb hdq _ x y S hS
      obtain ⟨e, q⟩ := y
      subst e q
      have hdi : dq = i := by
        rw [List.getElem?_range] at hdq
        · exact (Option.some.inj hdq).symm
        · have := (List.getElem?_eq_some_iff.mp hdq).1
          rw [List.length_range] at this
          exact this
      subst hdi
      refine hS _ rfl fun Hc xc Q5 k5 => ?_
      have hk := hdd4.ex (x.trans xc)
      have e0 : V.int (0 + (dq : Int)) = V.int (dq : Int) := by rw [Int.zero_add]
      refine ⟨_, rfl, dd, rfl, .inl ⟨_, .inl hk⟩, _, rfl, (lk due (dq : Int)).map V.int, ?_, k5 _ _ (Ex.refl T Hc) (getD_opt _)⟩
      show DGet Hc dd (V.int (0 + (dq : Int))) _
      rw [e0]
      exact .inl ⟨_, kI dq, .inl hk, rfl, (valV_dk due dq).symm⟩
    intro H5 x5 hD5
    refine ⟨D, _, rfl, .inl ⟨SqL.of hD5, fun l hl => ?_⟩⟩
    have x6 : Ex T H5 (upd H5 l (.tup ((List.range M.toNat).map fun i : Nat => optV (lk due (i : Int))))) := Ex.new hl
    refine ⟨_, _, .tup (SqT.of (x6.tup (x5.tup htl))) (dpOpts K _ _ _), .tup (SqT.of upd_same) (dpOpts K _ _ _), shaped_opts _ _, shaped_opts _ _, _, rfl, ?_⟩
    rw [eqv_opts]
    refine iteF ?_
    have x46 := x5.trans x6
    have x16 := x14.trans x46
    have hdd6 := hdd4.ex x46
    have hco6 := hco4.ex x46
    generalize upd H5 l (.tup ((List.range M.toNat).map fun i : Nat => optV (lk due (i : Int)))) = H6 at *
    -- it shows
    obtain ⟨dxc, p, u, hc1, hc2, hc3⟩ := id hco6
    refine ⟨_, rfl, c, dxc, _, rfl, hc1, rfl, _, rfl, _, rfl, _, rfl, _, rfl, c, b, a, pr, wd, M, rs, th, ws, t, us, rfl, hco6, hP.ex x16, htn, fun H7 cl x7 hcl hclo => ?_⟩
    rw [hshow hcl hclo htn, hright]
    refine ⟨true, true, rfl, rfl, _, rfl, iteF ?_⟩
    have x17 := x16.trans x7
    have hco7 := hco6.ex x7
    have hdd7 := hdd6.ex x7
    -- it is right
    refine ⟨_, rfl, _, rfl, _, rfl, _, rfl, _, rfl, _, rfl, c, _, dxc, _, _, rfl, x7.ins hc1, G.cls_Costs, G.na_costs, rfl, _, rfl, c, _, dxc, _, _, rfl, x7.ins hc1, G.cls_Costs, G.na_uses, rfl, b, a, pr, dd, p, u, wd, M, rs, th, ws, due, t, us, rfl, hP.ex x17, hdd7, hc2.ex x7, hc3.ex x7, hnd, hSol.nn, by omega, fun H8 x8 => ?_⟩
    rw [hright]
    refine ⟨true, rfl, iteF ?_⟩
    -- the keys of both tables, in order
    have hco8 := hco7.ex x8
    have hdd8 := hdd7.ex x8
    have x18 := x17.trans x8
    have x68 := x7.trans x8
    have hks : (dk due).map (·.1) = (due.map (·.1)).map Sum.inl := by
      rw [List.map_map, List.map_map]
      rfl
    have hkv : ∀ v : List (Int × Int), ((dk v).map fun kv => kV kv.1) = (v.map (·.1)).map V.int := fun v => by
      rw [List.map_map, List.map_map]
      rfl
    refine ⟨_, rfl, c, _, dxc, _, _, rfl, x68.ins hc1, G.cls_Costs, G.na_costs, rfl, p, _, rfl, .inl (hc2.ex x68), fun l1 hl1 => ?_⟩
    have x9 : Ex T H8 (upd H8 l1 (.lst ((dk t).map fun kv => kV kv.1))) := Ex.new hl1
    have hl1b : (upd H8 l1 (.lst ((dk t).map fun kv => kV kv.1))) l1 = some (.lst ((t.map (·.1)).map V.int)) := by rw [upd_same, hkv]
    generalize upd H8 l1 (.lst ((dk t).map fun kv => kV kv.1)) = H9 at *
    refine ⟨_, rfl, dd, _, due.map (·.1), rfl, .inl (hdd8.ex x9), hks, by rw [List.length_map]; omega, fun zs l2 hz1 hz2 hl2 => ?_⟩
    have ezs : zs = t.map (·.1) := keys_asc hta hnd elk hz1 hz2
    subst ezs
    have x10 : Ex T H9 (upd H9 l2 (.lst ((t.map (·.1)).map V.int))) := Ex.new hl2
    refine ⟨_, _, .lst (SqL.of (x10.lst hl1b)) (dpInts K _ _), .lst (SqL.of upd_same) (dpInts K _ _), shaped_li _, shaped_li _, _, rfl, ?_⟩
    rw [eqv_li, decide_eq_true rfl]
    refine iteF ?_
    have x810 := x9.trans x10
    have x110 := x18.trans x810
    have x610 := x68.trans x810
    have hdd10 := hdd8.ex x810
    generalize upd H9 l2 (.lst ((t.map (·.1)).map V.int)) = H10 at *
    -- the uses
    refine ⟨_, rfl, c, _, dxc, _, _, rfl, x610.ins hc1, G.cls_Costs, G.na_uses, rfl, u, _, rfl, .inl (hc3.ex x610), fun l3 hl3 => ?_⟩
    have x11 : Ex T H10 (upd H10 l3 (.lst ((dk us).map fun kv => kV kv.1))) := Ex.new hl3
    have hl3b : (upd H10 l3 (.lst ((dk us).map fun kv => kV kv.1))) l3 = some (.lst ((us.map (·.1)).map V.int)) := by rw [upd_same, hkv]
    generalize upd H10 l3 (.lst ((dk us).map fun kv => kV kv.1)) = H11 at *
    refine ⟨_, rfl, dd, _, due.map (·.1), rfl, .inl (hdd10.ex x11), hks, by rw [List.length_map]; omega, fun zs l4 hz1 hz2 hl4 => ?_⟩
    have ezs : zs = t.map (·.1) := keys_asc hta hnd elk hz1 hz2
    subst ezs
    have x12 : Ex T H11 (upd H11 l4 (.lst ((t.map (·.1)).map V.int))) := Ex.new hl4
    have hl4b : (upd H11 l4 (.lst ((t.map (·.1)).map V.int))) l4 = some (.lst ((t.map (·.1)).map V.int)) := upd_same
    generalize upd H11 l4 (.lst ((t.map (·.1)).map V.int)) = H12 at *
    have x112 := (x110.trans x11).trans x12
    refine ⟨l4, rfl, ⟨_, SqL.of hl4b⟩, fun D hD => ?_⟩
    refine lc_val (T := T) (walk_list (xs := (t.map (·.1)).map V.int)) (ds := t.map (·.1)) (by rw [List.length_map, List.length_map, List.length_map]) (by rw [List.length_map, List.length_map]; omega) hD (fun Hx x => SqL.of (x.lst hl4b)) (fun _ _ _ _ _ _ y => yat_ex y) (fun m => !decide (m ∈ th)) V.int ?_ ?_
    · intro i m v Hx Hy hm _ x y S hS
      obtain ⟨e, q⟩ := y
      subst e
      obtain rfl := at_map q hm
      refine hS _ rfl (fun Hz xz Q3 k3 => ?_) fun _ Hz xz Q3 k3 => ?_
      · refine ⟨_, rfl, _, rfl, a, _, rfl, .inr (SqT.of (((hP.ht.ex x112).ex x).ex xz)), rfl, flat_ints th, _, rfl, k3 _ _ (Ex.refl T Hz) ?_⟩
        rw [inV_int]
        rfl
      · exact ⟨_, rfl, k3 _ _ (Ex.refl T Hz) rfl⟩
    intro H13 x13b hD13
    have eus : (t.map (·.1)).filter (fun m => !decide (m ∈ th)) = us.map (·.1) := by
      refine asc_ext (hta.filter _) hua fun m => ?_
      rw [List.mem_filter, ← lk_mem, ← lk_mem, hDj.us2]
      simp
    rw [eus] at hD13
    refine ⟨_, _, .lst (SqL.of ((x12.trans x13b).lst hl3b)) (dpInts K _ _), .lst (SqL.of hD13) (dpInts K _ _), shaped_li _, shaped_li _, _, rfl, ?_⟩
    rw [eqv_li, decide_eq_true rfl]
    refine iteF ?_
    have x1013 := (x11.trans x12).trans x13b
    have x613 := x610.trans x1013
    have hco13 := hco6.ex x613
    have hdd13 := hdd6.ex x613
    have x113 := x16.trans x613
    clear hD13 hl4b hl3b hl1b htl hdd8 hdd10 hco7 hdd7 hco8
    -- four turns
    refine ⟨4, rfl, by decide, by decide, ?_⟩
    refine for_it (n := 4) walk_range (fun i σ H' => ∃ (v8 v9 v10 v11 v12 v13 v14 v15 v16 : Option V), σ = [some (.ref d), some (.ref b), some (.ref a), some (.ref pr), some (.str (wS wd)), some (.ref dd), some (.ref c), some (.ref tl), v8, v9, v10, v11, v12, v13, v14, v15, v16] ∧ Ed T d H13 H')
      ⟨_, _, _, _, _, _, _, _, _, rfl, Ed.of (Ex.refl T H13)⟩ (fun _ _ _ _ _ => trivial) ?_ ?_
    · rintro i x σ H0 H0' hi ⟨v8, v9, v10, v11, v12, v13, v14, v15, v16, rfl, x0⟩ ⟨rfl, rfl⟩
      have hd13 := (Ed.of x113).dr hd
      have hd0 := x0.dr hd13
      have hP0 := (hP.ex x113).ed x0 hd13
      have hco0 := hco13.ed x0 hd13
      have hdd0 := hdd13.ed x0 hd13
      obtain ⟨dx0, p0, u0, hc1, hc2, hc3⟩ := id hco0
      refine ⟨_, rfl, c, _, dx0, _, _, rfl, hc1, G.cls_Costs, G.na_costs, rfl, p0, _, rfl, .inl hc2, fun e he => ?_⟩
      have y1 : Ex T H0' (upd H0' e (.dK (dk t))) := Ex.new he
      refine ⟨_, rfl, c, _, dx0, _, _, rfl, y1.ins hc1, G.cls_Costs, G.na_uses, rfl, u0, _, rfl, .inl (hc3.ex y1), fun g hg => ?_⟩
      have y2 : Ex T (upd H0' e (.dK (dk t))) (upd (upd H0' e (.dK (dk t))) g (.dK (dk us))) := Ex.new hg
      have heg : e ≠ g := fun z => by
        rw [← z, upd_same] at hg
        cases hg
      have hg0 : H0' g = none := by
        rw [upd_ne (Ne.symm heg)] at hg
        exact hg
      have y12 := Ed.of (d := d) (y1.trans y2)
      have hKe : KD (upd (upd H0' e (.dK (dk t))) g (.dK (dk us))) e t := by
        unfold KD
        rw [upd_ne heg, upd_same]
      have hKg : KD (upd (upd H0' e (.dK (dk t))) g (.dK (dk us))) g us := upd_same
      generalize upd (upd H0' e (.dK (dk t))) g (.dK (dk us)) = Ha at *
      refine ⟨_, rfl, d, 4, rfl, y12.dr hd0, by decide, fun Hb kd yb kd0 kd1 => ?_⟩
      refine ⟨_, _, _, rfl, ?_⟩
      have hPr : ∀ {H' : Hp}, Ed T d H0' H' → Pr K H' b a pr M rs th ws := fun y => hP0.ed y hd0
      have hDr : ∀ {H' : Hp}, Ed T d H0' H' → Dr H' d := fun y => y.dr hd0
      have cp0 : CpS T d b a pr dd c tl wd H0' kd us 5 [some (.ref d), some (.ref b), some (.ref a), some (.ref pr), some (.str (wS wd)), some (.ref dd), some (.ref c), some (.ref tl), v8, some (.int (0 + (i : Int))), some (.ref e), some (.ref g), some (.int kd), v13, v14, v15, v16] Hb := ⟨e, g, t, us, _, _, _, _, _, _, rfl, y12.trans yb, he, hg0, heg, hKe.ed yb (hDr y12), hKg.ed yb (hDr y12), htn, lt5, lu5, fun _ => rfl⟩
      have lenS : ∀ {n : Nat}, n ≤ 20 → n < sizeLine := fun h => Nat.lt_of_le_of_lt h (by decide)
      clear hKe hKg y12 yb y1 y2
      dsimp only
      refine st_cast [some (.ref d), some (.ref b), some (.ref a), some (.ref pr), some (.str (wS wd)), some (.ref dd), some (.ref c), some (.ref tl), v8, some (.int (0 + (i : Int))), some (.ref e), some (.ref g), some (.int kd), v13, v14, v15, v16] rfl ?_
      generalize [some (.ref d), some (.ref b), some (.ref a), some (.ref pr), some (.str (wS wd)), some (.ref dd), some (.ref c), some (.ref tl), v8, some (.int (0 + (i : Int))), some (.ref e), some (.ref g), some (.int kd), v13, v14, v15, v16] = σa at cp0 ⊢
      refine seq_cut (CpS T d b a pr dd c tl wd H0' kd us 6) (fun B hB => ?_) ?_
      · obtain ⟨e, g, t', us', v8, v9, v13, v14, v15, v16, rfl, y, he, hg, heg, hKe, hKg, hn', lt, lu, h3⟩ := cp0
        refine ⟨_, rfl, rfl, _, rfl, ?_⟩
        rw [dV]
        by_cases hk : kd = 0
        · rw [decide_eq_true hk]
          refine iteT ?_
          refine ⟨_, rfl, d, 20, rfl, hDr y, by decide, fun Hc rv yc rv0 rv1 => ?_⟩
          obtain ⟨dxr, rr, hslr, _⟩ := (hPr (y.trans yc)).bk
          refine ⟨_, _, rfl, rfl, _, rfl, _, rfl, _, rfl, b, _, dxr, _, _, 0, _, rfl, hslr, G.sclsB, G.slM, rfl, d, M, rfl, hDr (y.trans yc), by omega, fun Hd rk yd rk0 rk1 => ?_⟩
          have yy := (y.trans yc).trans yd
          have hKe2 := (hKe.ed yc (hDr y)).ed yd (hDr (y.trans yc))
          have hKg2 := (hKg.ed yc (hDr y)).ed yd (hDr (y.trans yc))
          refine ⟨e, _, rfl, DPut.k (k := kI rk) hKe2 (by rw [List.length_map]; exact lenS (by omega)), ?_⟩
          rw [putK_dk]
          exact hB _ _ ⟨e, g, pt t' rk (rv - 3), us', _, _, _, _, _, _, rfl, Ed.mut yy he hKe2 trivial, he, hg, heg, upd_same, by unfold KD; rw [upd_ne (Ne.symm heg)]; exact hKg2, pt_nodup hn', by have := pt_len t' rk (rv - 3); omega, by omega, h3⟩
        · rw [decide_eq_false hk]
          exact iteF (hB _ _ ⟨e, g, t', us', _, _, _, _, _, _, rfl, y, he, hg, heg, hKe, hKg, hn', by omega, by omega, h3⟩)
      intro σb Hb cp1
      refine seq_cut (CpS T d b a pr dd c tl wd H0' kd us 7) (fun B hB => ?_) ?_
      · obtain ⟨e, g, t', us', v8, v9, v13, v14, v15, v16, rfl, y, he, hg, heg, hKe, hKg, hn', lt, lu, h3⟩ := cp1
        refine ⟨_, rfl, rfl, _, rfl, ?_⟩
        rw [dV]
        by_cases hk : kd = 1
        · rw [decide_eq_true hk]
          refine iteT ?_
          obtain ⟨dxr, rr, hslr, hrr⟩ := (hPr y).bk
          obtain ⟨as, h1, h2, _⟩ := hrr.sq
          refine ⟨_, rfl, _, rfl, b, _, dxr, _, _, 1, _, rfl, hslr, G.sclsB, G.slR, rfl, rr, _, rfl, .inr (SqT.of h1), _, _, rfl, rfl, d, _, rfl, hDr y, by omega, fun Hc rv yc rv0 rv1 => ?_⟩
          obtain ⟨dxr, rr, hslr, _⟩ := (hPr (y.trans yc)).bk
          refine ⟨_, _, rfl, rfl, _, rfl, _, rfl, _, rfl, b, _, dxr, _, _, 0, _, rfl, hslr, G.sclsB, G.slM, rfl, d, M, rfl, hDr (y.trans yc), by omega, fun Hd rk yd rk0 rk1 => ?_⟩
          have yy := (y.trans yc).trans yd
          have hKe2 := (hKe.ed yc (hDr y)).ed yd (hDr (y.trans yc))
          have hKg2 := (hKg.ed yc (hDr y)).ed yd (hDr (y.trans yc))
          refine ⟨g, _, rfl, DPut.k (k := kI rk) hKg2 (by rw [List.length_map]; exact lenS (by omega)), ?_⟩
          rw [putK_dk]
          exact hB _ _ ⟨e, g, t', pt us' rk (rv - 1), _, _, _, _, _, _, rfl, Ed.mut yy hg hKg2 trivial, he, hg, heg, by unfold KD; rw [upd_ne heg]; exact hKe2, upd_same, hn', by omega, by have := pt_len us' rk (rv - 1); omega, fun z => by omega⟩
        · rw [decide_eq_false hk]
          exact iteF (hB _ _ ⟨e, g, t', us', _, _, _, _, _, _, rfl, y, he, hg, heg, hKe, hKg, hn', by omega, by omega, h3⟩)
      intro σb Hb cp2
      refine seq_cut (CpS T d b a pr dd c tl wd H0' kd us 8) (fun B hB => ?_) ?_
      · obtain ⟨e, g, t', us', v8, v9, v13, v14, v15, v16, rfl, y, he, hg, heg, hKe, hKg, hn', lt, lu, h3⟩ := cp2
        refine ⟨_, rfl, rfl, _, rfl, ?_⟩
        rw [dV]
        by_cases hk : kd = 2
        · rw [decide_eq_true hk]
          refine iteT ?_
          refine ⟨_, rfl, fun p hp => ?_⟩
          have yp : Ex T Hb (upd Hb p (.dK [])) := Ex.new hp
          have hKp : KD (upd Hb p (.dK [])) p [] := upd_same
          refine ⟨e, p, _, _, rfl, rfl, hKe.ex yp, hKp, allI_dk t', allI_dk [], _, rfl, ?_⟩
          rw [eqI_eqT, eqT_nil]
          have hKe1 := hKe.ex yp
          have hKg1 := hKg.ex yp
          have y1 := y.trans (Ed.of yp)
          generalize upd Hb p (.dK []) = Hc at *
          by_cases ht : t' = []
          · rw [decide_eq_true ht]
            exact iteF (hB _ _ ⟨e, g, t', us', _, _, _, _, _, _, rfl, y1, he, hg, heg, hKe1, hKg1, hn', by omega, by omega, h3⟩)
          · rw [decide_eq_false ht]
            refine iteT ?_
            refine ⟨_, rfl, e, rfl, .inl ⟨_, .inl hKe1⟩, _, rfl, _, rfl, e, _, rfl, .inl hKe1, fun l hl => ?_⟩
            have yl : Ex T Hc (upd Hc l (.lst ((dk t').map fun kv => kV kv.1))) := Ex.new hl
            have y2 := y1.trans (Ed.of (d := d) yl)
            have htl0 : 0 < t'.length := List.length_pos_iff.mpr ht
            refine ⟨d, l, (t'.map (·.1)).map V.int, rfl, hDr y2, .inr ⟨by rw [upd_same, hkv], ne_of_none' hl (hDr y1)⟩, by rw [List.length_map, List.length_map]; exact htl0, by rw [List.length_map, List.length_map]; omega, fun Hd v yd hv => ?_⟩
            obtain ⟨m, hm, rfl⟩ := List.mem_map.mp hv
            obtain ⟨w, hw⟩ := Option.isSome_iff_exists.mp (lk_mem.mpr hm)
            have hKe2 := (hKe1.ex yl).ed yd (hDr y2)
            have hKg2 := (hKg1.ex yl).ed yd (hDr y2)
            refine ⟨_, kI m, .int w, hKe2, rfl, by rw [valV_dk, hw]; rfl, ?_⟩
            rw [dropK_dk]
            have hlf := List.length_filter_le (fun p : Int × Int => decide (p.1 ≠ m)) t'
            refine hB _ _ ⟨e, g, t'.filter fun p => decide (p.1 ≠ m), us', _, _, _, _, _, _, rfl, Ed.mut (y2.trans yd) he hKe2 trivial, he, hg, heg, upd_same, by unfold KD; rw [upd_ne (Ne.symm heg)]; exact hKg2, ?_, by omega, by omega, h3⟩
            have : (t'.filter fun p => decide (p.1 ≠ m)).Sublist t' := List.filter_sublist
            exact (this.map (·.1)).nodup hn'
        · rw [decide_eq_false hk]
          exact iteF (iteF (hB _ _ ⟨e, g, t', us', _, _, _, _, _, _, rfl, y, he, hg, heg, hKe, hKg, hn', by omega, by omega, h3⟩))
      intro σb Hb cp3
      refine seq_cut (fun σ' H' => ∃ us2, CpS T d b a pr dd c tl wd H0' kd us2 9 σ' H') (fun B hB => ?_) ?_
      · obtain ⟨e, g, t', us', v8, v9, v13, v14, v15, v16, rfl, y, he, hg, heg, hKe, hKg, hn', lt, lu, h3⟩ := cp3
        have stay : ∀ {H' : Hp} {us2 : List (Int × Int)} {v8 v13 v15 v16 : Option V}, Ed T d H0' H' → KD H' e t' → KD H' g us2 → us2.length ≤ 9 → B [some (.ref d), some (.ref b), some (.ref a), some (.ref pr), some (.str (wS wd)), some (.ref dd), some (.ref c), some (.ref tl), v8, v9, some (.ref e), some (.ref g), some (.int kd), v13, v14, v15, v16] H' := fun y h1 h2 l => hB _ _ ⟨_, e, g, t', _, _, _, _, _, _, _, rfl, y, he, hg, heg, h1, h2, hn', by omega, l, fun _ => rfl⟩
        refine ⟨_, rfl, rfl, _, rfl, ?_⟩
        rw [dV]
        by_cases hk : kd = 3
        · rw [decide_eq_true hk]
          refine iteT ?_
          have eu := h3 hk
          subst eu
          refine ⟨_, rfl, fun p hp => ?_⟩
          have yp : Ex T Hb (upd Hb p (.dK [])) := Ex.new hp
          have hKp : KD (upd Hb p (.dK [])) p [] := upd_same
          refine ⟨g, p, _, _, rfl, rfl, hKg.ex yp, hKp, allI_dk us', allI_dk [], _, rfl, ?_⟩
          rw [eqI_eqT, eqT_nil]
          have hKe1 := hKe.ex yp
          have hKg1 := hKg.ex yp
          have y1 := y.trans (Ed.of yp)
          generalize upd Hb p (.dK []) = Hc at *
          by_cases ht : us' = []
          · rw [decide_eq_true ht]
            exact iteF (stay y1 hKe1 hKg1 (by omega))
          · rw [decide_eq_false ht]
            refine iteT ?_
            refine ⟨_, rfl, _, rfl, g, _, rfl, .inl hKg1, fun l hl => ?_⟩
            have yl : Ex T Hc (upd Hc l (.lst ((dk us').map fun kv => kV kv.1))) := Ex.new hl
            have y2 := y1.trans (Ed.of (d := d) yl)
            have htl0 : 0 < us'.length := List.length_pos_iff.mpr ht
            refine ⟨d, l, (us'.map (·.1)).map V.int, rfl, hDr y2, .inr ⟨by rw [upd_same, hkv], ne_of_none' hl (hDr y1)⟩, by rw [List.length_map, List.length_map]; exact htl0, by rw [List.length_map, List.length_map]; omega, fun Hd v yd hv => ?_⟩
            obtain ⟨m, hm, rfl⟩ := List.mem_map.mp hv
            obtain ⟨ix, hix⟩ := Option.isSome_iff_exists.mp (lk_mem.mpr hm)
            obtain ⟨kx, ⟨ru, w⟩, rfl, hRi, _, hmr, _⟩ := hDj.us1 m ix hix
            have hri : rs[kx]? = some ru := (List.getElem?_zip_eq_some.mp hRi).1
            have hKe2 := (hKe1.ex yl).ed yd (hDr y2)
            have hKg2 := (hKg1.ex yl).ed yd (hDr y2)
            have y3 := y2.trans yd
            clear hKe1 hKg1 yl
            -- the rules that hold the mark
            obtain ⟨dxr, rr, hslr, hrr⟩ := (hPr y3).bk
            obtain ⟨as, h1, h2, h3'⟩ := hrr.sq
            refine ⟨_, rfl, b, _, dxr, _, _, 1, _, rfl, hslr, G.sclsB, G.slR, rfl, rr, _, rfl, SqT.of h1, fun D hD => ?_⟩
            have hasl : as.length ≤ 16 := by omega
            refine lc_val (T := T) (walk_enumT (xs := as.map V.ref)) (ds := List.range as.length) (by rw [List.length_range, List.length_map]) (by rw [List.length_map]; omega) hD (fun Hx x => SqT.of (x.tup h1)) (fun _ _ _ _ _ _ y => ypair_ex y) (fun i => match rs[i]? with | none => false | some r => decide (m ∈ r.2)) (fun i : Nat => V.int (i : Int)) ?_ ?_
            · intro i q v Hx Hy hq _ x y S hS
              obtain ⟨z, u1, u2, rfl, hz, rfl, gg1, gg2⟩ := y
              obtain rfl : V.int (i : Int) = u1 := Option.some.inj gg1
              obtain ⟨ai, hai, rfl⟩ := at_of gg2
              have hqi : q = i := by
                rw [List.getElem?_range] at hq
                · exact (Option.some.inj hq).symm
                · have := (List.getElem?_eq_some_iff.mp hq).1
                  rw [List.length_range] at this
                  exact this
              subst hqi
              obtain ⟨r', hr', hra⟩ := pair_at h3' hai
              obtain ⟨pp, cc, ha1, ha2, ha3⟩ := hra
              refine ⟨z, _, rfl, SqT.of upd_same, rfl, _, _, rfl, _, _, rfl, rfl, hS _ rfl (fun Hz xz Q3 k3 => ?_) (fun _ Hz xz Q3 k3 => ?_)⟩
              · have xx := x.trans xz
                refine ⟨_, rfl, _, rfl, ai, _, 1, .ref cc, rfl, rfl, SqT.of (xx.tup ha1), rfl, ?_⟩
                refine Mem.in_ (Mem.tup (ha3.ex xx)) ⟨_, rfl, k3 _ _ (Ex.refl T Hz) ?_⟩
                dsimp only
                rw [hr']
              · exact ⟨_, rfl, k3 _ _ (Ex.refl T Hz) rfl⟩
            intro He xe hDe
            have y4 := y3.trans (Ed.of (d := d) xe)
            have hKe3 := hKe2.ex xe
            have hKg3 := hKg2.ex xe
            have hDd : D ≠ d := ne_of_none' hD (hDr y3)
            have hin : kx ∈ (List.range as.length).filter (fun i => match rs[i]? with | none => false | some r => decide (m ∈ r.2)) := by
              refine List.mem_filter.mpr ⟨List.mem_range.mpr ?_, ?_⟩
              · have := (List.getElem?_eq_some_iff.mp hri).1
                omega
              · rw [hri]
                exact decide_eq_true hmr
            have hll := List.length_filter_le (fun i => match rs[i]? with | none => false | some r => decide (m ∈ r.2)) (List.range as.length)
            rw [List.length_range] at hll
            refine ⟨_, rfl, _, rfl, d, D, _, rfl, hDr y4, .inr ⟨hDe, hDd⟩, by rw [List.length_map]; exact List.length_pos_of_mem hin, by rw [List.length_map]; omega, fun Hf v yf hv => ?_⟩
            obtain ⟨kz, _, rfl⟩ := List.mem_map.mp hv
            have hKe4 := hKe3.ed yf (hDr y4)
            have hKg4 := hKg3.ed yf (hDr y4)
            refine ⟨_, rfl, _, rfl, g, _, rfl, DPut.k (k := kI m) hKg4 (by rw [List.length_map]; exact lenS (by omega)), ?_⟩
            rw [putK_dk]
            exact stay (Ed.mut (y4.trans yf) hg hKg4 trivial) (by unfold KD; rw [upd_ne heg]; exact hKe4) upd_same (by have := pt_len us' m (kz : Int); omega)
        · rw [decide_eq_false hk]
          exact iteF (iteF (stay y hKe hKg (by omega)))
      rintro σb Hb ⟨us2, e, g, t', us', v8, v9, v13, v14, v15, v16, rfl, y, he, hg, heg, hKe, hKg, hn', lt, lu, _⟩
      have hddb := hdd0.ed y hd0
      refine ⟨_, rfl, _, rfl, _, rfl, _, rfl, _, rfl, _, rfl, _, rfl, b, a, pr, dd, e, g, wd, M, rs, th, ws, due, t', us', rfl, hPr y, hddb, hKe, hKg, hnd, hSol.nn, by omega, fun Hc xc => ?_⟩
      have yc := y.trans (Ed.of (d := d) xc)
      refine ⟨_, rfl, _, rfl, fun x dx hx hdx hne => ?_⟩
      have w1 : Ex T Hc (upd Hc dx (.own x)) := Ex.new hdx
      have hx2 : upd Hc dx (.own x) x = none := by rw [upd_ne (Ne.symm hne)]; exact hx
      have w2 : Ex T Hc (upd (upd Hc dx (.own x)) x (.ins (He.ga K "Costs") dx [])) := w1.push hx2
      refine ⟨x, dx, e, g, t', us', rfl, upd_same, (hKe.ex xc).ex w2, (hKg.ex xc).ex w2, fun Hd eb hcx => ⟨rfl, ?_⟩⟩
      have xd : Ex T Hc Hd := Ex.eb w2 eb fun b hb => by rw [List.mem_singleton.mp hb]; exact hx
      obtain ⟨dx', p', u', hi1, _, _⟩ := id hcx
      have yd := yc.trans (Ed.of (d := d) xd)
      refine ⟨x, dx', _, rfl, hi1, rfl, _, rfl, _, rfl, _, rfl, _, rfl, x, b, a, pr, wd, M, rs, th, ws, t', us', rfl, hcx, hPr yd, hn', fun He cl xe hcl hclo => ?_⟩
      rw [hshow hcl hclo hn']
      refine ⟨_, rfl, rfl, _, rfl, ?_⟩
      rw [decide_eq_true rfl]
      exact iteF ⟨_, _, _, _, _, _, _, _, _, rfl, x0.trans (yd.trans (Ed.of xe))⟩
    · rintro σ H0 ⟨v8, v9, v10, v11, v12, v13, v14, v15, v16, rfl, x0⟩
      exact k _ ((Ed.of x113).trans x0)


end
end Pb
set_option Elab.async false
set_option linter.all false
set_option maxRecDepth 100000
set_option maxHeartbeats 4000000
namespace Pb
open PySem PySem.Spec PyProof.Rows L2
section
variable {P : Program} {w : World} {K : PySem.W.Frag} {mg : Str → Option Value} {base : Heap} {T : Tb}
theorem m_Bill_shows (G : Gx K mg) : C8.Met P w K mg base 5 (He.ga K "Bill") "shows" (spBillShows T K) [] := by
  obtain ⟨fd, F, b⟩ := f_Bill_shows (P := P) (w := w) (base := base) (T := T) G
  exact ⟨_, fd, _, [], G.cls_Bill, G.me_Bill_shows, F, b, .nil⟩
end
theorem seq_nn {r : Int} {n : Nat} (h0 : 0 ≤ r) (h1 : r < n) : seqIndex? r n = some r.toNat := by
  have h2 : ¬ r < 0 := by omega
  unfold seqIndex?
  simp [h2, h0, h1]
theorem erase_map {α β : Type} (f : α → β) : ∀ (l : List α) (k : Nat), (l.map f).eraseIdx k = (l.eraseIdx k).map f
  | [], k => by simp
  | x :: l, 0 => rfl
  | x :: l, k + 1 => by
    rw [List.map_cons, List.eraseIdx_cons_succ, List.eraseIdx_cons_succ, List.map_cons, erase_map f l k]
section
variable {K : PySem.W.Frag} {T : Tb} {H H' : Hp} {d q : Addr} {u : HO} {od : Obj}
theorem lock_dr (h : H q = some u) (w : IsDc u) (hd : Dr H d) : Dr (upd H q (.frz od u)) d := by
  obtain ⟨ns, l, e⟩ := hd
  refine ⟨ns, l, ?_⟩
  rw [upd_ne (fun z => by rw [z, h] at e; rw [Option.some.inj e] at w; exact w)]
  exact e
theorem lock_ed (h : H q = some u) (w : IsDc u) (hd : Dr H d) (x : Ed T d (upd H q (.frz od u)) H') : H' q = some (.frz od u) ∧ Ed T d H (upd H' q u) := by
  have hqd : q ≠ d := fun z => by
    obtain ⟨ns, l, e⟩ := hd
    rw [z, e] at h
    rw [← Option.some.inj h] at w
    exact w
  have hf := x.all q _ hqd (upd_same (H := H) (a := q) (o := .frz od u)) (fun _ z => by cases z)
  have nt : ∀ ps, u ≠ .tbl ps := fun ps z => by rw [z] at w; exact w
  have nc : ∀ c q, u ≠ LamX.CodeO c q := fun c q z => by rw [z] at w; exact w
  refine ⟨hf, fun b o' nb e n => ?_, fun t => ?_, fun hd => ?_, fun b xs e => ?_⟩
  · by_cases hb : b = q
    · rw [hb, h] at e
      rw [hb, upd_same]
      exact e
    · rw [upd_ne hb]
      exact x.all b o' nb (by rw [upd_ne hb]; exact e) n
  · have t1 := tabs_upd (o := .frz od u) t h nt nc
    exact tabs_upd (x.tabs t1) hf (fun _ z => by cases z) (fun c q z => by unfold LamX.CodeO at z; cases z)
  · obtain ⟨ns, l, e⟩ := x.dr (lock_dr h w hd)
    exact ⟨ns, l, by rw [upd_ne (Ne.symm hqd)]; exact e⟩
  · have e2 := x.im _ _ (lock_im (o := .frz od u) h w _ _ e)
    rw [upd_ne (fun z => by rw [z, hf] at e2; cases e2)]
    exact e2
theorem im_frz {o : HO} (hf : H' q = some (.frz od u)) : Im H' (upd H' q o) := fun b xs e => by
  rw [upd_ne (fun z => by rw [z, hf] at e; cases e)]
  exact e
theorem pairs_of : ∀ {es : List (List Int × Int)} {acc : List V}, Paired (fun (d : List Int × Int) v => ∃ q o, v = V.ref q ∧ H q = some (.tup [.ref o, .int d.2]) ∧ HT H o d.1) es acc →
    ∃ ps : List Addr, acc = ps.map V.ref ∧ Paired (fun p kv => ∃ b, SqT K H p [.ref b, kv.2] ∧ H b = some (.tup (kv.1.map kV))) ps (dt es)
  | _, _, .nil => ⟨[], rfl, .nil⟩
  | d :: _, _, .cons h t => by
    obtain ⟨q, o, rfl, h1, h2⟩ := h
    obtain ⟨ps, g1, g2⟩ := pairs_of t
    exact ⟨q :: ps, by rw [g1]; rfl, .cons ⟨o, SqT.of h1, by rw [mapK]; exact h2⟩ g2⟩
theorem TR.ed {t : List (List Int × Int)} (h : TR H q t) (x : Ed T d H H') (hd : Dr H d) : TR H' q t := by
  rcases h with h | ⟨od, h⟩
  · exact .inl (x.kp hd h (fun _ z => by cases z) (fun _ z => by cases z))
  · exact .inr ⟨od, x.kp hd h (fun _ z => by cases z) (fun _ z => by cases z)⟩
/-- a list of sets is no list of draws -/
theorem sts_dr {l : Addr} {bs : List (Addr × List Int)} (h : Sts H l bs) (n : 0 < bs.length) (hd : Dr H d) : l ≠ d := fun z => by
  obtain ⟨ns, _, e⟩ := hd
  have h1 := h.1
  rw [z, e] at h1
  cases bs with
  | nil => exact absurd n (Nat.lt_irrefl _)
  | cons b bs =>
    cases ns with
    | nil => cases h1
    | cons y ns =>
      rw [List.map_cons, List.map_cons] at h1
      injection h1 with h1
      injection h1 with h1
      injection h1 with h1 _
      cases h1
end
theorem fl_len {M : Int} {fl : List (List Int × Int)} (h0 : 0 ≤ M) (h5 : M ≤ 5) (hs : ∀ s ∈ fl.map (·.1), IsS M s) (n : (fl.map (·.1)).Nodup) : fl.length ≤ 32 := by
  have := nodup_le n (m := subs M) fun s h => (subs_iff h0).mpr (hs s h)
  rw [List.length_map] at this
  have := subs_len h0 h5
  omega
theorem okI_all {R : List PR} {th goal is : List Int} {fl : List (List Int × Int)} (h : showsBillB R th goal is fl = true) : is.all (okI R) = true := by
  unfold showsBillB at h
  cases e : is.all (okI R) with
  | true => rfl
  | false =>
    rw [e] at h
    simp at h
end Pb
set_option Elab.async false
set_option linter.all false
set_option maxRecDepth 100000
set_option maxHeartbeats 4000000

namespace Pb
open PySem PySem.Spec PyProof.Rows L2
section
variable {P : Program} {w : World} {K : PySem.W.Frag} {mg : Str → Option Value} {base : Heap} {T : Tb}

def spBillPapers (T : Tb) (K : PySem.W.Frag) : Sp := fun vs H Q _ => ∃ (d b a pr gl : Addr) (M : Int) (rs : List Ru) (th ws goal : List Int), vs = [.ref d, .ref b, .ref a, .ref pr, .ref gl] ∧ Dr H d ∧ Pr K H b a pr M rs th ws ∧ HT H gl goal ∧ IsS M goal ∧ LamX.Tabs T H ∧ ∀ H', Ed T d H H' → Q (.bl true) H'
/-- a turn's state: the list and the dict in the making -/
def BpS (T : Tb) (d b a pr gl c : Addr) (H0 : Hp) (kd due M : Int) (n : Nat) (fresh : Bool) (σ : L2.St) (H' : Hp) : Prop := ∃ (i e : Addr) (is' : List Int) (fl' : List (List Int × Int)) (v7 v11 v12 v13 : Option V), σ = [some (.ref d), some (.ref b), some (.ref a), some (.ref pr), some (.ref gl), some (.int due), some (.ref c), v7, some (.ref i), some (.ref e), some (.int kd), v11, v12, v13] ∧ Ed T d H0 H' ∧ H0 i = none ∧ (fresh = true → H0 e = none) ∧ H' i = some (.lst (is'.map V.int)) ∧ TD H' e fl' ∧ (∀ s ∈ fl'.map (·.1), IsS M s) ∧ (fl'.map (·.1)).Nodup ∧ is'.length ≤ n

abbrev N_law_bill_papers : List Str := ["_law_draws", "_law_book", "_law_thing", "_law_prices", "_law_goal", "_law_due", "_law_found", "_law_turn", "_law_indices", "_law_floors", "_law_kind", "_law_is_due", "_law_at", "_law_one"]
theorem sc_law_bill_papers : FnScope N_law_bill_papers ["_law_draws", "_law_book", "_law_thing", "_law_prices", "_law_goal"] (defScope sLBillPapers) := ⟨rfl, rfl, rfl, by decide +kernel, rfl, by decide +kernel, by decide +kernel⟩
theorem c_law_bill_papers (B : Gb K mg base) : C8.Cal P w K mg base 6 "_law_bill_papers" (spBillPapers (Tt K) K) [] := by
  have G := B.g
  refine calOf G 35 rfl rfl sc_law_bill_papers (fun _ _ _ _ _ _ us hl => match us, hl with | [_, _, _, _, _], _ => rfl) (fun vs H Q E h => ?_) (fun f cdv A outer s H vs Q E hr h => ?_)
  · obtain ⟨d, b, a, pr, gl, M, rs, th, ws, goal, rfl, hd, hP, hg, hgs, htab, k⟩ := h
    rfl
  · obtain ⟨d, b, a, pr, gl, M, rs, th, ws, goal, rfl, hd, hP, hg, hgs, htab, k⟩ := h
    have hu := hu_of hr
    refine ⟨_, (pss_cons (ps_par (i := 5) (j := 6) rfl sc_law_bill_papers.nd rfl rfl (by decide) rfl rfl (pa_cons (pe_dget1 hu (C8.pe_c (c_law_bills B) hr (by decide) (by rfl) (pa_cons (pv 1) (pa_cons (pv 3) (pa_cons (pv 4) pa_nil)))) (pv 2) ⟨rfl, rfl, rfl, rfl⟩) (pa_cons (C8.pe_c (c_bill B) hr (by decide) (by rfl) (pa_cons (pv 1) (pa_cons (pv 2) (pa_cons (pv 3) (pa_cons (pv 4) pa_nil))))) pa_nil)) (by rfl))
      (pss_cons (ps_if (PW.pt (pw_or (pt_cmpR op_ne (C8.pe_c (c_least_bill B) hr (by decide) (by rfl) (pa_cons (pv 1) (pa_cons (pv 2) (pa_cons (pv 3) (pa_cons (pv 4) pa_nil))))) (pv 5) (nomark _)) (pw_or1 (pt_cmpR op_ne (pe_cmp (pc_isN (pv 6))) (pe_cmp (pc_isN (pv 5))) (nomark _)))))
        (pss_one (ps_ret pe_bl)) pss_nil)
      (pss_cons (ps_if (pt_cmp (pc_isN (pv 6)))
        (pss_one (ps_ret (pe_not (C8.pe_mt (m_Bill_shows (T := Tt K) G) hr (by decide) (C8.pe_mk (c_Bill (T := Tt K) G) hr (by decide) (by rfl) (pa_cons (pe_lst pa_nil) (pa_cons pe_dnewT pa_nil))) (pa_cons (pv 1) (pa_cons (pv 2) (pa_cons (pv 3) (pa_cons (pv 4) pa_nil)))))))) pss_nil)
      (pss_cons (ps_if (PW.pt (pw_or (pt_cmpR op_isnot_bl (C8.pe_mt (m_Bill_shows (T := Tt K) G) hr (by decide) (pv 6) (pa_cons (pv 1) (pa_cons (pv 2) (pa_cons (pv 3) (pa_cons (pv 4) pa_nil))))) pe_bl (nomark _)) (pw_or1 (pt_cmpR op_ne (pe_callB (cr_sum rfl) (by rfl) G.b_sum (by decide +kernel) (pa_cons (pe_lc (own := [("_law_at", 12)]) (g := gName 12) rfl sc_law_bill_papers.nd (pi_tup (pe_fldK (K := K) rfl (pv 6) rfl)) (blkOk_by (own := [("_law_at", 12)]) (N := N_law_bill_papers) (sc := defScope sLBillPapers) (by decide +kernel)) (fun _ _ _ _ _ => (pg_name (i := 12) sc_law_bill_papers.nd rfl (Or.inl rfl))) (fun _ _ _ _ _ => pts_nil) (fun _ _ _ _ _ => (pe_ix (ix_tupK (K := K) rfl) (pv 3) (pv 12) (fun _ _ => rfl)))) pa_nil)) (pv 5) (nomark _)))))
        (pss_one (ps_ret pe_bl)) pss_nil)
      (pss_cons (ps_for PassesOwn.never rfl (pi_range1 (by rfl) G.b_range (pa_cons pe_int pa_nil)) (pg_name (i := 7) sc_law_bill_papers.nd rfl (Or.inl rfl))
        (pss_cons (ps_asg (pe_tup (pa_cons (pe_callTy call_list_of (by rfl) G.b_list (by decide +kernel) (pa_cons (pe_fldK (K := K) rfl (pv 6) rfl) pa_nil)) (pa_cons (pe_callTy (call_dictT (hu2_of hr)) (by rfl) G.b_dict (by decide +kernel) (pa_cons (pe_fldK (K := K) rfl (pv 6) rfl) pa_nil)) pa_nil))) (pg_tup rfl (pgs_cons (pg_name (i := 8) sc_law_bill_papers.nd rfl (Or.inl rfl)) (pgs_cons (pg_name (i := 9) sc_law_bill_papers.nd rfl (Or.inr rfl)) pgs_nil))))
          (pss_cons (ps_set (i := 10) sc_law_bill_papers.nd rfl (Or.inl rfl) (C8.pe_c (c_law_take (T := Tt K) G) hr (by decide) (by rfl) (pa_cons (pv 0) (pa_cons pe_int pa_nil))))
          (pss_cons (ps_if (pt_cmpR op_eq (pv 10) pe_int (nomark _))
            (pss_one (ps_dput hu (pv 9) (C8.pe_c (c_law_pick (T := Tt K) G) hr (by decide) (by rfl) (pa_cons (pv 0) (pa_cons (C8.pe_c (c_law_sets B) hr (by decide) (by rfl) (pa_cons (pe_slK (K := K) rfl (pv 1)) pa_nil)) pa_nil))) (pe_op op_sub (C8.pe_c (c_law_take (T := Tt K) G) hr (by decide) (by rfl) (pa_cons (pv 0) (pa_cons (pe_op op_add (pv 5) pe_int) pa_nil))) pe_int) rfl)) pss_nil)
          (pss_cons (ps_if (PW.pt (pw_and (pt_cmpR op_eq (pv 10) pe_int (nomark _)) (pw_and1 (pt_cmpR (op_neD hr.units) (pv 8) (pe_lst pa_nil) (nomark _)))))
            (pss_one (ps_expr (pe_bm PySem.F.plainAttrs_list PySem.F.slot_list_pop PySem.F.type_list_pop mt_popAt (pv 8) (pa_cons (C8.pe_c (c_law_take (T := Tt K) G) hr (by decide) (by rfl) (pa_cons (pv 0) (pa_cons (pe_callB call_len_seq (by rfl) G.b_len (by decide +kernel) (pa_cons (pv 8) pa_nil)) pa_nil))) pa_nil)))) pss_nil)
          (pss_cons (ps_if (pt_cmpR op_eq (pv 10) pe_int (nomark _))
            (pss_one (ps_expr (pe_bm PySem.F.plainAttrs_list PySem.F.slot_list_append PySem.F.type_list_append mt_append (pv 8) (pa_cons (C8.pe_c (c_law_take (T := Tt K) G) hr (by decide) (by rfl) (pa_cons (pv 0) (pa_cons (pe_op op_add (pe_callB call_len_seq (by rfl) G.b_len (by decide +kernel) (pa_cons (pe_slK (K := K) rfl (pv 1)) pa_nil)) pe_int) pa_nil))) pa_nil)))) pss_nil)
          (pss_cons (ps_if (pt_cmpR op_eq (pv 10) pe_int (nomark _))
            (pss_one (ps_set (i := 9) sc_law_bill_papers.nd rfl (Or.inr rfl) (pe_callTy (call_dictPT rfl (hu2_of hr)) (by rfl) G.b_dict (by decide +kernel) (pa_cons (pe_lock (pe_lc (own := [("_law_one", 13)]) (g := gName 13) rfl sc_law_bill_papers.nd (pi_keys (pv 9)) (blkOk_by (own := [("_law_one", 13)]) (N := N_law_bill_papers) (sc := defScope sLBillPapers) (by decide +kernel)) (fun _ _ _ _ _ => (pg_name (i := 13) sc_law_bill_papers.nd rfl (Or.inl rfl))) (fun _ _ _ _ _ => pts_one (PW.pt (pw_and (pt_cmpR op_gt (pe_dget hu (pv 9) (pv 13) (fun _ _ => rfl)) pe_int (nomark _)) (pw_and1 (pt_cmpR op_gt (C8.pe_c (c_law_take (T := Tt K) G) hr (by decide) (by rfl) (pa_cons (pv 0) (pa_cons pe_int pa_nil))) pe_int (nomark _)))))) (fun _ _ _ _ _ => (pe_tup (pa_cons (pv 13) (pa_cons (pe_dget hu (pv 9) (pv 13) (fun _ _ => rfl)) pa_nil)))))) pa_nil)))) pss_nil)
          (pss_cons (ps_set (i := 11) sc_law_bill_papers.nd rfl (Or.inl rfl) (C8.pe_c (c_law_bill_right (T := Tt K) G) hr (by decide) (by rfl) (pa_cons (pv 1) (pa_cons (pv 2) (pa_cons (pv 3) (pa_cons (pv 4) (pa_cons (pv 8) (pa_cons (pv 9) pa_nil))))))))
          (pss_one (ps_if (pt_cmpR op_ne (C8.pe_mt (m_Bill_shows (T := Tt K) G) hr (by decide) (C8.pe_mk (c_Bill (T := Tt K) G) hr (by decide) (by rfl) (pa_cons (pv 8) (pa_cons (pv 9) pa_nil))) (pa_cons (pv 1) (pa_cons (pv 2) (pa_cons (pv 3) (pa_cons (pv 4) pa_nil))))) (pv 11) (nomark _))
            (pss_one (ps_ret pe_bl)) pss_nil))))))))))
      (pss_one (ps_ret pe_bl))))))), ?_⟩
    have hR := hP.ok
    have hRl := hP.len
    have hm1 := hP.m1
    have hm5 := hP.m5
    have h0 : 0 ≤ M := by omega
    have hnr := hP.nr
    refine ⟨_, rfl, _, rfl, _, rfl, b, a, pr, gl, M, rs, th, ws, goal, rfl, hP, hg, hgs, htab, fun H1 dB tB x1 hTD hnB hGol => ?_⟩
    refine ⟨dB, rfl, isD_tr (.inl hTD), _, rfl, (lk tB th).map V.int, dget_tr (.inl hTD) (hP.ht.ex x1), ?_⟩
    rw [getD_opt]
    refine ⟨_, rfl, _, rfl, _, rfl, _, rfl, b, a, pr, gl, M, rs, th, ws, goal, rfl, hP.ex x1, hg.ex x1, hgs, x1.2 htab, fun H2 g x2 hG hgn => ?_, fun H2 g c is fl t h x2 hG hgt hbi hw hgoal hil hfl hfk hfn => ?_⟩
    · -- none
      have eg : lk tB = g := hGol.uniq hR hG
      rw [eg, hgn]
      have x12 := x1.trans x2
      refine ⟨_, _, rfl, ?_⟩
      refine ⟨_, rfl, _, rfl, _, rfl, _, rfl, b, a, pr, gl, M, rs, th, ws, goal, rfl, hP.ex x12, hg.ex x12, hgs, x12.2 htab, fun H3 g' x3 hG' => ?_⟩
      have eg' : g' = g := hG'.uniq hR hG
      rw [eg', hgn]
      refine ⟨_, rfl, rfl, _, rfl, ?_⟩
      rw [decide_eq_true rfl]
      refine iteF ?_
      refine ⟨_, rfl, _, rfl, rfl, _, rfl, ?_⟩
      refine iteF ?_
      refine ⟨_, rfl, _, rfl, iteT ?_⟩
      refine ⟨by show 0 ≤ sizeLine; exact Nat.zero_le _, fun l hl => ?_⟩
      have x4 : Ex (Tt K) H3 (upd H3 l (.lst [])) := Ex.new hl
      have hl4 : (upd H3 l (.lst [])) l = some (.lst (([] : List Int).map V.int)) := upd_same
      generalize upd H3 l (.lst []) = H4 at *
      refine fun e he => ?_
      have x5 : Ex (Tt K) H4 (upd H4 e (.dT [])) := Ex.new he
      have he5 : TD (upd H4 e (.dT [])) e [] := upd_same
      generalize upd H4 e (.dT []) = H5 at *
      refine fun x dx hx hdx hne => ?_
      have w1 : Ex (Tt K) H5 (upd H5 dx (.own x)) := Ex.new hdx
      have hx2 : upd H5 dx (.own x) x = none := by rw [upd_ne (Ne.symm hne)]; exact hx
      have w2 : Ex (Tt K) H5 (upd (upd H5 dx (.own x)) x (.ins (He.ga K "Bill") dx [])) := w1.push hx2
      refine ⟨x, dx, l, e, [], [], rfl, upd_same, w2.lst (x5.lst hl4), he5.ex w2, kys_of h0 hm5 (fun s hs => (nomatch hs)) List.nodup_nil, fun Hd eb hbx => ⟨rfl, ?_⟩⟩
      have xd : Ex (Tt K) H5 Hd := Ex.eb w2 eb fun b hb => by rw [List.mem_singleton.mp hb]; exact hx
      obtain ⟨dx', p', q', hi1, _, _⟩ := id hbx
      have x6 := (x12.trans x3).trans ((x4.trans x5).trans xd)
      refine ⟨x, dx', _, rfl, hi1, rfl, _, rfl, _, rfl, _, rfl, _, rfl, x, b, a, pr, gl, M, rs, th, ws, goal, [], [], rfl, hbx, hP.ex x6, hg.ex x6, hgs, Nat.zero_le _, Nat.zero_le _, fun s hs => (nomatch hs), fun He xe => ?_⟩
      rw [shows_bill (Nat.zero_le _), bill_none hG hP.hth hgn]
      exact ⟨_, rfl, k _ (Ed.of (x6.trans xe))⟩
    · have eg : lk tB = g := hGol.uniq hR hG
      rw [eg, hgt]
      have x12 := x1.trans x2
      have t0 : 0 ≤ t := hG.nn th t hgt
      have hbill : billB (rs.zip ws) th goal is fl = true := bill_paper hm5 hR hG hP.hth hgt hw hgoal hfl hfk
      have hshow : showsBillB (rs.zip ws) th goal is fl = true := by rw [shows_bill (by omega), hbill]
      have hok := okI_all hshow
      have hlen := fl_len h0 hm5 hfk hfn
      refine ⟨_, _, rfl, ?_⟩
      refine ⟨_, rfl, _, rfl, _, rfl, _, rfl, b, a, pr, gl, M, rs, th, ws, goal, rfl, hP.ex x12, hg.ex x12, hgs, x12.2 htab, fun H3 g' x3 hG' => ?_⟩
      have eg' : g' = g := hG'.uniq hR hG
      rw [eg', hgt]
      refine ⟨_, rfl, rfl, _, rfl, ?_⟩
      rw [decide_eq_true rfl]
      refine iteF ?_
      refine ⟨_, rfl, _, rfl, rfl, _, rfl, ?_⟩
      refine iteF ?_
      refine ⟨_, rfl, _, rfl, iteF ?_⟩
      have x13 := x12.trans x3
      have hbi3 := hbi.ex x3
      obtain ⟨dxc, p, q, hc1, hc2, hc3⟩ := id hbi3
      refine ⟨_, rfl, c, dxc, _, rfl, hc1, rfl, _, rfl, _, rfl, _, rfl, _, rfl, c, b, a, pr, gl, M, rs, th, ws, goal, is, fl, rfl, hbi3, hP.ex x13, hg.ex x13, hgs, by omega, by omega, hfk, fun H4 x4 => ?_⟩
      rw [hshow]
      refine ⟨true, true, rfl, rfl, _, rfl, iteF ?_⟩
      have x14 := x13.trans x4
      refine ⟨_, rfl, c, _, dxc, _, _, rfl, x4.ins hc1, G.cls_Bill, G.na_indices, rfl, p, rfl, ⟨_, SqT.of (hc2.ex x4)⟩, fun D hD => ?_⟩
      refine lc_all (T := Tt K) (ds := is) (k := fun ix => V.int (prc (rs.zip ws) ix)) (walk_tup (xs := is.map V.int)) (by rw [List.length_map]) (by rw [List.length_map]; omega) hD (fun Hx x => SqT.of (hc2.ex (x4.trans x))) (fun _ _ _ _ _ _ y => yat_ex y) ?_ ?_
      · intro i ix v Hx Hy hix _ x y S hS
        obtain ⟨e, q⟩ := y
        subst e
        obtain rfl := at_map q hix
        refine hS _ rfl fun Hz xz Q3 k3 => ?_
        obtain ⟨q1, q2⟩ := okI_iff.mp (all_of_all hok hix)
        rw [hRl] at q2
        have hri : rs[ix.toNat]? = some rs[ix.toNat] := List.getElem?_eq_getElem (by omega)
        obtain ⟨w, hwi, hRi⟩ := hP.at_ hri
        have hat : atI (ws.map V.int) ix = some (.int w) := by
          have h : (ws.map V.int)[ix.toNat]? = some (.int w) := by rw [List.getElem?_map, hwi]; rfl
          have := atI_nat h
          have e : ((ix.toNat : Nat) : Int) = ix := by omega
          rw [e] at this
          exact this
        refine ⟨_, rfl, _, rfl, pr, _, ix, .int w, rfl, rfl, SqT.of (hP.hp.ex ((x14.trans x).trans xz)), hat, k3 _ _ (Ex.refl _ Hz) ?_⟩
        unfold prc
        rw [hRi]
      intro H5 x5 hD5
      have hD5' : H5 D = some (.lst ((is.map (prc (rs.zip ws))).map V.int)) := by
        rw [hD5, List.map_map]
        rfl
      have hsum := wlk_sum hw
      dsimp only at hsum
      refine ⟨D, _, rfl, SqL.of hD5', _, rfl, rfl, _, rfl, ?_⟩
      have hst : (is.map (prc (rs.zip ws))).sum = t := by omega
      rw [hst, show optV (some t) = V.int t from rfl, dV, decide_eq_true rfl]
      refine iteF ?_
      have x15 := x14.trans x5
      have hbi5 := hbi3.ex (x4.trans x5)
      have htab5 := x15.2 htab
      clear hc1 hc2 hc3 hbi3 hbi
      refine ⟨4, rfl, by decide, by decide, ?_⟩
      refine for_it (n := 4) walk_range (fun i σ H' => ∃ (v7 v8 v9 v10 v11 v12 v13 : Option V), σ = [some (.ref d), some (.ref b), some (.ref a), some (.ref pr), some (.ref gl), some (.int t), some (.ref c), v7, v8, v9, v10, v11, v12, v13] ∧ Ed (Tt K) d H5 H')
        ⟨_, _, _, _, _, _, _, rfl, Ed.of (Ex.refl (Tt K) H5)⟩ (fun _ _ _ _ _ => trivial) ?_ ?_
      · rintro i x σ H0 H0' hi ⟨v7, v8, v9, v10, v11, v12, v13, rfl, x0⟩ ⟨rfl, rfl⟩
        have hd5 := (Ed.of x15).dr hd
        have hd0 := x0.dr hd5
        have hP0 := (hP.ex x15).ed x0 hd5
        have hg0 := (hg.ex x15).ed x0
        have hbi0 := hbi5.ed x0 hd5
        have ht0 := x0.tabs htab5
        obtain ⟨dx0, p0, u0, hc1, hc2, hc3⟩ := id hbi0
        refine ⟨_, rfl, c, _, dx0, _, _, rfl, hc1, G.cls_Bill, G.na_indices, rfl, p0, _, rfl, .inr (SqT.of hc2), fun i2 hi2 => ?_⟩
        have y1 : Ex (Tt K) H0' (upd H0' i2 (.lst (is.map V.int))) := Ex.new hi2
        refine ⟨_, rfl, c, _, dx0, _, _, rfl, y1.ins hc1, G.cls_Bill, G.na_floors, rfl, u0, _, rfl, .inl (hc3.ex y1), kys_of h0 hm5 hfk hfn, fun e he => ?_⟩
        have y2 : Ex (Tt K) (upd H0' i2 (.lst (is.map V.int))) (upd (upd H0' i2 (.lst (is.map V.int))) e (.dT (dt fl))) := Ex.new he
        have hie : i2 ≠ e := fun z => by
          rw [← z, upd_same] at he
          cases he
        have he0 : H0' e = none := by
          rw [upd_ne (Ne.symm hie)] at he
          exact he
        have hI : (upd (upd H0' i2 (.lst (is.map V.int))) e (.dT (dt fl))) i2 = some (.lst (is.map V.int)) := by rw [upd_ne hie, upd_same]
        have hE : TD (upd (upd H0' i2 (.lst (is.map V.int))) e (.dT (dt fl))) e fl := upd_same
        have y12 := y1.trans y2
        generalize upd (upd H0' i2 (.lst (is.map V.int))) e (.dT (dt fl)) = Ha at *
        refine ⟨by show 2 ≤ sizeLine; decide, fun tq htq => ?_⟩
        have y3 : Ex (Tt K) Ha (upd Ha tq (.tup [.ref i2, .ref e])) := Ex.new htq
        refine ⟨tq, _, rfl, SqT.of upd_same, rfl, _, _, rfl, _, _, rfl, rfl, ?_⟩
        have hI3 := y3.lst hI
        have hE3 := hE.ex y3
        have y13 := Ed.of (d := d) (y12.trans y3)
        generalize upd Ha tq (.tup [.ref i2, .ref e]) = Hb at *
        refine ⟨_, rfl, d, 4, rfl, y13.dr hd0, by decide, fun Hc kd yc kd0 kd1 => ?_⟩
        have hDr : ∀ {H' : Hp}, Ed (Tt K) d H0' H' → Dr H' d := fun y => y.dr hd0
        have hPr : ∀ {H' : Hp}, Ed (Tt K) d H0' H' → Pr K H' b a pr M rs th ws := fun y => hP0.ed y hd0
        have hi2d : i2 ≠ d := ne_of_none' hi2 hd0
        have cp0 : BpS (Tt K) d b a pr gl c H0' kd t M 5 true [some (.ref d), some (.ref b), some (.ref a), some (.ref pr), some (.ref gl), some (.int t), some (.ref c), some (.int (0 + (i : Int))), some (.ref i2), some (.ref e), some (.int kd), v11, v12, v13] Hc := ⟨i2, e, is, fl, _, _, _, _, rfl, y13.trans yc, hi2, fun _ => he0, yc.all i2 _ hi2d hI3 (fun _ z => by cases z), hE3.ed yc (hDr y13), hfk, hfn, hil⟩
        clear hI hE hI3 hE3 y13 yc y12 y1 y2 y3
        dsimp only [gName]
        refine st_cast [some (.ref d), some (.ref b), some (.ref a), some (.ref pr), some (.ref gl), some (.int t), some (.ref c), some (.int (0 + (i : Int))), some (.ref i2), some (.ref e), some (.int kd), v11, v12, v13] rfl ?_
        generalize [some (.ref d), some (.ref b), some (.ref a), some (.ref pr), some (.ref gl), some (.int t), some (.ref c), some (.int (0 + (i : Int))), some (.ref i2), some (.ref e), some (.int kd), v11, v12, v13] = σa at cp0 ⊢
        refine seq_cut (BpS (Tt K) d b a pr gl c H0' kd t M 5 true) (fun S hB => ?_) ?_
        · obtain ⟨i, e, is', fl', v7, v11, v12, v13, rfl, y, hi, he, hI, hE, hks, hkn, hl⟩ := cp0
          refine ⟨_, rfl, rfl, _, rfl, ?_⟩
          rw [dV]
          by_cases hk : kd = 0
          · rw [decide_eq_true hk]
            refine iteT ?_
            refine ⟨_, rfl, _, rfl, _, _, rfl, rfl, d, _, rfl, hDr y, by omega, fun Hd rv yd rv0 rv1 => ?_⟩
            have y1 := y.trans yd
            obtain ⟨dxr, rr, hslr, _⟩ := (hPr y1).bk
            refine ⟨_, _, rfl, rfl, _, rfl, _, rfl, _, rfl, b, _, dxr, _, _, 0, _, rfl, hslr, G.sclsB, G.slM, rfl, M, rfl, h0, hm5, y1.tabs ht0, fun He l bs ye hst hper => ?_⟩
            have y2 := y1.trans (Ed.of (d := d) ye)
            have hbl : bs.length ≤ 32 := by
              have := hper.length_eq
              rw [List.length_map] at this
              have := subs_len h0 hm5
              omega
            have hb0 : 0 < bs.length := by
              have h1 : ([] : List Int) ∈ subs M := (subs_iff h0).mpr ⟨fun m hm => (nomatch hm), .nil⟩
              have h2 := List.length_pos_of_mem (hper.mem_iff.mpr h1)
              rw [List.length_map] at h2
              exact h2
            have hbS : ∀ e ∈ bs, IsS M e.2 := fun e he => (subs_iff h0).mp (hper.mem_iff.mp (List.mem_map_of_mem he))
            refine ⟨d, l, _, rfl, hDr y2, .inr ⟨hst.1, sts_dr hst hb0 (hDr y2)⟩, by rw [List.length_map]; exact hb0, by rw [List.length_map]; omega, fun Hf v yf hv => ?_⟩
            obtain ⟨⟨ob, s⟩, hm, rfl⟩ := List.mem_map.mp hv
            have hsS := hbS _ hm
            have hob : HT Hf ob s := (hst.2 _ hm).ed yf
            have y3 := y2.trans yf
            have hE3 := ((hE.ed yd (hDr y)).ex ye).ed yf (hDr y2)
            have hid : i ≠ d := ne_of_none' hi hd0
            have hI3 : Hf i = some (.lst (is'.map V.int)) := yf.all i _ hid (ye.lst (yd.all i _ hid hI (fun _ z => by cases z))) (fun _ z => by cases z)
            have hfl := fl_len h0 hm5 hks hkn
            refine ⟨e, _, rfl, dput_td hE3 hob (by omega), ?_⟩
            refine hB _ _ ⟨i, e, is', pt fl' s (rv - 1), _, _, _, _, rfl, Ed.mut y3 (he rfl) hE3 trivial, hi, he, ?_, upd_same, fun x hx => ?_, pt_nodup hkn, hl⟩
            · rw [upd_ne (ne_of hI3 hE3 (fun z => by cases z))]
              exact hI3
            · have h1 := lk_mem.mpr hx
              rw [lk_pt] at h1
              by_cases q : x = s
              · rw [q]
                exact hsS
              · rw [if_neg q] at h1
                exact hks x (lk_mem.mp h1)
          · rw [decide_eq_false hk]
            exact iteF (hB _ _ ⟨i, e, is', fl', _, _, _, _, rfl, y, hi, he, hI, hE, hks, hkn, hl⟩)
        intro σb Hb cp1
        refine seq_cut (BpS (Tt K) d b a pr gl c H0' kd t M 5 true) (fun S hB => ?_) ?_
        · obtain ⟨i, e, is', fl', v7, v11, v12, v13, rfl, y, hi, he, hI, hE, hks, hkn, hl⟩ := cp1
          refine ⟨_, rfl, rfl, _, rfl, ?_⟩
          rw [dV]
          have hid : i ≠ d := ne_of_none' hi hd0
          by_cases hk : kd = 1
          · rw [decide_eq_true hk]
            refine iteT ?_
            refine ⟨_, rfl, by show 0 ≤ sizeLine; exact Nat.zero_le _, fun l hln => ?_⟩
            have yl : Ex (Tt K) Hb (upd Hb l (.lst [])) := Ex.new hln
            have hll : (upd Hb l (.lst [])) l = some (.lst []) := upd_same
            have hI1 := yl.lst hI
            have hE1 := hE.ex yl
            have y1 := y.trans (Ed.of yl)
            generalize upd Hb l (.lst []) = Hd at *
            refine ⟨_, _, .lst (SqL.of hI1) (dpInts K Hd _), .lst (SqL.of hll) .nil, shaped_li _, shaped_li [], _, rfl, ?_⟩
            rw [show PyData.eqv (.list (is'.map PyData.int)) (.list []) = decide (is' = []) from eqv_li is' []]
            by_cases hn : is' = []
            · rw [decide_eq_true hn]
              exact iteF (hB _ _ ⟨i, e, is', fl', _, _, _, _, rfl, y1, hi, he, hI1, hE1, hks, hkn, hl⟩)
            · rw [decide_eq_false hn]
              refine iteT ?_
              have hp0 : 0 < is'.length := List.length_pos_iff.mpr hn
              refine ⟨_, rfl, .inl ⟨rfl, _, SqL.of hI1⟩, _, rfl, _, rfl, i, _, rfl, .inl (SqL.of hI1), d, _, rfl, hDr y1, by rw [List.length_map]; omega, fun He r ye r0 r1 => ?_⟩
              rw [List.length_map] at r1
              have hI2 := ye.all i _ hid hI1 (fun _ z => by cases z)
              have hE2 := hE1.ed ye (hDr y1)
              have hk2 : r.toNat < is'.length := by omega
              refine ⟨i, _, r, r.toNat, .int is'[r.toNat], rfl, rfl, hI2, by omega, by omega, ?_, by rw [List.getElem?_map, List.getElem?_eq_getElem hk2]; rfl, ?_⟩
              · exact seq_nn r0 (by rw [List.length_map]; exact r1)
              · rw [erase_map]
                refine hB _ _ ⟨i, e, is'.eraseIdx r.toNat, fl', _, _, _, _, rfl, Ed.mut (y1.trans ye) hi hI2 trivial, hi, he, upd_same, ?_, hks, hkn, ?_⟩
                · unfold TD
                  rw [upd_ne (ne_of hE2 hI2 (fun z => by cases z))]
                  exact hE2
                · have := List.length_eraseIdx_le is' r.toNat
                  omega
          · rw [decide_eq_false hk]
            exact iteF (iteF (hB _ _ ⟨i, e, is', fl', _, _, _, _, rfl, y, hi, he, hI, hE, hks, hkn, hl⟩))
        intro σb Hb cp2
        refine seq_cut (BpS (Tt K) d b a pr gl c H0' kd t M 6 true) (fun S hB => ?_) ?_
        · obtain ⟨i, e, is', fl', v7, v11, v12, v13, rfl, y, hi, he, hI, hE, hks, hkn, hl⟩ := cp2
          refine ⟨_, rfl, rfl, _, rfl, ?_⟩
          rw [dV]
          have hid : i ≠ d := ne_of_none' hi hd0
          by_cases hk : kd = 2
          · rw [decide_eq_true hk]
            refine iteT ?_
            obtain ⟨dxr, rr, hslr, hrr⟩ := (hPr y).bk
            obtain ⟨as, h1, h2, _⟩ := hrr.sq
            refine ⟨_, rfl, .inl ⟨rfl, _, SqL.of hI⟩, _, rfl, _, rfl, b, _, dxr, _, _, 1, _, rfl, hslr, G.sclsB, G.slR, rfl, rr, _, rfl, .inr (SqT.of h1), _, _, rfl, rfl, d, _, rfl, hDr y, by omega, fun He r ye r0 r1 => ?_⟩
            have hI2 := ye.all i _ hid hI (fun _ z => by cases z)
            have hE2 := hE.ed ye (hDr y)
            refine ⟨i, _, _, rfl, rfl, hI2, by rw [List.length_map]; exact Nat.lt_of_le_of_lt (show is'.length ≤ 100 by omega) (by decide), ?_⟩
            refine hB _ _ ⟨i, e, is' ++ [r], fl', _, _, _, _, rfl, Ed.mut (y.trans ye) hi hI2 trivial, hi, he, by rw [upd_same, List.map_append]; rfl, ?_, hks, hkn, by rw [List.length_append, List.length_singleton]; omega⟩
            unfold TD
            rw [upd_ne (ne_of hE2 hI2 (fun z => by cases z))]
            exact hE2
          · rw [decide_eq_false hk]
            exact iteF (hB _ _ ⟨i, e, is', fl', _, _, _, _, rfl, y, hi, he, hI, hE, hks, hkn, by omega⟩)
        intro σb Hb cp3
        refine seq_cut (BpS (Tt K) d b a pr gl c H0' kd t M 6 false) (fun S hB => ?_) ?_
        · obtain ⟨i, e, is', fl', v7, v11, v12, v13, rfl, y, hi, he, hI, hE, hks, hkn, hl⟩ := cp3
          refine ⟨_, rfl, rfl, _, rfl, ?_⟩
          rw [dV]
          have hid : i ≠ d := ne_of_none' hi hd0
          by_cases hk : kd = 3
          · rw [decide_eq_true hk]
            refine iteT ?_
            have hfl := fl_len h0 hm5 hks hkn
            have hDc : IsDc (.dT (dt fl')) := trivial
            refine ⟨e, .dT (dt fl'), hE, trivial, fun od => ?_⟩
            have hdy := hDr y
            have hdl := lock_dr (od := od) hE hDc hdy
            have hIl : upd Hb e (.frz od (.dT (dt fl'))) i = some (.lst (is'.map V.int)) := by
              rw [upd_ne (ne_of hI hE (fun z => by cases z))]
              exact hI
            have hl0 : upd Hb e (.frz od (.dT (dt fl'))) e = some (.frz od (.dT (dt fl'))) := upd_same
            have hback : ∀ H', Ed (Tt K) d (upd Hb e (.frz od (.dT (dt fl')))) H' → H' e = some (.frz od (.dT (dt fl'))) ∧ Ed (Tt K) d Hb (upd H' e (.dT (dt fl'))) := fun H' x => lock_ed hE hDc hdy x
            generalize upd Hb e (.frz od (.dT (dt fl'))) = Hl at *
            have hed : e ≠ d := fun z => by
              obtain ⟨ns, _, e1⟩ := hdl
              rw [z, e1] at hl0
              cases hl0
            refine ⟨_, rfl, e, od, rfl, .inr ⟨dt fl', hl0, fun D2 hD2 => ?_⟩⟩
            have hD2d : D2 ≠ d := ne_of_none' hD2 hdl
            have hfz : ∀ {H' : Hp}, Ed (Tt K) d Hl H' → H' e = some (.frz od (.dT (dt fl'))) := fun x => x.all e _ hed hl0 (fun _ z => by cases z)
            refine lc_any (roEd (Tt K) d) hD2d (walk_keysT (kvs := dt fl')) (ds := fl') (by rw [List.length_map]) (by rw [List.length_map]; omega) hD2 (fun Hx x => hfz x) (fun i Hx v Hy hi x y => by rw [y.1]; exact Ed.of (Ex.refl _ Hx)) (fun _ _ => True)
              (fun (z : List Int × Int) v H' => ∃ q o, v = V.ref q ∧ H' q = some (.tup [.ref o, .int z.2]) ∧ HT H' o z.1) (fun z v Ha Hb im ⟨q, o, e1, e2, e3⟩ => ⟨q, o, e1, im _ _ e2, e3.im im⟩) ?_ ?_
            · intro i3 z v Hx Hy hz _ x y3 S3 hS
              obtain ⟨rfl, kx, vx, qa, hkv, rfl, hqa⟩ := y3
              obtain ⟨s, z', hs1, rfl, rfl⟩ := keyT (T := Tt K) (Hl := Hl) (H := Hl) hkv
              rw [hz] at hs1
              obtain rfl := Option.some.inj hs1
              have hqa2 : HT Hy qa s := by
                unfold HT
                rw [hqa, mapK]
              have hgt : ∀ {H'}, Ed (Tt K) d Hl H' → HT H' qa s → DGet H' e (.ref qa) (some (.int z')) := fun x ho' => by
                have := dget_tr (.inr ⟨od, hfz x⟩ : TR _ e fl') ho'
                rw [lk_of hkn (List.mem_of_getElem? hz)] at this
                exact this
              refine hS _ rfl (fun Hz xz Q3 k3 => ?_) fun _ Hz xz Q3 k3 => ?_
              · have xx := x.trans xz
                refine ⟨_, rfl, _, rfl, e, _, rfl, hgt xx (hqa2.ed xz), _, _, rfl, rfl, _, rfl, ?_⟩
                by_cases hz0 : 0 < z'
                · rw [decide_eq_true hz0]
                  refine iteT ?_
                  exact ⟨_, rfl, d, 4, rfl, xx.dr hdl, by decide, fun Hw r xw r0 r1 => ⟨_, _, rfl, rfl, _, rfl, k3 _ _ xw trivial⟩⟩
                · rw [decide_eq_false hz0]
                  exact iteF (k3 _ _ (Ed.of (Ex.refl _ Hz)) trivial)
              · have xx := x.trans xz
                exact ⟨_, rfl, _, rfl, _, rfl, e, _, rfl, hgt xx (hqa2.ed xz), by show 2 ≤ sizeLine; decide, fun q hq => k3 _ _ (Ed.of (Ex.new hq)) ⟨q, qa, rfl, upd_same, (hqa2.ed xz).ex (Ex.new (T := Tt K) hq)⟩⟩
            · intro acc es H6 x6 hD6 hsub _ _ hpr
              obtain ⟨z1, z2⟩ := hback H6 x6
              have hDe : D2 ≠ e := ne_of hD6 z1 (fun z => by cases z)
              have hpr2 := Paired.imp (fun (dd : List Int × Int) v (h : ∃ q o, v = V.ref q ∧ H6 q = some (.tup [.ref o, .int dd.2]) ∧ HT H6 o dd.1) => (show ∃ q o, v = V.ref q ∧ (upd H6 e (.dT (dt fl'))) q = some (.tup [.ref o, .int dd.2]) ∧ HT (upd H6 e (.dT (dt fl'))) o dd.1 from let ⟨q, o, e1, e2, e3⟩ := h; ⟨q, o, e1, im_frz z1 _ _ e2, e3.im (im_frz z1)⟩)) hpr
              obtain ⟨ps, rfl, hps⟩ := pairs_of (K := K) hpr2
              have hsk : (es.map (·.1)).Sublist (fl'.map (·.1)) := hsub.map _
              have hesn : (es.map (·.1)).Nodup := hsk.nodup hkn
              have hnk : ((dt es).map (·.1)).Nodup := by
                have e1 : (dt es).map (·.1) = (es.map (·.1)).map iK := by
                  simp only [List.map_map]
                  rfl
                rw [e1]
                exact nodup_map_inj (fun a b => iK_inj a b) hesn
              have hI6 : H6 i = some (.lst (is'.map V.int)) := x6.all i _ hid hIl (fun _ z => by cases z)
              have hI7 : upd H6 e (.dT (dt fl')) i = some (.lst (is'.map V.int)) := by
                rw [upd_ne (ne_of hI6 z1 (fun z => by cases z))]
                exact hI6
              refine ⟨z1, D2, ps, dt es, rfl, SqL.of (by rw [upd_ne hDe]; exact hD6), hps, hnk, fun Dt hDt => ?_⟩
              have xt : Ex (Tt K) (upd H6 e (.dT (dt fl'))) (upd (upd H6 e (.dT (dt fl'))) Dt (.dT (dt es))) := Ex.new hDt
              exact hB _ _ ⟨i, Dt, is', es, _, _, _, _, rfl, (y.trans z2).trans (Ed.of xt), hi, fun z => (nomatch z), xt.lst hI7, upd_same, fun s hs => hks s (hsk.mem hs), hesn, hl⟩
          · rw [decide_eq_false hk]
            exact iteF (hB _ _ ⟨i, e, is', fl', _, _, _, _, rfl, y, hi, fun z => (nomatch z), hI, hE, hks, hkn, hl⟩)
        rintro σb Hb ⟨i, e, is', fl', v7, v11, v12, v13, rfl, y, hi, _, hI, hE, hks, hkn, hl⟩
        have hfl := fl_len h0 hm5 hks hkn
        have hid : i ≠ d := ne_of_none' hi hd0
        refine ⟨_, rfl, _, rfl, _, rfl, _, rfl, _, rfl, _, rfl, b, a, pr, gl, i, e, M, rs, th, ws, goal, is', fl', rfl, hPr y, hg0.ed y, hgs, hI, by omega, hE, by omega, hks, hkn, fun Hc xc => ?_⟩
        have yc := y.trans (Ed.of (d := d) xc)
        refine ⟨_, rfl, _, rfl, fun x dx hx hdx hne => ?_⟩
        have w1 : Ex (Tt K) Hc (upd Hc dx (.own x)) := Ex.new hdx
        have hx2 : upd Hc dx (.own x) x = none := by rw [upd_ne (Ne.symm hne)]; exact hx
        have w2 : Ex (Tt K) Hc (upd (upd Hc dx (.own x)) x (.ins (He.ga K "Bill") dx [])) := w1.push hx2
        refine ⟨x, dx, i, e, is', fl', rfl, upd_same, w2.lst (xc.lst hI), (hE.ex xc).ex w2, kys_of h0 hm5 hks hkn, fun Hd eb hbx => ⟨rfl, ?_⟩⟩
        have xd : Ex (Tt K) Hc Hd := Ex.eb w2 eb fun b hb => by rw [List.mem_singleton.mp hb]; exact hx
        obtain ⟨dx', p', q', hi1, _, _⟩ := id hbx
        have yd := yc.trans (Ed.of (d := d) xd)
        refine ⟨x, dx', _, rfl, hi1, rfl, _, rfl, _, rfl, _, rfl, _, rfl, x, b, a, pr, gl, M, rs, th, ws, goal, is', fl', rfl, hbx, hPr yd, hg0.ed yd, hgs, by omega, by omega, hks, fun He xe => ?_⟩
        rw [shows_bill (by omega)]
        refine ⟨_, rfl, rfl, _, rfl, ?_⟩
        rw [decide_eq_true rfl]
        exact iteF ⟨_, _, _, _, _, _, _, rfl, x0.trans (yd.trans (Ed.of xe))⟩
      · rintro σ H0 ⟨v7, v8, v9, v10, v11, v12, v13, rfl, x0⟩
        exact k _ ((Ed.of x15).trans x0)


end
end Pb
set_option Elab.async false
set_option linter.all false
set_option maxRecDepth 100000
set_option maxHeartbeats 4000000

namespace Pb
open PySem PySem.Spec PyProof.Rows L2
theorem okOf {P : Program} {w : World} {K : PySem.W.Frag} {mg : Str → Option Value} {base : Heap} {x : Str} {st : Stmt} {N ps : List Str} {k : Nat} {sp : Sp} {f : Addr} {fd : FuncData} (F : FunD K x x (defArgs st) (defBody st) (defScope st) [] [] f fd) (S : FnScope N ps (defScope st))
    (len : ∀ vs H Q E, sp vs H Q E → vs.length = ps.length)
    (hbody : ∀ (f : Addr) (cdv : Value) (A : Around) (outer : List Env) (s : Shared) (H : Hp) (vs : List V) (Q : VK) (E : XK), Room k (A.deeper (envOfC x (defScope st) s.heap.objs.size f cdv)) → sp vs H Q E →
      ∃ t, PSs (cxOf C8.CX0 P w K mg base N x (defScope st) f cdv A outer s H E).nox (defBody st) t ∧ t { nx := fun _ H' => Q .non H', rt := Q } (start N vs) H) : FnOk P w K mg base C8.CX0 (k + 1) f fd ps sp :=
  F.ok S len (fun cdv A outer s H vs Q E hr h => let ⟨t, h1, h2⟩ := hbody _ cdv A outer s H vs Q E hr h; ⟨t, h1.nox, h2⟩)
theorem cut_ints (ns : List Int) (lo hi : Option Int) : ∃ ms : List Int, cutV (ns.map V.int) lo hi = ms.map V.int ∧ ms.length ≤ ns.length ∧ ∀ x ∈ ms, x ∈ ns := by
  unfold cutV
  rw [← List.map_drop, ← List.map_take]
  refine ⟨_, rfl, ?_, fun x hx => List.drop_subset _ _ (List.take_subset _ _ hx)⟩
  rw [List.length_take, List.length_drop]
  omega
theorem rus_of {H : Hp} : ∀ {es : List Nat} {acc : List V} {f : Nat → Ru}, Paired (fun j v => ∃ t, v = V.ref t ∧ RuA H t (f j)) es acc → ∃ as : List Addr, acc = as.map V.ref ∧ Paired (RuA H) as (es.map f)
  | _, _, _, .nil => ⟨[], rfl, .nil⟩
  | _ :: _, _, _, .cons h t => by
    obtain ⟨q, rfl, hq⟩ := h
    obtain ⟨as, g1, g2⟩ := rus_of t
    exact ⟨q :: as, by rw [g1]; rfl, .cons hq g2⟩
theorem ws_of {α : Type} : ∀ {es : List α} {acc : List V}, Paired (fun _ v => ∃ w : Int, v = V.int w ∧ 1 ≤ w ∧ w ≤ 9) es acc → ∃ ws : List Int, acc = ws.map V.int ∧ ws.length = es.length ∧ ∀ w ∈ ws, 1 ≤ w ∧ w ≤ 9
  | _, _, .nil => ⟨[], rfl, rfl, fun w hw => (nomatch hw)⟩
  | _ :: _, _, .cons h t => by
    obtain ⟨w, rfl, hw⟩ := h
    obtain ⟨ws, g1, g2, g3⟩ := ws_of t
    refine ⟨w :: ws, by rw [g1]; rfl, by rw [List.length_cons, List.length_cons, g2], fun x hx => ?_⟩
    rcases List.mem_cons.mp hx with q | q
    · rw [q]
      exact hw
    · exact g3 x q
theorem Paired.app {α β : Type} {R : α → β → Prop} : ∀ {a c : List α} {b d : List β}, Paired R a b → Paired R c d → Paired R (a ++ c) (b ++ d)
  | _, _, _, _, .nil, h => h
  | _, _, _, _, .cons h t, k => .cons h (Paired.app t k)
/-- joining two tuples of rules -/
theorem cat_rus {K : PySem.W.Frag} {T : Tb} {H : Hp} {r q : Addr} {rs ts : List Ru} {Q : VK} (h1 : Rus H r rs) (h2 : Rus H q ts) (l : rs.length + ts.length ≤ 100) (k : ∀ H' p, Ex T H H' → Rus H' p (rs ++ ts) → Q (.ref p) H') : rCatA K (.ref r) (.ref q) H Q := by
  obtain ⟨as, e1, p1⟩ := h1
  obtain ⟨bs, e2, p2⟩ := h2
  have l1 := Paired.length p1
  have l2 := Paired.length p2
  refine ⟨r, q, _, _, rfl, rfl, SqT.of e1, SqT.of e2, by rw [List.length_map, List.length_map]; exact Nat.le_trans (show as.length + bs.length ≤ 100 by omega) (by decide), fun z => ?_, fun _ z => ?_, fun _ _ p hp => ?_⟩
  · have : as = [] := List.map_eq_nil_iff.mp z
    subst this
    cases p1
    exact k _ _ (Ex.refl T H) ⟨bs, e2, p2⟩
  · have : bs = [] := List.map_eq_nil_iff.mp z
    subst this
    cases p2
    exact k _ _ (Ex.refl T H) ⟨as, e1, by rw [List.append_nil]; exact p1⟩
  · have x : Ex T H (upd H p (.tup (as.map V.ref ++ bs.map V.ref))) := Ex.new hp
    exact k _ p x ⟨as ++ bs, by rw [upd_same, List.map_append], Paired.imp (fun _ _ q => RuA.im q x.im) (Paired.app p1 p2)⟩
section
variable {P : Program} {w : World} {K : PySem.W.Frag} {mg : Str → Option Value} {base : Heap} {T : Tb}

def spLaw (T : Tb) (K : PySem.W.Frag) : Sp := fun vs H Q _ => ∃ (a : Addr) (ns : List Int) (n : Nat), vs = [.ref a] ∧ SqL K H a (ns.map V.int) ∧ 20 ≤ n ∧ n ≤ 2000000 ∧ ns.length ≤ 100000 ∧ (∀ x ∈ ns, x.natAbs < 2 ^ n) ∧ LamX.Tabs T H ∧ ∀ H', Q (.bl true) H'

abbrev N_law : List Str := ["_law_script", "_law_draws", "_law_turn", "_law_marks", "_law_some", "_law_book", "_law_prices", "_law_thing", "_law_mark", "_law_rule"]
theorem sc_law : FnScope N_law ["_law_script"] (defScope sLaw) := ⟨rfl, rfl, rfl, by decide +kernel, rfl, by decide +kernel, by decide +kernel⟩
theorem ok_law (B : Gb K mg base) {f0 : Addr} {fd : FuncData} (F : FunD K "law" "law" (defArgs sLaw) (defBody sLaw) (defScope sLaw) [] [] f0 fd) : FnOk P w K mg base C8.CX0 8 f0 fd ["_law_script"] (spLaw (Tt K) K) := by
  have G := B.g
  refine okOf F sc_law (fun vs H Q E h => ?_) (fun f cdv A outer s H vs Q E hr h => ?_)
  · obtain ⟨a, ns, n, rfl, hsq, n0, n1, nl, hb, htab, k⟩ := h
    rfl
  · obtain ⟨a, ns, n, rfl, hsq, n0, n1, nl, hb, htab, k⟩ := h
    refine ⟨_, (pss_cons (ps_set (i := 1) sc_law.nd rfl (Or.inr rfl) (C8.pe_c (c_law_pool (T := Tt K) G) hr (by decide) (by rfl) (pa_cons (pe_slice sl_list (pv 0) po_none (po_some pe_int)) (pa_cons (pe_tup (pa_cons pe_int (pa_cons pe_int (pa_cons pe_int (pa_cons pe_int pa_nil))))) pa_nil))))
      (pss_cons (ps_for PassesOwn.never rfl (pi_range1 (by rfl) G.b_range (pa_cons pe_int pa_nil)) (pg_name (i := 2) sc_law.nd rfl (Or.inl rfl))
        (pss_cons (ps_set (i := 3) sc_law.nd rfl (Or.inl rfl) (pe_op op_add pe_int (C8.pe_c (c_law_take (T := Tt K) G) hr (by decide) (by rfl) (pa_cons (pv 1) (pa_cons pe_int pa_nil)))))
          (pss_cons (ps_setLc (i := 4) (own := [("_law_mark", 8)]) (g := gName 8) rfl sc_law.nd rfl rfl (sw_true rfl rfl rfl (by decide +kernel)) (pi_range2 (by rfl) G.b_range (pa_cons pe_int (pa_cons (pv 3) pa_nil))) (blkOk_by (own := [("_law_mark", 8)]) (N := N_law) (sc := defScope sLaw) (by decide +kernel)) (fun _ _ _ _ _ => (pg_name (i := 8) sc_law.nd rfl (Or.inl rfl))) (fun _ _ _ _ _ => pts_one (pt_cmpR op_gt (C8.pe_c (c_law_take (T := Tt K) G) hr (by decide) (by rfl) (pa_cons (pv 1) (pa_cons pe_int pa_nil))) pe_int (nomark _))) (fun _ _ _ _ _ => (pe_tup (pa_cons (pe_tup (pa_cons (pe_op op_sub (pv 8) pe_int) (pa_cons (pe_op op_sub (pv 8) pe_int) pa_nil))) (pa_cons (pe_tup (pa_cons (pv 8) pa_nil)) pa_nil)))))
          (pss_cons (ps_set (i := 4) sc_law.nd rfl (Or.inl rfl) (pe_op op_cat (pv 4) (pe_lc (own := [("_law_mark", 8)]) (g := gName 8) rfl sc_law.nd (pi_range2 (by rfl) G.b_range (pa_cons pe_int (pa_cons (pv 3) pa_nil))) (blkOk_by (own := [("_law_mark", 8)]) (N := N_law) (sc := defScope sLaw) (by decide +kernel)) (fun _ _ _ _ _ => (pg_name (i := 8) sc_law.nd rfl (Or.inl rfl))) (fun _ _ _ _ _ => pts_one (pt_cmpR op_eq (C8.pe_c (c_law_take (T := Tt K) G) hr (by decide) (by rfl) (pa_cons (pv 1) (pa_cons pe_int pa_nil))) pe_int (nomark _))) (fun _ _ _ _ _ => (pe_tup (pa_cons (pe_tup (pa_cons pe_int pa_nil)) (pa_cons (pe_tup (pa_cons (pv 8) pa_nil)) pa_nil)))))))
          (pss_cons (ps_set (i := 5) sc_law.nd rfl (Or.inl rfl) (C8.pe_mk (c_Book (T := Tt K) G) hr (by decide) (by rfl) (pa_cons (pv 3) (pa_cons (pe_op (op_catK (K := K) rfl) (C8.pe_c (c_law_rules (T := Tt K) G) hr (by decide) (by rfl) (pa_cons (pv 1) (pa_cons (pv 3) (pa_cons pe_int pa_nil)))) (pe_callTy call_tuple_of (by rfl) G.b_tuple (by decide +kernel) (pa_cons (pv 4) pa_nil))) pa_nil))))
          (pss_cons (ps_set (i := 6) sc_law.nd rfl (Or.inl rfl) (pe_callTy call_tuple_of (by rfl) G.b_tuple (by decide +kernel) (pa_cons (pe_lc (own := [("_law_rule", 9)]) (g := gName 9) rfl sc_law.nd (pi_tup (pe_slK (K := K) rfl (pv 5))) (blkOk_by (own := [("_law_rule", 9)]) (N := N_law) (sc := defScope sLaw) (by decide +kernel)) (fun _ _ _ _ _ => (pg_name (i := 9) sc_law.nd rfl (Or.inl rfl))) (fun _ _ _ _ _ => pts_nil) (fun _ _ _ _ _ => (pe_op op_add pe_int (C8.pe_c (c_law_take (T := Tt K) G) hr (by decide) (by rfl) (pa_cons (pv 1) (pa_cons pe_int pa_nil)))))) pa_nil)))
          (pss_cons (ps_set (i := 7) sc_law.nd rfl (Or.inl rfl) (C8.pe_c (c_law_pick (T := Tt K) G) hr (by decide) (by rfl) (pa_cons (pv 1) (pa_cons (pe_lst (pa_cons (pe_tup (pa_cons pe_int pa_nil)) (pa_cons (C8.pe_c (c_law_set (T := Tt K) G) hr (by decide) (by rfl) (pa_cons (pv 1) (pa_cons (pv 3) (pa_cons pe_int pa_nil)))) pa_nil))) pa_nil))))
          (pss_cons (ps_if (pt_not (pt_val (C8.pe_c (c_law_costs_papers (T := Tt K) G) hr (by decide) (by rfl) (pa_cons (pv 1) (pa_cons (pv 5) (pa_cons (pv 7) (pa_cons (pv 6) (pa_cons (C8.pe_c (c_law_pick (T := Tt K) G) hr (by decide) (by rfl) (pa_cons (pv 1) (pa_cons (pe_tup (pa_cons pe_str (pa_cons pe_str pa_nil))) pa_nil))) pa_nil))))))))
            (pss_one (ps_ret pe_bl)) pss_nil)
          (pss_one (ps_if (pt_not (pt_val (C8.pe_c (c_law_bill_papers B) hr (by decide) (by rfl) (pa_cons (pv 1) (pa_cons (pv 5) (pa_cons (pv 7) (pa_cons (pv 6) (pa_cons (C8.pe_c (c_law_set (T := Tt K) G) hr (by decide) (by rfl) (pa_cons (pv 1) (pa_cons (pv 3) (pa_cons pe_int pa_nil)))) pa_nil))))))))
            (pss_one (ps_ret pe_bl)) pss_nil))))))))))
      (pss_one (ps_ret pe_bl)))), ?_⟩
    refine ⟨_, rfl, ?_⟩
    refine ⟨_, rfl, a, _, rfl, hsq, fun p hp => ?_⟩
    obtain ⟨ms, e1, e2, e3⟩ := cut_ints ns none (some 63)
    rw [e1]
    have x1 : Ex (Tt K) H (upd H p (.lst (ms.map V.int))) := Ex.new hp
    have hscr : Scr (upd H p (.lst (ms.map V.int))) p n := ⟨ms, upd_same, n0, n1, by omega, fun x hx => hb x (e3 x hx)⟩
    generalize upd H p (.lst (ms.map V.int)) = H1 at *
    refine ⟨by show 4 ≤ sizeLine; decide, fun g hg => ?_⟩
    have x2 : Ex (Tt K) H1 (upd H1 g (.tup (([1009, 1013, 1000033, 1000037] : List Int).map V.int))) := Ex.new hg
    refine ⟨p, g, [1009, 1013, 1000033, 1000037], n, rfl, hscr.ex x2, upd_same, by decide, by decide, fun H2 d x3 hd => ?_⟩
    have htab2 := (x1.trans (x2.trans x3)).2 htab
    refine ⟨2, rfl, by decide, by decide, ?_⟩
    refine for_it (n := 2) walk_range (fun i σ H' => ∃ (v2 v3 v4 v5 v6 v7 v8 v9 : Option V), σ = [some (.ref a), some (.ref d), v2, v3, v4, v5, v6, v7, v8, v9] ∧ Ed (Tt K) d H2 H')
      ⟨_, _, _, _, _, _, _, _, rfl, Ed.of (Ex.refl (Tt K) H2)⟩ (fun _ _ _ _ _ => trivial) ?_ ?_
    · rintro i x σ H0 H0' hi ⟨v2, v3, v4, v5, v6, v7, v8, v9, rfl, x0⟩ ⟨rfl, rfl⟩
      have hd0 := x0.dr hd
      have htab0 := x0.tabs htab2
      refine ⟨_, rfl, d, 5, rfl, hd0, by decide, fun H3 r y3 r0 r1 => ⟨_, _, rfl, rfl, ?_⟩⟩
      have hd3 := y3.dr hd0
      obtain ⟨M, eM⟩ : ∃ M : Int, M = 1 + r := ⟨_, rfl⟩
      dsimp only
      rw [← eM]
      have m1 : 1 ≤ M := by omega
      have m5 : M ≤ 5 := by omega
      -- rules of three marks in a row
      refine ⟨_, rfl, 2, M, rfl, ⟨by decide, by decide, by omega, by omega⟩, fun D hD => ?_⟩
      have hDd : D ≠ d := ne_of_none' hD hd3
      refine lc_any (roEd (Tt K) d) hDd (walk_range (lo := 2) (n := (M - 2).toNat)) (ds := List.range (M - 2).toNat) (by rw [List.length_range]) (by omega) hD (fun _ _ => trivial) (fun _ _ _ _ _ _ y => Ed.of (yfn_ex y)) (fun _ _ => True)
        (fun (j : Nat) v H' => ∃ t, v = V.ref t ∧ RuA H' t ([2 + (j : Int) - 2, 2 + (j : Int) - 1], [2 + (j : Int)])) (fun j v Ha Hb im ⟨t, e, h⟩ => ⟨t, e, h.im im⟩) ?_ ?_
      · intro q j v Hx Hy hj x y z S hS
        obtain ⟨rfl, rfl⟩ := z
        have hji : j = q := by
          rw [List.getElem?_range] at hj
          · exact (Option.some.inj hj).symm
          · have := (List.getElem?_eq_some_iff.mp hj).1
            rw [List.length_range] at this
            exact this
        subst hji
        refine hS _ rfl (fun Hz xz Q3 k3 => ?_) (fun _ Hz xz Q3 k3 => ?_)
        · exact ⟨_, rfl, d, 3, rfl, (y.trans xz).dr hd3, by decide, fun Hw r xw r0 r1 => ⟨_, _, rfl, rfl, _, rfl, k3 _ _ xw trivial⟩⟩
        · refine ⟨_, rfl, _, _, rfl, rfl, _, rfl, _, _, rfl, rfl, by show 2 ≤ sizeLine; decide, fun p1 hp1 => ?_⟩
          refine ⟨_, rfl, by show 1 ≤ sizeLine; decide, fun p2 hp2 => ?_⟩
          refine ⟨by show 2 ≤ sizeLine; decide, fun p3 hp3 => k3 _ _ ?_ ⟨p3, rfl, p1, p2, upd_same, ?_, ?_⟩⟩
          · exact Ed.of (((Ex.new hp1).push hp2).push hp3)
          · exact HT.ex (T := Tt K) (HT.ex (T := Tt K) upd_same (Ex.new hp2)) (Ex.new hp3)
          · exact HT.ex (T := Tt K) upd_same (Ex.new hp3)
      intro acc es H4 y4 hD4 hsub _ _ hpr
      obtain ⟨as1, rfl, hr1⟩ := rus_of hpr
      have hl1 : es.length ≤ 3 := by
        have := hsub.length_le
        rw [List.length_range] at this
        omega
      have hS1 : ∀ ru ∈ es.map (fun j : Nat => (([2 + (j : Int) - 2, 2 + (j : Int) - 1], [2 + (j : Int)]) : Ru)), IsS M ru.1 ∧ IsS M ru.2 := by
        intro ru hru
        obtain ⟨j, hj, rfl⟩ := List.mem_map.mp hru
        have hjr := List.mem_range.mp (hsub.mem hj)
        refine ⟨⟨fun m hm => ?_, ?_⟩, ⟨fun m hm => ?_, ?_⟩⟩
        · rcases List.mem_cons.mp hm with q | q
          · omega
          · have := List.mem_singleton.mp q
            omega
        · refine List.pairwise_pair.mpr ?_
          show 2 + (j : Int) - 2 < 2 + (j : Int) - 1
          omega
        · have := List.mem_singleton.mp hm
          omega
        · exact List.pairwise_singleton _ _
      have hl1' : as1.length = es.length := by
        have := Paired.length hr1
        rw [List.length_map] at this
        exact this
      generalize es.map (fun j : Nat => (([2 + (j : Int) - 2, 2 + (j : Int) - 1], [2 + (j : Int)]) : Ru)) = rs1 at *
      have hd4 := y4.dr hd3
      have y34 := y3.trans y4
      -- rules from the first mark
      refine ⟨_, rfl, _, rfl, 1, M, rfl, ⟨by decide, by decide, by omega, by omega⟩, fun D2 hD2 => ?_⟩
      have hDd2 : D2 ≠ d := ne_of_none' hD2 hd4
      refine lc_any (roEd (Tt K) d) hDd2 (walk_range (lo := 1) (n := (M - 1).toNat)) (ds := List.range (M - 1).toNat) (by rw [List.length_range]) (by omega) hD2 (fun _ _ => trivial) (fun _ _ _ _ _ _ y => Ed.of (yfn_ex y)) (fun _ _ => True)
        (fun (j : Nat) v H' => ∃ t, v = V.ref t ∧ RuA H' t ([0], [1 + (j : Int)])) (fun j v Ha Hb im ⟨t, e, h⟩ => ⟨t, e, h.im im⟩) ?_ ?_
      · intro q j v Hx Hy hj x y z S hS
        obtain ⟨rfl, rfl⟩ := z
        have hji : j = q := by
          rw [List.getElem?_range] at hj
          · exact (Option.some.inj hj).symm
          · have := (List.getElem?_eq_some_iff.mp hj).1
            rw [List.length_range] at this
            exact this
        subst hji
        refine hS _ rfl (fun Hz xz Q3 k3 => ?_) (fun _ Hz xz Q3 k3 => ?_)
        · exact ⟨_, rfl, d, 2, rfl, (y.trans xz).dr hd4, by decide, fun Hw r xw r0 r1 => ⟨rfl, _, rfl, k3 _ _ xw trivial⟩⟩
        · refine ⟨by show 1 ≤ sizeLine; decide, fun p1 hp1 => ?_⟩
          refine ⟨_, rfl, by show 1 ≤ sizeLine; decide, fun p2 hp2 => ?_⟩
          refine ⟨by show 2 ≤ sizeLine; decide, fun p3 hp3 => k3 _ _ ?_ ⟨p3, rfl, p1, p2, upd_same, ?_, ?_⟩⟩
          · exact Ed.of (((Ex.new hp1).push hp2).push hp3)
          · exact HT.ex (T := Tt K) (HT.ex (T := Tt K) upd_same (Ex.new hp2)) (Ex.new hp3)
          · exact HT.ex (T := Tt K) upd_same (Ex.new hp3)
      intro acc es2 H5 y5 hD5 hsub2 _ _ hpr2
      obtain ⟨as2, rfl, hr2⟩ := rus_of hpr2
      have hl2 : es2.length ≤ 4 := by
        have := hsub2.length_le
        rw [List.length_range] at this
        omega
      have hS2 : ∀ ru ∈ es2.map (fun j : Nat => (([0], [1 + (j : Int)]) : Ru)), IsS M ru.1 ∧ IsS M ru.2 := by
        intro ru hru
        obtain ⟨j, hj, rfl⟩ := List.mem_map.mp hru
        have hjr := List.mem_range.mp (hsub2.mem hj)
        refine ⟨⟨fun m hm => ?_, List.pairwise_singleton _ _⟩, ⟨fun m hm => ?_, List.pairwise_singleton _ _⟩⟩
        · have := List.mem_singleton.mp hm
          omega
        · have := List.mem_singleton.mp hm
          omega
      have hl2' : as2.length = es2.length := by
        have := Paired.length hr2
        rw [List.length_map] at this
        exact this
      generalize es2.map (fun j : Nat => (([0], [1 + (j : Int)]) : Ru)) = rs2 at *
      have hD5a : H5 D = some (.lst (as1.map V.ref)) := y5.all D _ hDd hD4 (fun _ z => by cases z)
      have hr1b : Paired (RuA H5) as1 rs1 := Paired.imp (fun _ _ q => RuA.im q y5.im) hr1
      refine ⟨D, D2, _, _, rfl, rfl, hD5a, hD5, by rw [List.length_map, List.length_map]; exact Nat.le_trans (show as1.length + as2.length ≤ 100 by omega) (by decide), fun l hl => ?_⟩
      have z6 : Ex (Tt K) H5 (upd H5 l (.lst (as1.map V.ref ++ as2.map V.ref))) := Ex.new hl
      have hr12 : Paired (RuA (upd H5 l (.lst (as1.map V.ref ++ as2.map V.ref)))) (as1 ++ as2) (rs1 ++ rs2) := Paired.imp (fun _ _ q => RuA.im q z6.im) (Paired.app hr1b hr2)
      have hl6 : (upd H5 l (.lst (as1.map V.ref ++ as2.map V.ref))) l = some (.lst ((as1 ++ as2).map V.ref)) := by rw [upd_same, List.map_append]
      have y6 := (y34.trans y5).trans (Ed.of (d := d) z6)
      have hld : l ≠ d := ne_of_none' hl (y5.dr hd4)
      generalize upd H5 l (.lst (as1.map V.ref ++ as2.map V.ref)) = H6 at *
      have hS12 : ∀ ru ∈ rs1 ++ rs2, IsS M ru.1 ∧ IsS M ru.2 := fun ru h => by
        rcases List.mem_append.mp h with q | q
        · exact hS1 ru q
        · exact hS2 ru q
      have hl12 : (as1 ++ as2).length ≤ 7 := by
        rw [List.length_append]
        omega
      generalize as1 ++ as2 = as at *
      generalize rs1 ++ rs2 = rsS at *
      clear hD4 hD5 hD5a hr1 hr2 hr1b hS1 hS2 hpr hpr2
      -- the book
      have hd6 := y6.dr hd0
      refine ⟨_, rfl, _, rfl, _, rfl, d, M, 7, rfl, hd6, by omega, m5, by decide, by decide, fun H7 r7 rs7 y7 hrus7 hlen7 hS7 => ?_⟩
      have hl7 : H7 l = some (.lst (as.map V.ref)) := y7.all l _ hld hl6 (fun _ z => by cases z)
      refine ⟨_, rfl, l, _, rfl, .inl ⟨SqL.of hl7, fun q hq => ?_⟩⟩
      have zq : Ex (Tt K) H7 (upd H7 q (.tup (as.map V.ref))) := Ex.new hq
      have hlS : rsS.length ≤ 7 := by
        have := Paired.length hr12
        omega
      refine cat_rus (T := Tt K) (hrus7.im zq.im) ⟨as, upd_same, Paired.imp (fun _ _ q => RuA.im q (y7.im.trans zq.im)) hr12⟩ (by omega) fun H8 rr z8 hrr => ?_
      have y8 := (y6.trans y7).trans (Ed.of (d := d) (zq.trans z8))
      have hSA : ∀ ru ∈ rs7 ++ rsS, IsS M ru.1 ∧ IsS M ru.2 := fun ru h => by
        rcases List.mem_append.mp h with q | q
        · exact hS7 ru q
        · exact hS12 ru q
      have hlA : (rs7 ++ rsS).length ≤ 14 := by
        rw [List.length_append]
        omega
      generalize rs7 ++ rsS = rsA at *
      clear hrus7 hl7 hl6 hr12 hS7 hS12
      refine fun x dx hx hdx hne => ?_
      have w1 : Ex (Tt K) H8 (upd H8 dx (.own x)) := Ex.new hdx
      have hx2 : upd H8 dx (.own x) x = none := by rw [upd_ne (Ne.symm hne)]; exact hx
      have w2 : Ex (Tt K) H8 (upd (upd H8 dx (.own x)) x (.ins (He.ga K "Book") dx [])) := w1.push hx2
      refine ⟨x, dx, rr, M, rsA, rfl, upd_same, by rw [upd_ne hne, upd_same], hne, hrr.im w2.im, m1, m5, by omega, hSA, fun H9 eb hbk => ⟨rfl, ?_⟩⟩
      have x9 : Ex (Tt K) H8 H9 := Ex.eb w2 eb fun b hb => by
        rcases List.mem_cons.mp hb with q | q
        · rw [q]
          exact hx
        · rw [List.mem_singleton.mp q]
          exact hdx
      have y9 := y8.trans (Ed.of (d := d) x9)
      have hd9 := y9.dr hd0
      -- the prices
      obtain ⟨dxb, r9, hsl, hrus9⟩ := id hbk
      obtain ⟨as9, g1, g2, g3⟩ := hrus9.sq
      refine ⟨_, rfl, x, _, dxb, _, _, 1, _, rfl, hsl, G.sclsB, G.slR, rfl, r9, rfl, ⟨_, SqT.of g1⟩, fun D3 hD3 => ?_⟩
      have hDd3 : D3 ≠ d := ne_of_none' hD3 hd9
      refine lc_any (roEd (Tt K) d) hDd3 (walk_tup (xs := as9.map V.ref)) (ds := as9) (by rw [List.length_map]) (by rw [List.length_map]; omega) hD3 (fun Hx x => SqT.of (x.im _ _ g1)) (fun _ _ _ _ _ _ y => Ed.of (yat_ex y)) (fun _ b => b = true)
        (fun _ v _ => ∃ w : Int, v = V.int w ∧ 1 ≤ w ∧ w ≤ 9) (fun _ _ _ _ _ h => h) ?_ ?_
      · intro q j v Hx Hy hj x y z S hS
        refine hS _ rfl (evr_yes (roEd (Tt K) d)) (fun _ Hz xz Q3 k3 => ?_)
        exact ⟨_, rfl, d, 9, rfl, (y.trans xz).dr hd9, by decide, fun Hw r xw r0 r1 => ⟨_, _, rfl, rfl, k3 _ _ xw ⟨1 + r, rfl, by omega, by omega⟩⟩⟩
      intro acc es3 H10 y10 hD10 _ _ hall hpr3
      have ees : es3 = as9 := hall fun _ _ z => by cases z
      subst ees
      obtain ⟨ws, rfl, hw1, hw2⟩ := ws_of hpr3
      refine ⟨D3, _, rfl, .inl ⟨SqL.of hD10, fun lp hlp => ?_⟩⟩
      have z11 : Ex (Tt K) H10 (upd H10 lp (.tup (ws.map V.int))) := Ex.new hlp
      have hp11 : HT (upd H10 lp (.tup (ws.map V.int))) lp ws := upd_same
      have y11 := y10.trans (Ed.of (d := d) z11)
      have hd11 := y11.dr hd9
      have hbk11 := y11.bk hd9 hbk
      generalize upd H10 lp (.tup (ws.map V.int)) = H11 at *
      clear hD10
      -- the thing
      refine ⟨_, rfl, by show 1 ≤ sizeLine; decide, fun t0 ht0 => ?_⟩
      have z12 : Ex (Tt K) H11 (upd H11 t0 (.tup [.int 0])) := Ex.new ht0
      have ht12 : HT (upd H11 t0 (.tup [.int 0])) t0 [0] := upd_same
      generalize upd H11 t0 (.tup [.int 0]) = H12 at *
      have y12 := Ed.of (d := d) z12
      refine ⟨_, rfl, _, rfl, d, M, 3, rfl, y12.dr hd11, by omega, m5, by decide, fun H13 a2 s2 y13 ha2 hs2 => ?_⟩
      have y1113 := y12.trans y13
      refine ⟨by show 2 ≤ sizeLine; decide, fun ll hll => ?_⟩
      have z14 : Ex (Tt K) H13 (upd H13 ll (.lst [.ref t0, .ref a2])) := Ex.new hll
      have y1114 := y1113.trans (Ed.of (d := d) z14)
      refine ⟨d, ll, [.ref t0, .ref a2], rfl, y1114.dr hd11, .inr ⟨upd_same, ne_of_none' hll (y1113.dr hd11)⟩, by show 0 < 2; decide, by show 2 < 1000000; decide, fun H15 v y15 hv => ?_⟩
      obtain ⟨ta, th, rfl, hta, hth⟩ : ∃ ta th, v = V.ref ta ∧ HT H15 ta th ∧ IsS M th := by
        rcases List.mem_cons.mp hv with q | q
        · refine ⟨t0, [0], q, ((ht12.ed y13).ex z14).ed y15, fun m hm => ?_, List.pairwise_singleton _ _⟩
          have := List.mem_singleton.mp hm
          omega
        · exact ⟨a2, s2, List.mem_singleton.mp q, (ha2.ex z14).ed y15, hs2⟩
      have y1115 := y1114.trans y15
      have hd15 := y1115.dr hd11
      have hP15 : Pr K H15 x ta lp M rsA th ws := ⟨y1115.bk hd11 hbk11, hta, hp11.ed y1115, m1, m5, hth, by omega, hSA, by omega, hw2⟩
      -- the papers of costs
      refine ⟨_, rfl, _, rfl, _, rfl, _, rfl, _, rfl, by show 2 ≤ sizeLine; decide, fun tw htw => ?_⟩
      have z16 : Ex (Tt K) H15 (upd H15 tw (.tup [.str "sum", .str "most"])) := Ex.new htw
      have y16 := Ed.of (d := d) z16
      refine ⟨d, tw, [.str "sum", .str "most"], rfl, y16.dr hd15, .inl upd_same, by show 0 < 2; decide, by show 2 < 1000000; decide, fun H17 v y17 hv => ?_⟩
      obtain ⟨wd, rfl⟩ : ∃ wd : Bool, v = V.str (wS wd) := by
        rcases List.mem_cons.mp hv with q | q
        · exact ⟨true, q⟩
        · exact ⟨false, List.mem_singleton.mp q⟩
      have y1517 := y16.trans y17
      refine ⟨d, x, ta, lp, wd, M, rsA, th, ws, rfl, y1517.dr hd15, hP15.ed y1517 hd15, fun H18 y18 => ⟨true, rfl, iteF ?_⟩⟩
      have y1518 := y1517.trans y18
      have hd18 := y1518.dr hd15
      -- the papers of bills
      refine ⟨_, rfl, _, rfl, _, rfl, _, rfl, _, rfl, _, rfl, d, M, 2, rfl, hd18, by omega, m5, by decide, fun H19 gl goal y19 hgl hgoal => ?_⟩
      have y1519 := y1518.trans y19
      have y019 := ((y9.trans y11).trans y1115).trans y1519
      refine ⟨d, x, ta, lp, gl, M, rsA, th, ws, goal, rfl, y1519.dr hd15, hP15.ed y1519 hd15, hgl, hgoal, y019.tabs htab0, fun H20 y20 => ⟨true, rfl, iteF ?_⟩⟩
      exact ⟨_, _, _, _, _, _, _, _, rfl, x0.trans (y019.trans y20)⟩
    · rintro σ H0 ⟨v2, v3, v4, v5, v6, v7, v8, v9, rfl, x0⟩
      exact k _


end
end Pb
set_option Elab.async false
set_option linter.all false
set_option maxRecDepth 100000
set_option maxHeartbeats 0
namespace Pb
open PySem PySem.Spec PyProof.Rows L2

/-! ### the head -/
/-- .. and the two tables lie apart -/
def exB2 (K : PySem.W.Frag) : Bool := exB K && decide ((He.cT K ("in_order", none)).2 ≠ (He.cT K ("_law_sets", none)).2)
abbrev R : PySem.W.OpenRow := PySem.W.OpenLaw.row PySem.Challenge.rw_ifthenbooks_k83_whole_prices
abbrev hk : PySem.W.Hook := He.hookX 6 faL fnL [] tfL exB2
def ob (s : PySem.W.SharedT) : He.AlX := He.obsX 6 faL fnL [] tfL exB2 (HandSHeadRun.getT s)
theorem ob_eq (s : PySem.W.SharedT) : ob s = hk.obs s.abs := He.obsX_eq (HandSHeadRun.getT_eq s)
def loose0 : List PySem.Str := ["_wall", "BookError", "BadBook", "BadSet", "BadIndex", "BadPrices", "BadWord", "MOST_MARKS", "MOST_RULES", "is_integer", "is_set", "is_rule", "is_within", "joined", "in_order", "sets_of", "closure", "Book", "check_book", "check_set", "MOST_PRICE", "WORDS", "check_bill", "check_costs", "paid", "Costs", "costs_for", "costs", "mark_costs", "Bill"]
def loose1 : List PySem.Str := ["bills_for", "bill", "least_bill", "_law_draw", "_law_cell_at", "_law_digits", "_law_take", "_law_pool", "_law_pick", "_law_sets", "_law_within", "_law_set", "_law_rules", "_law_joined", "_law_paid", "_law_costs", "_law_costs_right", "_law_bills", "_law_bill_right", "_law_bill_papers", "_law_costs_papers"]
def looseL : List PySem.Str := loose0 ++ loose1
theorem run (w : World) : HandSHeadRun.RunEq R (PySem.W.view R.prog [55]) hk ob 4000 looseL w := by
  intro os
  kernel_rfl
end Pb
set_option Elab.async false
set_option linter.all false
set_option maxRecDepth 100000
set_option maxHeartbeats 0
namespace Pb
open PySem PySem.Spec PyProof.Rows L2
theorem lt_of_bits {z : Int} {k : Nat} (h : Builtin.Int.intBits z ≤ k) : z.natAbs < 2 ^ k := by
  unfold Builtin.Int.intBits at h
  split at h
  · rename_i e
    have e0 : z = 0 := by simpa using e
    rw [e0]
    exact Nat.two_pow_pos k
  · exact Nat.lt_of_lt_of_le Nat.lt_log2_self (Nat.pow_le_pow_right (by decide) h)
theorem facts {w : World} {K : PySem.W.Frag} {h : Heap} {mg : Str → Option Value} {fa : Addr} (X : K.In h) (G : h.Ns mainGlobals mg) (hfa : mg ("law" : Str) = some (.ref fa)) (c : He.SaysX faL fnL [] tfL exB2 w h K) :
    LamX.LawAtS PySem.Challenge.rw_ifthenbooks_k83_whole_prices w K C8.CX0 8 63 "_law_script" mg fa h := by
  have cd : He.SaysD faL fnL K := c.t.d
  obtain ⟨fd, F⟩ := cd.def_ 37 (d := dd_37) rfl
  have e := hfa.symm.trans (He.glo_ok X G (cd.fact 37 (f := .glo "law") rfl))
  cases e
  have b := FunD.bindsA (ps := ["_law_script"]) F fun _ _ _ _ _ _ us hl => match us, hl with | [_], _ => rfl
  have ex := He.ba c.more
  have hmem : ∀ {S : Addr × Addr → Prop}, (∀ p ∈ tfL, S (He.cT K p)) → ∀ p ∈ tfL.map (He.cT K), S p := fun h p hp => by
    obtain ⟨q, hq, rfl⟩ := List.mem_map.mp hp
    exact h q hq
  refine ⟨fd, tfL.map (He.cT K), spLaw (Tt K) K, hmem c.empty, hmem c.out, hmem fun p hp => PySem.W.codeHd_of_K X (c.hd p hp), fun s u => b s [u] rfl, fun H a ns hl hbits hT hS => ?_, fun base _ _ hTB => ?_⟩
  · obtain ⟨n, hn⟩ : ∃ n : Nat, n = 1048576 := ⟨_, rfl⟩
    rw [← hn] at hbits
    refine ⟨a, ns, n, rfl, hS, by omega, by omega, by omega, fun x hx => lt_of_bits (hbits x hx), fun p hp => ?_, fun _ => rfl⟩
    rcases List.mem_cons.mp hp with q | q
    · rw [q]
      exact LamX.TabS.nil (hT _ (List.mem_map_of_mem (f := He.cT K) (show (("in_order", none) : He.Defn) ∈ tfL by simp [tfL])))
    · rw [List.mem_singleton.mp q]
      exact LamX.TabS.nil (hT _ (List.mem_map_of_mem (f := He.cT K) (show (("_law_sets", none) : He.Defn) ∈ tfL by simp [tfL])))
  · exact ok_law ⟨gxOf X G cd ex.1, of_decide_eq_true ex.2, fun p hp => hTB _ (List.mem_map_of_mem (f := He.cT K) hp)⟩ F
end Pb
open PySem PySem.W PySem.Calls PyProof.Rows
theorem PySem.Challenge.cw_ifthenbooks_k83_whole_prices_holds : PySem.Challenge.rw_ifthenbooks_k83_whole_prices.Holds := by
  w_on; o_law
  refine HandSHeadRun.head_any (r := OpenLaw.row PySem.Challenge.rw_ifthenbooks_k83_whole_prices) (q := view (OpenLaw.row PySem.Challenge.rw_ifthenbooks_k83_whole_prices).prog [55]) (H := Pb.hk) (ob := Pb.ob) (M := 4000) (loose := Pb.looseL) (d := HandSHeadRun.topDef (OpenLaw.row PySem.Challenge.rw_ifthenbooks_k83_whole_prices).prog 55) (kwd := []) Pb.ob_eq
    (by kernel_rfl) (fun s => by kernel_rfl) Pb.run (by kernel_rfl) (by kernel_rfl) (by kernel_rfl) (by rfl) (by first | assumption | decide +kernel) (by decide +kernel) ⟨rfl, rfl, rfl, rfl, rfl, by decide +kernel⟩ ?hw ?hc
  case hw => w_witness2
  case hc =>
    refine LamX.walk_ofTsE (l := PySem.Challenge.rw_ifthenbooks_k83_whole_prices) (n := 63) (k := 8) (x := "_law_script") (CX := fun _ => C8.CX0) rfl (by decide) (by kernel_rfl) ⟨rfl, by decide, by decide⟩ ?F (fun _ _ _ _ _ z => z)
    intro w mg fa h Y G hmg0
    obtain ⟨K, KX, c⟩ := Y
    have hmg : mg ("law" : PySem.Str) = some (.ref fa) := by
      have e : (HandSHeadRun.topDef (OpenLaw.row PySem.Challenge.rw_ifthenbooks_k83_whole_prices).prog 55).name = ("law" : PySem.Str) := by kernel_rfl
      rw [← e]
      exact hmg0
    exact ⟨K, KX, Pb.facts KX G hmg c⟩
