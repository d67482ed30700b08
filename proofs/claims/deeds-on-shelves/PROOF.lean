import PyProof.Rows.All
import Wide.All
import OpenK.AllK
import Wide.FinOn
import KE.KStateDown
import HandS.ForMost
import HandS.Exc
import HandS.Defaults
import HandS.Slots
import HandS.SlotsOwn
import HandS.Property
import HandS.Head0
import HandS.Head1
import HandS.Head2
import HandS.HeadEnd
import HandS.HeadHook1
import HandS.HeadHook2
import HandS.HeadHook3
import HandS.HeadHook4
import HandS.HeadWalk
import KE.KOpsOwn
import KE.KExcSuper
import HandS.ExcIs
import PySem.Challenge.RW_likeorders_k82_whole_deeds_on_shelves
import HandS.Evl
import HandS.Star
import HandS.TupAny
import HandS.TupLe
import HandS.Deep
import HandS.Walk
import HandS.Iter
import HandS.DictComp
import HandS.IsInst
import KE.GoesEnum
import KE.GoesMore
import KE.SortData
import KE.LtData
import PyProof.CollectStr
import HandS.Dict
import HandS.Strs
import HandS.SetFor
import HandS.SetKeys
import HandS.Text
import HandS.DeepEq
import HandS.ListItems
import HandS.Conv
import HandS.RaiseMore
import PyProof.ReprRoads
import PyProof.ReprLen
import HandS.More
import HandS.Small
import HandS.Lambda
import KE.KTryMore
import HandS.NestedK
import OpenK.KOps
import OpenK.KMeth
import HandS.OwnEq
import HandS.EndTab
import KE.KNestM
set_option Elab.async false
set_option linter.all false
set_option maxRecDepth 100000
set_option maxHeartbeats 4000000
/-! The head: where each def stands, what the top has left, told by names. Printed by gen_head.py. -/
namespace Lk
open PySem PySem.Spec PyProof.Rows L2
abbrev Frag := PySem.W.Frag
def lkTop (i : Nat) : Stmt := PySem.Challenge.pw_likeorders_k82_whole_deeds_on_shelves.main.body.getD i (.Pass ⟨0, 0, 0, 0⟩)
abbrev S_is_whole : Stmt := lkTop 22
abbrev S_is_among : Stmt := lkTop 23
abbrev S_is_list : Stmt := lkTop 24
abbrev S_is_sign : Stmt := lkTop 25
abbrev S_need_signs : Stmt := lkTop 26
abbrev S_is_unit : Stmt := lkTop 27
abbrev S_is_sequence : Stmt := lkTop 28
abbrev S_are_units : Stmt := lkTop 29
abbrev S_is_entry : Stmt := lkTop 30
abbrev S_need_entries : Stmt := lkTop 31
abbrev S_Table___init__ : Stmt := inClass (lkTop 32) 1
abbrev S_Table___eq__ : Stmt := inClass (lkTop 32) 4
abbrev S_need_text : Stmt := lkTop 35
abbrev S_first_piece : Stmt := lkTop 36
abbrev S_cut_all : Stmt := lkTop 37
abbrev S_units_of : Stmt := lkTop 38
abbrev S_need_strength : Stmt := lkTop 40
abbrev S_key_of : Stmt := lkTop 41
abbrev S_key_by : Stmt := lkTop 44
abbrev S_order_by : Stmt := lkTop 45
abbrev S_turns_of : Stmt := lkTop 46
abbrev S_Shelf___init__ : Stmt := inClass (lkTop 47) 0
abbrev S_Shelf_table : Stmt := inClass (lkTop 47) 1
abbrev S_Shelf_strength : Stmt := inClass (lkTop 47) 2
abbrev S_Shelf_line : Stmt := inClass (lkTop 47) 3
abbrev S_Shelf_numbers : Stmt := inClass (lkTop 47) 4
abbrev S_Shelf___len__ : Stmt := inClass (lkTop 47) 5
abbrev S_Shelf___getitem__ : Stmt := inClass (lkTop 47) 7
abbrev S_Shelf___iadd__ : Stmt := inClass (lkTop 47) 10
abbrev S_Shelf_keep : Stmt := inClass (lkTop 47) 11
abbrev S_Shelf_all_keys : Stmt := inClass (lkTop 47) 12
abbrev S_Shelf_key_here : Stmt := inClass (lkTop 47) 13
abbrev S_Shelf_put : Stmt := inClass (lkTop 47) 14
abbrev S_Shelf_take : Stmt := inClass (lkTop 47) 15
abbrev S_Shelf_groups : Stmt := inClass (lkTop 47) 19
abbrev S_Shelf_headings : Stmt := inClass (lkTop 47) 20
abbrev S_Shelf_change : Stmt := inClass (lkTop 47) 21
abbrev S_Shelf_places_by : Stmt := inClass (lkTop 47) 22
abbrev S_Shelf_undo : Stmt := inClass (lkTop 47) 24
abbrev S__law_mixed : Stmt := lkTop 49
abbrev S__law_folded : Stmt := lkTop 50
abbrev S__law_draw : Stmt := lkTop 51
abbrev S__law_begun : Stmt := lkTop 52
abbrev S__law_like : Stmt := lkTop 53
abbrev S__law_order : Stmt := lkTop 54
abbrev S__law_signs : Stmt := lkTop 55
abbrev S__law_unit : Stmt := lkTop 56
abbrev S__law_units : Stmt := lkTop 57
abbrev S__law_known : Stmt := lkTop 58
abbrev S__law_table : Stmt := lkTop 59
abbrev S__law_text : Stmt := lkTop 60
abbrev S__law_pieces : Stmt := lkTop 61
abbrev S__law_row : Stmt := lkTop 62
abbrev S__law_key : Stmt := lkTop 63
abbrev S__law_near : Stmt := lkTop 64
abbrev S__law_said : Stmt := lkTop 65
abbrev S__law_line : Stmt := lkTop 66
abbrev S__law_places : Stmt := lkTop 67
abbrev S__law_turns : Stmt := lkTop 68
abbrev S__law_own : Stmt := lkTop 69
abbrev S__law_stands : Stmt := lkTop 70
abbrev S__law_kept : Stmt := lkTop 71
abbrev S__law_put : Stmt := lkTop 72
abbrev S__law_taken : Stmt := lkTop 73
abbrev S__law_changed : Stmt := lkTop 74
abbrev S__law_undone : Stmt := lkTop 75
abbrev S__law_other : Stmt := lkTop 76
abbrev S__law_filled : Stmt := lkTop 77
abbrev S__law_begin_shelf : Stmt := lkTop 78
abbrev S__law_joined : Stmt := lkTop 79
abbrev S__law_deed : Stmt := lkTop 80
abbrev S_law : Stmt := lkTop 81
/-! ### a def at any place -/
structure DefA where
  ad : Frag → Addr
  name : Str
  qual : Str
  params : Arguments
  body : List Stmt
  scope : Scope
  dfl : List V := []
def fnAt (K : Frag) (a : Addr) : He.FnW := match K.lookup a with
  | some ⟨_, _, .func fd, _⟩ => some (fd.name, fd.qualname, fd.params, fd.body, fd.scope, fd.globals, fd.closure, fd.builtins)
  | _ => none
def DefA.val (d : DefA) : He.FnW := some (d.name, d.qual, d.params, .stmts d.body, d.scope, mainGlobals, [], builtinsNs)
def DefA.ok (K : Frag) (d : DefA) : Bool := PySem.W.keepIn K (.ref (d.ad K)) && (match K.lookup (d.ad K) with
  | some ⟨_, _, .func fd, _⟩ => PySem.W.codeIn K fd.code d.qual && He.dflB K fd.defaults d.dfl
  | _ => false)
theorem DefA.funD {K : Frag} {d : DefA} (e : fnAt K (d.ad K) = d.val) (c : d.ok K = true) : ∃ fd, FunD K d.name d.qual d.params d.body d.scope d.dfl [] (d.ad K) fd := by
  obtain ⟨kp, c1⟩ := He.ba c
  cases q : K.lookup (d.ad K) with
  | none => simp [q] at c1
  | some o =>
    obtain ⟨oc, od, dt, osl⟩ := o
    cases dt with
    | func fd =>
      obtain ⟨m1, m2, m3, m4, m5, m6, m7, m8, m9, m10, m11, m12, m13, m14, m15⟩ := fd
      have e1 : (some (m1, m2, m3, m4, m5, m6, m7, m15) : He.FnW) = d.val := by rw [← e, fnAt, q]
      simp only [DefA.val, Option.some.injEq, Prod.mk.injEq] at e1
      obtain ⟨h1, h2, h3, h4, h5, h6, h7, h8⟩ := e1
      subst h1 h2 h3 h4 h5 h6 h7 h8
      rw [q] at c1
      obtain ⟨k1, k2⟩ := He.ba (show (PySem.W.codeIn K m13 d.qual && He.dflB K m8 d.dfl) = true from c1)
      exact ⟨_, ⟨oc, od, m8, m9, m10, m11, m12, m13, m14, osl, rfl, q, k1, He.dflB_ok k2, .inl rfl⟩, kp⟩
    | _ => simp [q] at c1
/-! ### where the getters of properties stand -/
def prA (K : Frag) (C f : Str) : Addr := match PySem.W.findIn K (.ref (He.ga K C)) f with
  | some (some (.ref p)) => p
  | _ => 0
def pgA (K : Frag) (C f : Str) : Addr := match PySem.W.recIn K (prA K C f) "property" with
  | some (.ref g :: _) => g
  | _ => 0
def eqF (K : Frag) (C f : Str) (v : Option (Option Value)) : Bool := decide (PySem.W.findIn K (.ref (He.ga K C)) f = v)
def propB (K : Frag) (C f : Str) : Bool := eqF K C f (some (some (.ref (prA K C f)))) && (decide (PySem.W.specialIn K (.ref (prA K C f)) "__get__" = some (some (.builtin "property.__get__"))) && (decide (PySem.W.takesIn K (.ref (prA K C f)) = some true) &&
  (match PySem.W.recIn K (prA K C f) "property" with
  | some (.ref g :: _) => decide (g = pgA K C f)
  | _ => false)))
theorem propB_ok {K : Frag} {C f : Str} (h : propB K C f = true) : PropOf K (He.ga K C) f (prA K C f) (pgA K C f) := by
  obtain ⟨h1, h2⟩ := He.ba h
  obtain ⟨h2, h3⟩ := He.ba h2
  obtain ⟨h3, h4⟩ := He.ba h3
  refine ⟨of_decide_eq_true h1, of_decide_eq_true h2, of_decide_eq_true h3, ?_⟩
  split at h4
  · rename_i g r q
    rw [q, of_decide_eq_true h4]
    exact ⟨_, rfl⟩
  · cases h4
def slotB (K : Frag) (C f : Str) (i : Nat) : Bool := eqF K C f (some (some (.ref (prA K C f)))) && (decide (PySem.W.specialIn K (.ref (prA K C f)) "__get__" = some (some (.builtin "member_descriptor.__get__"))) && (decide (PySem.W.takesIn K (.ref (prA K C f)) = some true) &&
  (decide (PySem.W.typeIn K (.ref (prA K C f)) = some (.type "member_descriptor")) && decide (PySem.W.slotIn K (prA K C f) (He.ga K C) = some i))))
theorem slotB_ok {K : Frag} {C f : Str} {i : Nat} (h : slotB K C f i = true) (hi : i < 1000) : SlX.Slot1 K (He.ga K C) f (prA K C f) i := by
  obtain ⟨h1, h2⟩ := He.ba h
  obtain ⟨h2, h3⟩ := He.ba h2
  obtain ⟨h3, h4⟩ := He.ba h3
  obtain ⟨h4, h5⟩ := He.ba h4
  exact ⟨of_decide_eq_true h1, of_decide_eq_true h2, of_decide_eq_true h3, of_decide_eq_true h4, of_decide_eq_true h5, hi⟩
def sclsB (K : Frag) (C : Str) : Bool := PySem.W.plainGet K (He.ga K C) Str.empty && (PySem.W.isClsIn K (He.ga K C) && (PySem.W.plainOver K (He.ga K C) && eqF K C "__setattr__" (some (some (.builtin "object.__setattr__")))))
theorem sclsB_ok {K : Frag} {C : Str} (h : sclsB K C = true) : SlX.SCls K (He.ga K C) := by
  obtain ⟨h1, h2⟩ := He.ba h
  obtain ⟨h2, h3⟩ := He.ba h2
  obtain ⟨h3, h4⟩ := He.ba h3
  exact ⟨h1, h2, h3, of_decide_eq_true h4⟩
def sisiB (K : Frag) (C : Str) : Bool := eqF K C "__class__" (some (some (.builtin "object.__class__"))) && (decide (PySem.W.specialIn K (.builtin "object.__class__") "__get__" = some (some (.builtin "getset_descriptor.__get__"))) &&
  (decide (PySem.W.takesIn K (.builtin "object.__class__") = some true) && decide (PySem.W.mroIn K (He.ga K C) (.type "object") = some true)))
theorem sisiB_ok {K : Frag} {C : Str} (h : sisiB K C = true) : SlX.SIsi K (He.ga K C) := by
  obtain ⟨h1, h2⟩ := He.ba h
  obtain ⟨h2, h3⟩ := He.ba h2
  obtain ⟨h3, h4⟩ := He.ba h3
  exact ⟨of_decide_eq_true h1, of_decide_eq_true h2, of_decide_eq_true h3, of_decide_eq_true h4⟩
/-! ### the facts -/
def fa0 : List He.Fa := [
  .glo "OrderError",
  .glo "BadSigns",
  .glo "BadEntries",
  .glo "BadText",
  .glo "BadStrength",
  .glo "BadPaper",
  .glo "OtherSigns",
  .glo "BadPlace",
  .glo "BadWidth",
  .glo "NothingLeft",
  .glo "Missing",
  .glo "TooMany",
  .glo "is_whole",
  .glo "is_among",
  .glo "is_list",
  .glo "is_sign",
  .glo "need_signs",
  .glo "is_unit",
  .glo "is_sequence",
  .glo "are_units",
  .glo "is_entry",
  .glo "need_entries",
  .glo "Table",
  .glo "need_text",
  .glo "first_piece",
  .glo "cut_all",
  .glo "units_of",
  .glo "need_strength",
  .glo "key_of",
  .glo "key_by",
  .glo "order_by",
  .glo "turns_of",
  .glo "Shelf",
  .glo "_law_mixed",
  .glo "_law_folded",
  .glo "_law_draw",
  .glo "_law_begun",
  .glo "_law_like",
  .glo "_law_order",
  .glo "_law_signs"]
def fa1 : List He.Fa := [
  .glo "_law_unit",
  .glo "_law_units",
  .glo "_law_known",
  .glo "_law_table",
  .glo "_law_text",
  .glo "_law_pieces",
  .glo "_law_row",
  .glo "_law_key",
  .glo "_law_near",
  .glo "_law_said",
  .glo "_law_line",
  .glo "_law_places",
  .glo "_law_turns",
  .glo "_law_own",
  .glo "_law_stands",
  .glo "_law_kept",
  .glo "_law_put",
  .glo "_law_taken",
  .glo "_law_changed",
  .glo "_law_undone",
  .glo "_law_other",
  .glo "_law_filled",
  .glo "_law_begin_shelf",
  .glo "_law_joined",
  .glo "_law_deed",
  .glo "law",
  .free "len",
  .free "isinstance",
  .free "range",
  .free "enumerate",
  .free "sorted",
  .free "list",
  .free "tuple",
  .free "set",
  .free "dict",
  .free "max",
  .free "min",
  .free "int",
  .free "bool",
  .free "str"]
def fa2 : List He.Fa := [
  .free "repr",
  .free "ord",
  .free "all",
  .free "super",
  .int "MOST_SIGNS" 12,
  .int "MOST_ENTRIES" 30,
  .int "MOST_LONG" 3,
  .int "MOST_UNITS" 3,
  .int "MOST_LETTER" 999,
  .int "MOST_WEIGHT" 99,
  .int "PERCENT" 37,
  .int "MOST_TEXT" 200,
  .int "MOST_SHELF" 200,
  .cls "Shelf",
  .mkr "Shelf",
  .mkr "Table",
  .noat "Shelf" "own_table",
  .noat "Shelf" "own_strength",
  .noat "Shelf" "own_texts",
  .noat "Shelf" "own_past",
  .meth "Shelf" "numbers",
  .meth "Shelf" "keep",
  .meth "Shelf" "all_keys",
  .meth "Shelf" "key_here",
  .meth "Shelf" "put",
  .meth "Shelf" "take",
  .meth "Shelf" "groups",
  .meth "Shelf" "headings",
  .meth "Shelf" "change",
  .meth "Shelf" "places_by",
  .meth "Shelf" "undo",
  .meth "Shelf" "__len__",
  .meth "Shelf" "__getitem__",
  .meth "Shelf" "__iadd__",
  .meth "Table" "__eq__",
  .exm "NothingLeft" "BadText" false,
  .exm "NothingLeft" "BadStrength" false,
  .exm "NothingLeft" "BadPlace" false,
  .exm "NothingLeft" "BadWidth" false,
  .exm "NothingLeft" "BadPaper" false]
def fa3 : List He.Fa := [
  .exm "NothingLeft" "Missing" false,
  .exm "NothingLeft" "TooMany" false,
  .exm "NothingLeft" "OtherSigns" false,
  .exm "NothingLeft" "NothingLeft" true,
  .exm "NothingLeft" "OrderError" true,
  .meth "NothingLeft" "__init__"]
def fas : List He.Fa := fa0 ++ fa1 ++ fa2 ++ fa3
def D_is_whole : He.DefD := ⟨("is_whole", none), "is_whole", "is_whole", defArgs S_is_whole, defBody S_is_whole, defScope S_is_whole, [], []⟩
def D_is_among : He.DefD := ⟨("is_among", none), "is_among", "is_among", defArgs S_is_among, defBody S_is_among, defScope S_is_among, [], []⟩
def D_is_list : He.DefD := ⟨("is_list", none), "is_list", "is_list", defArgs S_is_list, defBody S_is_list, defScope S_is_list, [], []⟩
def D_is_sign : He.DefD := ⟨("is_sign", none), "is_sign", "is_sign", defArgs S_is_sign, defBody S_is_sign, defScope S_is_sign, [], []⟩
def D_need_signs : He.DefD := ⟨("need_signs", none), "need_signs", "need_signs", defArgs S_need_signs, defBody S_need_signs, defScope S_need_signs, [], []⟩
def D_is_unit : He.DefD := ⟨("is_unit", none), "is_unit", "is_unit", defArgs S_is_unit, defBody S_is_unit, defScope S_is_unit, [], []⟩
def D_is_sequence : He.DefD := ⟨("is_sequence", none), "is_sequence", "is_sequence", defArgs S_is_sequence, defBody S_is_sequence, defScope S_is_sequence, [], []⟩
def D_are_units : He.DefD := ⟨("are_units", none), "are_units", "are_units", defArgs S_are_units, defBody S_are_units, defScope S_are_units, [], []⟩
def D_is_entry : He.DefD := ⟨("is_entry", none), "is_entry", "is_entry", defArgs S_is_entry, defBody S_is_entry, defScope S_is_entry, [], []⟩
def D_need_entries : He.DefD := ⟨("need_entries", none), "need_entries", "need_entries", defArgs S_need_entries, defBody S_need_entries, defScope S_need_entries, [], []⟩
def D_Table___init__ : He.DefD := ⟨("Table", some "__init__"), "__init__", "Table.__init__", defArgs S_Table___init__, defBody S_Table___init__, defScope S_Table___init__, [], []⟩
def D_Table___eq__ : He.DefD := ⟨("Table", some "__eq__"), "__eq__", "Table.__eq__", defArgs S_Table___eq__, defBody S_Table___eq__, defScope S_Table___eq__, [], []⟩
def D_need_text : He.DefD := ⟨("need_text", none), "need_text", "need_text", defArgs S_need_text, defBody S_need_text, defScope S_need_text, [], []⟩
def D_first_piece : He.DefD := ⟨("first_piece", none), "first_piece", "first_piece", defArgs S_first_piece, defBody S_first_piece, defScope S_first_piece, [], []⟩
def D_cut_all : He.DefD := ⟨("cut_all", none), "cut_all", "cut_all", defArgs S_cut_all, defBody S_cut_all, defScope S_cut_all, [], []⟩
def D_units_of : He.DefD := ⟨("units_of", none), "units_of", "units_of", defArgs S_units_of, defBody S_units_of, defScope S_units_of, [], []⟩
def D_need_strength : He.DefD := ⟨("need_strength", none), "need_strength", "need_strength", defArgs S_need_strength, defBody S_need_strength, defScope S_need_strength, [], []⟩
def D_key_of : He.DefD := ⟨("key_of", none), "key_of", "key_of", defArgs S_key_of, defBody S_key_of, defScope S_key_of, [], []⟩
def D_key_by : He.DefD := ⟨("key_by", none), "key_by", "key_by", defArgs S_key_by, defBody S_key_by, defScope S_key_by, [], []⟩
def D_order_by : He.DefD := ⟨("order_by", none), "order_by", "order_by", defArgs S_order_by, defBody S_order_by, defScope S_order_by, [], []⟩
def D_turns_of : He.DefD := ⟨("turns_of", none), "turns_of", "turns_of", defArgs S_turns_of, defBody S_turns_of, defScope S_turns_of, [], []⟩
def D_Shelf___init__ : He.DefD := ⟨("Shelf", some "__init__"), "__init__", "Shelf.__init__", defArgs S_Shelf___init__, defBody S_Shelf___init__, defScope S_Shelf___init__, [.int 3], []⟩
def D_Shelf_numbers : He.DefD := ⟨("Shelf", some "numbers"), "numbers", "Shelf.numbers", defArgs S_Shelf_numbers, defBody S_Shelf_numbers, defScope S_Shelf_numbers, [], []⟩
def D_Shelf___len__ : He.DefD := ⟨("Shelf", some "__len__"), "__len__", "Shelf.__len__", defArgs S_Shelf___len__, defBody S_Shelf___len__, defScope S_Shelf___len__, [], []⟩
def D_Shelf___getitem__ : He.DefD := ⟨("Shelf", some "__getitem__"), "__getitem__", "Shelf.__getitem__", defArgs S_Shelf___getitem__, defBody S_Shelf___getitem__, defScope S_Shelf___getitem__, [], []⟩
def D_Shelf___iadd__ : He.DefD := ⟨("Shelf", some "__iadd__"), "__iadd__", "Shelf.__iadd__", defArgs S_Shelf___iadd__, defBody S_Shelf___iadd__, defScope S_Shelf___iadd__, [], []⟩
def D_Shelf_keep : He.DefD := ⟨("Shelf", some "keep"), "keep", "Shelf.keep", defArgs S_Shelf_keep, defBody S_Shelf_keep, defScope S_Shelf_keep, [], []⟩
def D_Shelf_all_keys : He.DefD := ⟨("Shelf", some "all_keys"), "all_keys", "Shelf.all_keys", defArgs S_Shelf_all_keys, defBody S_Shelf_all_keys, defScope S_Shelf_all_keys, [], []⟩
def D_Shelf_key_here : He.DefD := ⟨("Shelf", some "key_here"), "key_here", "Shelf.key_here", defArgs S_Shelf_key_here, defBody S_Shelf_key_here, defScope S_Shelf_key_here, [], []⟩
def D_Shelf_put : He.DefD := ⟨("Shelf", some "put"), "put", "Shelf.put", defArgs S_Shelf_put, defBody S_Shelf_put, defScope S_Shelf_put, [], []⟩
def D_Shelf_take : He.DefD := ⟨("Shelf", some "take"), "take", "Shelf.take", defArgs S_Shelf_take, defBody S_Shelf_take, defScope S_Shelf_take, [], []⟩
def D_Shelf_groups : He.DefD := ⟨("Shelf", some "groups"), "groups", "Shelf.groups", defArgs S_Shelf_groups, defBody S_Shelf_groups, defScope S_Shelf_groups, [], []⟩
def D_Shelf_headings : He.DefD := ⟨("Shelf", some "headings"), "headings", "Shelf.headings", defArgs S_Shelf_headings, defBody S_Shelf_headings, defScope S_Shelf_headings, [], []⟩
def D_Shelf_change : He.DefD := ⟨("Shelf", some "change"), "change", "Shelf.change", defArgs S_Shelf_change, defBody S_Shelf_change, defScope S_Shelf_change, [.int 3], []⟩
def D_Shelf_places_by : He.DefD := ⟨("Shelf", some "places_by"), "places_by", "Shelf.places_by", defArgs S_Shelf_places_by, defBody S_Shelf_places_by, defScope S_Shelf_places_by, [], []⟩
def D_Shelf_undo : He.DefD := ⟨("Shelf", some "undo"), "undo", "Shelf.undo", defArgs S_Shelf_undo, defBody S_Shelf_undo, defScope S_Shelf_undo, [], []⟩
def D__law_mixed : He.DefD := ⟨("_law_mixed", none), "_law_mixed", "_law_mixed", defArgs S__law_mixed, defBody S__law_mixed, defScope S__law_mixed, [], []⟩
def D__law_folded : He.DefD := ⟨("_law_folded", none), "_law_folded", "_law_folded", defArgs S__law_folded, defBody S__law_folded, defScope S__law_folded, [], []⟩
def D__law_draw : He.DefD := ⟨("_law_draw", none), "_law_draw", "_law_draw", defArgs S__law_draw, defBody S__law_draw, defScope S__law_draw, [], []⟩
def D__law_begun : He.DefD := ⟨("_law_begun", none), "_law_begun", "_law_begun", defArgs S__law_begun, defBody S__law_begun, defScope S__law_begun, [], []⟩
def D__law_like : He.DefD := ⟨("_law_like", none), "_law_like", "_law_like", defArgs S__law_like, defBody S__law_like, defScope S__law_like, [], []⟩
def D__law_order : He.DefD := ⟨("_law_order", none), "_law_order", "_law_order", defArgs S__law_order, defBody S__law_order, defScope S__law_order, [], []⟩
def D__law_signs : He.DefD := ⟨("_law_signs", none), "_law_signs", "_law_signs", defArgs S__law_signs, defBody S__law_signs, defScope S__law_signs, [], []⟩
def D__law_unit : He.DefD := ⟨("_law_unit", none), "_law_unit", "_law_unit", defArgs S__law_unit, defBody S__law_unit, defScope S__law_unit, [], []⟩
def D__law_units : He.DefD := ⟨("_law_units", none), "_law_units", "_law_units", defArgs S__law_units, defBody S__law_units, defScope S__law_units, [], []⟩
def D__law_known : He.DefD := ⟨("_law_known", none), "_law_known", "_law_known", defArgs S__law_known, defBody S__law_known, defScope S__law_known, [], []⟩
def D__law_table : He.DefD := ⟨("_law_table", none), "_law_table", "_law_table", defArgs S__law_table, defBody S__law_table, defScope S__law_table, [], []⟩
def D__law_text : He.DefD := ⟨("_law_text", none), "_law_text", "_law_text", defArgs S__law_text, defBody S__law_text, defScope S__law_text, [], []⟩
def D__law_pieces : He.DefD := ⟨("_law_pieces", none), "_law_pieces", "_law_pieces", defArgs S__law_pieces, defBody S__law_pieces, defScope S__law_pieces, [], []⟩
def D__law_row : He.DefD := ⟨("_law_row", none), "_law_row", "_law_row", defArgs S__law_row, defBody S__law_row, defScope S__law_row, [], []⟩
def D__law_key : He.DefD := ⟨("_law_key", none), "_law_key", "_law_key", defArgs S__law_key, defBody S__law_key, defScope S__law_key, [], []⟩
def D__law_near : He.DefD := ⟨("_law_near", none), "_law_near", "_law_near", defArgs S__law_near, defBody S__law_near, defScope S__law_near, [], []⟩
def D__law_said : He.DefD := ⟨("_law_said", none), "_law_said", "_law_said", defArgs S__law_said, defBody S__law_said, defScope S__law_said, [], []⟩
def D__law_line : He.DefD := ⟨("_law_line", none), "_law_line", "_law_line", defArgs S__law_line, defBody S__law_line, defScope S__law_line, [], []⟩
def D__law_places : He.DefD := ⟨("_law_places", none), "_law_places", "_law_places", defArgs S__law_places, defBody S__law_places, defScope S__law_places, [], []⟩
def D__law_turns : He.DefD := ⟨("_law_turns", none), "_law_turns", "_law_turns", defArgs S__law_turns, defBody S__law_turns, defScope S__law_turns, [], []⟩
def D__law_own : He.DefD := ⟨("_law_own", none), "_law_own", "_law_own", defArgs S__law_own, defBody S__law_own, defScope S__law_own, [], []⟩
def D__law_stands : He.DefD := ⟨("_law_stands", none), "_law_stands", "_law_stands", defArgs S__law_stands, defBody S__law_stands, defScope S__law_stands, [], []⟩
def D__law_kept : He.DefD := ⟨("_law_kept", none), "_law_kept", "_law_kept", defArgs S__law_kept, defBody S__law_kept, defScope S__law_kept, [], []⟩
def D__law_put : He.DefD := ⟨("_law_put", none), "_law_put", "_law_put", defArgs S__law_put, defBody S__law_put, defScope S__law_put, [], []⟩
def D__law_taken : He.DefD := ⟨("_law_taken", none), "_law_taken", "_law_taken", defArgs S__law_taken, defBody S__law_taken, defScope S__law_taken, [], []⟩
def D__law_changed : He.DefD := ⟨("_law_changed", none), "_law_changed", "_law_changed", defArgs S__law_changed, defBody S__law_changed, defScope S__law_changed, [], []⟩
def D__law_undone : He.DefD := ⟨("_law_undone", none), "_law_undone", "_law_undone", defArgs S__law_undone, defBody S__law_undone, defScope S__law_undone, [], []⟩
def D__law_other : He.DefD := ⟨("_law_other", none), "_law_other", "_law_other", defArgs S__law_other, defBody S__law_other, defScope S__law_other, [], []⟩
def D__law_filled : He.DefD := ⟨("_law_filled", none), "_law_filled", "_law_filled", defArgs S__law_filled, defBody S__law_filled, defScope S__law_filled, [], []⟩
def D__law_begin_shelf : He.DefD := ⟨("_law_begin_shelf", none), "_law_begin_shelf", "_law_begin_shelf", defArgs S__law_begin_shelf, defBody S__law_begin_shelf, defScope S__law_begin_shelf, [], []⟩
def D__law_joined : He.DefD := ⟨("_law_joined", none), "_law_joined", "_law_joined", defArgs S__law_joined, defBody S__law_joined, defScope S__law_joined, [], []⟩
def D__law_deed : He.DefD := ⟨("_law_deed", none), "_law_deed", "_law_deed", defArgs S__law_deed, defBody S__law_deed, defScope S__law_deed, [], []⟩
def D_law : He.DefD := ⟨("law", none), "law", "law", defArgs S_law, defBody S_law, defScope S_law, [], []⟩
def fns0 : List He.DefD := [D_is_whole, D_is_among, D_is_list, D_is_sign, D_need_signs, D_is_unit, D_is_sequence, D_are_units, D_is_entry, D_need_entries, D_Table___init__, D_Table___eq__, D_need_text, D_first_piece, D_cut_all, D_units_of, D_need_strength, D_key_of, D_key_by, D_order_by, D_turns_of, D_Shelf___init__, D_Shelf_numbers, D_Shelf___len__, D_Shelf___getitem__, D_Shelf___iadd__, D_Shelf_keep, D_Shelf_all_keys, D_Shelf_key_here, D_Shelf_put, D_Shelf_take, D_Shelf_groups, D_Shelf_headings, D_Shelf_change, D_Shelf_places_by, D_Shelf_undo, D__law_mixed, D__law_folded, D__law_draw, D__law_begun]
def fns1 : List He.DefD := [D__law_like, D__law_order, D__law_signs, D__law_unit, D__law_units, D__law_known, D__law_table, D__law_text, D__law_pieces, D__law_row, D__law_key, D__law_near, D__law_said, D__law_line, D__law_places, D__law_turns, D__law_own, D__law_stands, D__law_kept, D__law_put, D__law_taken, D__law_changed, D__law_undone, D__law_other, D__law_filled, D__law_begin_shelf, D__law_joined, D__law_deed, D_law]
def fnl : List He.DefD := fns0 ++ fns1
def P_Shelf_table : DefA := ⟨fun K => pgA K "Shelf" "table", "table", "Shelf.table", defArgs S_Shelf_table, defBody S_Shelf_table, defScope S_Shelf_table, []⟩
def P_Shelf_strength : DefA := ⟨fun K => pgA K "Shelf" "strength", "strength", "Shelf.strength", defArgs S_Shelf_strength, defBody S_Shelf_strength, defScope S_Shelf_strength, []⟩
def P_Shelf_line : DefA := ⟨fun K => pgA K "Shelf" "line", "line", "Shelf.line", defArgs S_Shelf_line, defBody S_Shelf_line, defScope S_Shelf_line, []⟩
def gts : List DefA := [P_Shelf_table, P_Shelf_strength, P_Shelf_line]
def exs (K : Frag) : List Bool := [
  propB K "Shelf" "table",
  propB K "Shelf" "strength",
  propB K "Shelf" "line",
  slotB K "Table" "signs" 2,
  slotB K "Table" "known" 1,
  slotB K "Table" "begun" 0,
  sclsB K "Table",
  sisiB K "Table",
  PySem.W.notFirst K (He.ga K "Table") (.ref (He.ga K "Table")),
  decide (PySem.W.kitOne K (.ref (He.ga K "Table")) (.ref (He.ga K "Table")) = some true),
  decide (PySem.W.kitOne K (.ref (He.ga K "Shelf")) (.ref (He.ga K "Shelf")) = some true),
  sisiB K "Shelf",
  PySem.W.selfFirst K (He.ga K "Shelf"),
  PySem.W.noSeq K (He.ga K "Shelf")]
def exB (K : Frag) : Bool := (exs K).all id && gts.all fun d => d.ok K
theorem exB_at {K : Frag} (h : exB K = true) (i : Nat) {b : Bool} (e : (exs K)[i]? = some b := by rfl) : b = true := List.all_eq_true.mp (He.ba h).1 b (List.mem_of_getElem? e)
/-! ### the part of the heap that is looked at -/
def refsL (o : Obj) : List Addr := match o.data with
  | .dict es _ => es.toList.flatMap fun e => He.refV e.val
  | .func fd => He.refV fd.code ++ (He.refV fd.defaults ++ fd.closure.map (·.2))
  | .cls cd => [cd.ns]
  | .fields vs => (match o.cls with
    | .type "property" => vs.toList.flatMap He.refV
    | _ => [])
  | _ => []
def lev (g : Addr → Option Obj) : Nat → List Addr → List Addr
  | 0, as => as
  | n + 1, as => as ++ lev g n (as.flatMap fun a => match g a with
    | some o => refsL o
    | none => [])
def asL (g : Addr → Option Obj) : List Addr := cStatics :: lev g 5 [mainGlobals]
abbrev frL (g : Addr → Option Obj) : Frag := He.frT g (asL g)
def udn : He.Defn := ("_law_undone", none)
def tabB (g : Addr → Option Obj) (K : Frag) : Bool := PySem.W.codeHdIn K (He.cT K udn).1 (He.cT K udn).2 && (match g (He.cT K udn).2 with
  | some o => He.emptyTab o
  | none => false)
/-! ### NothingLeft, its __init__ -/
abbrev S_NL : Stmt := inClass (lkTop 11) 0
abbrev PP : Program := PySem.Challenge.pw_likeorders_k82_whole_deeds_on_shelves
/-- what the written part says of NothingLeft and its __init__ -/
structure NlK (P : Program) (K : Frag) (C f cc cda : Addr) : Prop where
  lk : ∃ oc od osl kV doc pm an ct, K.lookup f = some ⟨oc, od, .func (PySem.W.ksFn "__init__" "NothingLeft.__init__" (defArgs S_NL) (defBody S_NL) (defScope S_NL) .none kV doc pm an (.ref cda) ct cc), osl⟩
  cod : PySem.W.codeIn K (.ref cda) "NothingLeft.__init__" = true
  file : ∃ ccl cdd vs ccs fl tf, K.lookup cda = some ⟨ccl, cdd, .fields vs, ccs⟩ ∧ vs[2]? = some (.str fl tf) ∧ ((P.main.file : Str) == fl) = true
  cell : ∃ cl cld csl, K.lookup cc = some ⟨cl, cld, .cell (some (.ref C)), csl⟩
  top : (P.main.scope.names.lookup ("super" : Str)).isSome = false
  exc : PySem.W.excInitIn K C (.type "ValueError" :: [.type "Exception", .type "BaseException", .type "object"]) "ValueError.__new__" = true
  ini : PySem.W.findIn K (.ref C) "__init__" = some (some (.ref f))
  tyf : PySem.W.typeIn K (.ref f) = some (.type "function")
  kC : PySem.W.keepIn K (.ref C) = true
  sup : PySem.W.ks_superIn K C C "__init__" = some (some (.builtin "ValueError.__init__"))
  opq : PySem.W.nsIn K cStatics "thirdparty.any" = some none
  sVE : PySem.W.subIn K (.ref C) (.type "ValueError") = some true
  sBE : PySem.W.subIn K (.ref C) (.type "BaseException") = some true
  tyC : PySem.W.typeIn K (.ref C) = some (.type "type")
  mro : PySem.W.mroIn K C (.ref C) = some true
/-- where NothingLeft's parts stand -/
def NlP (P : Program) (K : Frag) : Prop := ∃ f cc cda, NlK P K (He.ga K "NothingLeft") f cc cda
def nlAt : He.Defn := ("NothingLeft", some "__init__")
def nlV (K : Frag) : He.FnW := match K.lookup (He.fAd K nlAt) with
  | some ⟨_, _, .func fd, _⟩ => some (fd.name, fd.qualname, fd.params, fd.body, fd.scope, fd.globals, [], fd.builtins)
  | _ => none
def nlVal : He.FnW := some ("__init__", "NothingLeft.__init__", defArgs S_NL, .stmts (defBody S_NL), defScope S_NL, mainGlobals, [], builtinsNs)
/-- the parts of its function -/
def nlB1 (K : Frag) : Bool := match K.lookup (He.fAd K nlAt) with
  | some ⟨_, _, .func fd, _⟩ => (match fd.closure, fd.code, fd.defaults with
    | [(x, cc)], .ref cda, .none => decide (x = "__class__") && (PySem.W.codeIn K (.ref cda) "NothingLeft.__init__" && ((match K.lookup cda with
      | some ⟨_, _, .fields vs, _⟩ => (match (vs[2]? : Option Value) with
        | some (.str fl _) => ((PP.main.file : Str) == fl)
        | _ => false)
      | _ => false) && (match K.lookup cc with
      | some ⟨_, _, .cell (some (.ref a)), _⟩ => decide (a = He.ga K "NothingLeft")
      | _ => false)))
    | _, _, _ => false)
  | _ => false
def nlB2 (K : Frag) : List Bool := [
  !(PP.main.scope.names.lookup ("super" : Str)).isSome,
  PySem.W.excInitIn K (He.ga K "NothingLeft") (.type "ValueError" :: [.type "Exception", .type "BaseException", .type "object"]) "ValueError.__new__",
  PySem.W.findIn K (.ref (He.ga K "NothingLeft")) "__init__" == some (some (.ref (He.fAd K nlAt))),
  PySem.W.typeIn K (.ref (He.fAd K nlAt)) == some (.type "function"),
  PySem.W.keepIn K (.ref (He.ga K "NothingLeft")),
  PySem.W.ks_superIn K (He.ga K "NothingLeft") (He.ga K "NothingLeft") "__init__" == some (some (.builtin "ValueError.__init__")),
  PySem.W.nsIn K cStatics "thirdparty.any" == some none,
  PySem.W.subIn K (.ref (He.ga K "NothingLeft")) (.type "ValueError") == some true,
  PySem.W.subIn K (.ref (He.ga K "NothingLeft")) (.type "BaseException") == some true,
  PySem.W.typeIn K (.ref (He.ga K "NothingLeft")) == some (.type "type"),
  PySem.W.mroIn K (He.ga K "NothingLeft") (.ref (He.ga K "NothingLeft")) == some true]
theorem nl_ok {K : Frag} (v : nlV K = nlVal) (h1 : nlB1 K = true) (h2 : (nlB2 K).all id = true) : NlP PP K := by
  have g : ∀ (i : Nat) {b : Bool}, (nlB2 K)[i]? = some b → b = true := fun i b e => List.all_eq_true.mp h2 b (List.mem_of_getElem? e)
  unfold nlV at v
  unfold nlB1 at h1
  cases q : K.lookup (He.fAd K nlAt) with
  | none =>
    rw [q] at h1
    cases h1
  | some o =>
    obtain ⟨oc, od, dt, osl⟩ := o
    rw [q] at h1 v
    cases dt with
    | func fd =>
      obtain ⟨n1, n2, n3, n4, n5, n6, n7, n8, n9, n10, n11, n12, n13, n14, n15⟩ := fd
      have e2 : (some (n1, n2, n3, n4, n5, n6, [], n15) : He.FnW) = nlVal := v
      unfold nlVal at e2
      simp only [Option.some.injEq, Prod.mk.injEq] at e2
      obtain ⟨d1, d2, d3, d4, d5, d6, _, d8⟩ := e2
      subst d1 d2 d3 d4 d5 d6 d8
      dsimp only at h1
      split at h1
      · rename_i x cc cda
        obtain ⟨b1, b2⟩ := He.ba h1
        obtain ⟨b2, b3⟩ := He.ba b2
        obtain ⟨b3, b4⟩ := He.ba b3
        have b1 := of_decide_eq_true b1
        subst b1
        have cl : ∃ cl cld csl, K.lookup cc = some ⟨cl, cld, .cell (some (.ref (He.ga K "NothingLeft"))), csl⟩ := by
          split at b4
          · rename_i a1 a2 a3 a4 ha
            exact ⟨_, _, _, by rw [ha, of_decide_eq_true b4]⟩
          · cases b4
        have fi : ∃ ccl cdd vs ccs fl tf, K.lookup cda = some ⟨ccl, cdd, .fields vs, ccs⟩ ∧ vs[2]? = some (.str fl tf) ∧ ((PP.main.file : Str) == fl) = true := by
          split at b3
          · rename_i a1 a2 vs a4 ha
            split at b3
            · rename_i fl tf hv
              exact ⟨_, _, _, _, fl, tf, ha, hv, b3⟩
            · cases b3
          · cases b3
        refine ⟨He.fAd K nlAt, cc, cda, ⟨⟨oc, od, osl, n9, n10, n11, n12, n14, q⟩, b2, fi, cl, ?_, g 1 rfl, beq_iff_eq.mp (g 2 rfl), beq_iff_eq.mp (g 3 rfl), g 4 rfl, beq_iff_eq.mp (g 5 rfl), beq_iff_eq.mp (g 6 rfl), beq_iff_eq.mp (g 7 rfl), beq_iff_eq.mp (g 8 rfl), beq_iff_eq.mp (g 9 rfl), beq_iff_eq.mp (g 10 rfl)⟩⟩
        have z := g 0 rfl
        simpa using z
      · cases h1
    | _ => cases h1
/-- what the written part says of the classes -/
structure NlS (K : Frag) : Prop where
  ex : ExcC K (He.ga K "NothingLeft")
  no : ∀ x ∈ (["BadText", "BadStrength", "BadPlace", "BadWidth", "BadPaper", "Missing", "TooMany", "OtherSigns"] : List Str), PySem.W.kitOne K (.ref (He.ga K "NothingLeft")) (.ref (He.ga K x)) = some false
  yes : PySem.W.kitOne K (.ref (He.ga K "NothingLeft")) (.ref (He.ga K "NothingLeft")) = some true
  one : PySem.W.exmOne K (.ref (He.ga K "NothingLeft")) (.ref (He.ga K "OrderError")) = some true
  two : PySem.W.exmOne K (.ref (He.ga K "NothingLeft")) (.ref (He.ga K "Missing")) = some false
  three : PySem.W.exmOne K (.ref (He.ga K "NothingLeft")) (.ref (He.ga K "TooMany")) = some false
def nlsB (K : Frag) : List Bool := [
  PySem.W.findIn K (.ref (He.ga K "NothingLeft")) "__getattribute__" == some (some (.builtin "BaseException.__getattribute__")),
  PySem.W.findIn K (.ref (He.ga K "NothingLeft")) "__getattr__" == some none,
  PySem.W.subIn K (.ref (He.ga K "NothingLeft")) (.type "BaseException") == some true,
  PySem.W.hasDictIn K (He.ga K "NothingLeft"),
  PySem.W.findIn K (.ref (He.ga K "NothingLeft")) "__class__" == some (some (.builtin "object.__class__")),
  PySem.W.specialIn K (.builtin "object.__class__") "__get__" == some (some (.builtin "getset_descriptor.__get__")),
  PySem.W.takesIn K (.builtin "object.__class__") == some true,
  PySem.W.mroIn K (He.ga K "NothingLeft") (.type "object") == some true,
  (["BadText", "BadStrength", "BadPlace", "BadWidth", "BadPaper", "Missing", "TooMany", "OtherSigns"] : List Str).all (fun x => PySem.W.kitOne K (.ref (He.ga K "NothingLeft")) (.ref (He.ga K x)) == some false),
  PySem.W.kitOne K (.ref (He.ga K "NothingLeft")) (.ref (He.ga K "NothingLeft")) == some true,
  PySem.W.exmOne K (.ref (He.ga K "NothingLeft")) (.ref (He.ga K "OrderError")) == some true,
  PySem.W.exmOne K (.ref (He.ga K "NothingLeft")) (.ref (He.ga K "Missing")) == some false,
  PySem.W.exmOne K (.ref (He.ga K "NothingLeft")) (.ref (He.ga K "TooMany")) == some false]
theorem nls_ok {K : Frag} (h : (nlsB K).all id = true) : NlS K := by
  have g : ∀ (i : Nat) {b : Bool}, (nlsB K)[i]? = some b → b = true := fun i b e => List.all_eq_true.mp h b (List.mem_of_getElem? e)
  exact ⟨⟨beq_iff_eq.mp (g 0 rfl), beq_iff_eq.mp (g 1 rfl), beq_iff_eq.mp (g 2 rfl), g 3 rfl, beq_iff_eq.mp (g 4 rfl), beq_iff_eq.mp (g 5 rfl), beq_iff_eq.mp (g 6 rfl), beq_iff_eq.mp (g 7 rfl)⟩, fun x hx => beq_iff_eq.mp (List.all_eq_true.mp (g 8 rfl) x hx), beq_iff_eq.mp (g 9 rfl), beq_iff_eq.mp (g 10 rfl), beq_iff_eq.mp (g 11 rfl), beq_iff_eq.mp (g 12 rfl)⟩
/-! ### what is looked at, in parts: a Bool, the defs, the getters -/
abbrev AlL : Type := Bool × List He.FnW
def obs1 (fa : List He.Fa) (g : Addr → Option Obj) : Bool := fa.all fun f => f.ok (frL g)
def obs2 (fn : List He.DefD) (g : Addr → Option Obj) : AlL := (fn.all fun d => d.ok (frL g), fn.map fun d => He.fnW (frL g) d.at_)
def obs3 (g : Addr → Option Obj) : AlL := ((exB (frL g) && tabB g (frL g)) && (nlB1 (frL g) && ((nlB2 (frL g)).all id && (nlsB (frL g)).all id)), nlV (frL g) :: gts.map fun d => fnAt (frL g) (d.ad (frL g)))
def obsL (g : Addr → Option Obj) : Bool × AlL × AlL := (obs1 fas g, obs2 fnl g, obs3 g)
def valL : Bool × AlL × AlL := (true, (true, fnl.map He.DefD.val), (true, nlVal :: gts.map DefA.val))
structure SaysL (h : Heap) (K : Frag) : Prop where
  fa : ∀ f ∈ fas, f.ok K = true
  fn : ∀ d ∈ fnl, ∃ fd, FunD K d.name d.qual d.params d.body d.scope (d.dvs K) (d.kws K) (He.fAd K d.at_) fd
  ex : exB K = true
  gt : ∀ d ∈ gts, ∃ fd, FunD K d.name d.qual d.params d.body d.scope d.dfl [] (d.ad K) fd
  hd : PySem.W.codeHdIn K (He.cT K udn).1 (He.cT K udn).2 = true
  out : K.lookup (He.cT K udn).2 = none
  emp : h.get? (He.cT K udn).2 = some { cls := .none, data := .fields #[] }
  nl : NlP PP K
  ns : NlS K
theorem saysL_of {h : Heap} (e : obsL h.get? = valL) : SaysL h (frL h.get?) := by
  obtain ⟨e1, e23⟩ := Prod.mk.inj (show (obs1 fas h.get?, obs2 fnl h.get?, obs3 h.get?) = (true, (true, fnl.map He.DefD.val), (true, nlVal :: gts.map DefA.val)) from e)
  obtain ⟨e2, e3⟩ := Prod.mk.inj e23
  obtain ⟨a1, a2⟩ := Prod.mk.inj (show ((fnl.all fun d => d.ok (frL h.get?)), fnl.map fun d => He.fnW (frL h.get?) d.at_) = (true, fnl.map He.DefD.val) from e2)
  obtain ⟨b1, b2⟩ := Prod.mk.inj (show (((exB (frL h.get?) && tabB h.get? (frL h.get?)) && (nlB1 (frL h.get?) && ((nlB2 (frL h.get?)).all id && (nlsB (frL h.get?)).all id))), nlV (frL h.get?) :: gts.map fun d => fnAt (frL h.get?) (d.ad (frL h.get?))) = (true, nlVal :: gts.map DefA.val) from e3)
  obtain ⟨v1, b2⟩ := List.cons.inj b2
  obtain ⟨b1, c1⟩ := He.ba b1
  obtain ⟨c1, c2⟩ := He.ba c1
  obtain ⟨c2, c3⟩ := He.ba c2
  obtain ⟨b3, b4⟩ := He.ba b1
  obtain ⟨b5, b6⟩ := He.ba b4
  have tb : ∃ o, h.get? (He.cT (frL h.get?) udn).2 = some o ∧ He.emptyTab o = true := by
    cases q : h.get? (He.cT (frL h.get?) udn).2 with
    | none => simp [q] at b6
    | some o => exact ⟨o, rfl, by simpa [q] using b6⟩
  obtain ⟨o, t1, t2⟩ := tb
  refine ⟨fun f hf => List.all_eq_true.mp e1 f hf, fun d hd => ?_, b3, fun d hd => ?_, b5, He.frT_none t1 t2, by rw [t1, He.emptyTab_eq t2], nl_ok v1 c1 c2, nls_ok c3⟩
  · obtain ⟨i, hi, q⟩ := List.mem_iff_getElem.mp hd
    have e4 : (fnl.map fun d => He.fnW (frL h.get?) d.at_)[i]? = (fnl.map He.DefD.val)[i]? := by rw [a2]
    rw [List.getElem?_map, List.getElem?_map, List.getElem?_eq_getElem hi, q] at e4
    exact He.DefD.funD (Option.some.inj e4) (List.all_eq_true.mp a1 d hd)
  · obtain ⟨i, hi, q⟩ := List.mem_iff_getElem.mp hd
    have e4 : (gts.map fun d => fnAt (frL h.get?) (d.ad (frL h.get?)))[i]? = (gts.map DefA.val)[i]? := by rw [b2]
    rw [List.getElem?_map, List.getElem?_map, List.getElem?_eq_getElem hi, q] at e4
    exact DefA.funD (Option.some.inj e4) (List.all_eq_true.mp (He.ba b3).2 d hd)
def hookL : PySem.W.Hook where
  α := Bool × AlL × AlL
  obs := fun s => obsL s.heap.get?
  val := fun _ => valL
  says := fun _ h => ∃ K : Frag, K.In h ∧ SaysL h K
  of := fun _ _ e => ⟨_, He.frT_in, saysL_of e⟩
  keeps := fun _ _ _ ⟨K, hK, c⟩ k => ⟨K, PySem.W.Frag.In.keeps hK k, ⟨c.fa, c.fn, c.ex, c.gt, c.hd, c.out, k _ _ c.emp, c.nl, c.ns⟩⟩
def loose0 : List Str := ["_wall", "OrderError", "BadSigns", "BadEntries", "BadText", "BadStrength", "BadPaper", "OtherSigns", "BadPlace", "BadWidth", "NothingLeft", "Missing", "TooMany", "MOST_SIGNS", "MOST_ENTRIES", "MOST_LONG"]
def loose1 : List Str := ["MOST_UNITS", "MOST_LETTER", "MOST_WEIGHT", "PERCENT", "is_whole", "is_among", "is_list", "is_sign", "need_signs", "is_unit", "is_sequence", "are_units", "is_entry", "need_entries", "Table", "MOST_TEXT"]
def loose2 : List Str := ["need_text", "first_piece", "cut_all", "units_of", "need_strength", "key_of", "MOST_SHELF", "key_by", "order_by", "turns_of", "Shelf", "_law_mixed", "_law_folded", "_law_draw", "_law_begun", "_law_like"]
def loose3 : List Str := ["_law_order", "_law_signs", "_law_unit", "_law_units", "_law_known", "_law_table", "_law_text", "_law_pieces", "_law_row", "_law_key", "_law_near", "_law_said", "_law_line", "_law_places", "_law_turns", "_law_own"]
def loose4 : List Str := ["_law_stands", "_law_kept", "_law_put", "_law_taken", "_law_changed", "_law_undone", "_law_other", "_law_filled", "_law_begin_shelf", "_law_joined", "_law_deed"]
abbrev looseL : List Str := loose0 ++ loose1 ++ loose2 ++ loose3 ++ loose4
end Lk

set_option maxHeartbeats 0
/-! The run of the top, by the kernel. -/
namespace Lk
open PySem PySem.Spec PyProof.Rows L2
abbrev RR : PySem.W.OpenRow := PySem.W.OpenLaw.row PySem.Challenge.rw_likeorders_k82_whole_deeds_on_shelves
def obT (s : PySem.W.SharedT) : Bool × AlL × AlL := obsL (HandSHeadRun.getT s)
theorem obT_eq (s : PySem.W.SharedT) : obT s = hookL.obs s.abs := by
  have e : HandSHeadRun.getT s = s.abs.heap.get? := funext (HandSHeadRun.getT_eq s)
  unfold obT
  rw [e] <;> rfl
theorem run (w : World) : HandSHeadRun.RunEq RR (PySem.W.view RR.prog [81]) hookL obT 40000 looseL w := by
  intro os
  kernel_rfl
end Lk

set_option maxHeartbeats 1000000
/-! The weakest reading of an expression, a test, a block; data of tuples, ints, texts; rules that tell data. -/
namespace Lk
open PySem PySem.Spec PyProof.Rows L2
open Evl (Ex)
/-! ### the union of all readings -/
def We (X : Cx) (e : Expr) : TE := fun σ H Q => ∃ t : TE, PE X e t ∧ t σ H Q
def Wt (X : Cx) (e : Expr) : TT := fun σ H Q => ∃ t : TT, PT X e t ∧ t σ H Q
def Ww (X : Cx) (e : Expr) : TT := fun σ H Q => ∃ t : TT, PW X e t ∧ t σ H Q
def Wa (X : Cx) (es : List Expr) : TA := fun σ H Q => ∃ t : TA, PA X es t ∧ t σ H Q
def Wp (X : Cx) (e : Option Expr) : TO := fun σ H Q => ∃ t : TO, PO X e t ∧ t σ H Q
def Wm (X : Cx) (ss : List Stmt) : TS := fun D σ H => ∃ t : TS, PSs X ss t ∧ t D σ H
def Wo (X : Cx) (s : Stmt) : TS := fun D σ H => ∃ t : TS, PS X s t ∧ t D σ H
def Wg (X : Cx) (tg : Expr) : TG := fun v σ H Q => ∃ t : TG, PG X tg t ∧ t v σ H Q
def Wi (X : Cx) (tg it : Expr) : TI := fun σ H R => ∃ t : TI, PI X tg it t ∧ t σ H R
theorem we_ok {X : Cx} {e : Expr} : PE X e (We X e) := ⟨fun pins s σ H Q I ⟨t, h, q⟩ => h.run pins s σ H Q I q⟩
theorem wt_ok {X : Cx} {e : Expr} : PT X e (Wt X e) := ⟨fun pins s σ H Q I ⟨t, h, q⟩ => h.run pins s σ H Q I q⟩
theorem ww_ok {X : Cx} {e : Expr} : PW X e (Ww X e) := ⟨fun w pins s σ H Q I ⟨t, h, q⟩ => h.run w pins s σ H Q I q⟩
theorem wa_ok {X : Cx} {es : List Expr} : PA X es (Wa X es) := ⟨fun p pins s σ H Q I ⟨t, h, q⟩ => h.run p pins s σ H Q I q⟩
theorem wp_ok {X : Cx} {e : Option Expr} : PO X e (Wp X e) := ⟨fun pins s σ H Q I ⟨t, h, q⟩ => h.run pins s σ H Q I q⟩
theorem wm_ok {X : Cx} {ss : List Stmt} : PSs X ss (Wm X ss) := ⟨fun pins s σ H D I ⟨t, h, q⟩ => h.run pins s σ H D I q⟩
theorem wo_ok {X : Cx} {s : Stmt} : PS X s (Wo X s) := ⟨fun pins s σ H D I ⟨t, h, q⟩ => h.run pins s σ H D I q⟩
theorem wg_ok {X : Cx} {e : Expr} : PG X e (Wg X e) := ⟨fun pins s σ H v u Q I r ⟨t, h, q⟩ => h.run pins s σ H v u Q I r q⟩
theorem wi_ok {X : Cx} {tg e : Expr} : PI X tg e (Wi X tg e) := ⟨fun pins s σ H R I ⟨t, h, q⟩ => h.run pins s σ H R I q⟩
/-! ### data that never changes -/
mutual
inductive Im (H : Hp) : V → PyData → Prop
  | non : Im H .non .none
  | bl (b : Bool) : Im H (.bl b) (.bool b)
  | int (i : Int) : Im H (.int i) (.int i)
  | str (x : Str) : Im H (.str x) (.str x)
  | tup {a : Addr} {xs : List V} {ds : List PyData} : H a = some (.tup xs) → Ims H xs ds → Im H (.ref a) (.tuple ds)
inductive Ims (H : Hp) : List V → List PyData → Prop
  | nil : Ims H [] []
  | cons {v : V} {vs : List V} {d : PyData} {ds : List PyData} : Im H v d → Ims H vs ds → Ims H (v :: vs) (d :: ds)
end
/-- the tuples stay -/
def Tu (H H' : Hp) : Prop := ∀ a xs, H a = some (.tup xs) → H' a = some (.tup xs)
theorem tu_ex {H H' : Hp} (e : Ex H H') : Tu H H' := fun a xs h => e a _ h
mutual
theorem Im.tu {H H' : Hp} (e : Tu H H') : ∀ (d : PyData) {v : V}, Im H v d → Im H' v d
  | .none, _, h => by cases h; exact .non
  | .bool b, _, h => by cases h; exact .bl b
  | .int i, _, h => by cases h; exact .int i
  | .str x, _, h => by cases h; exact .str x
  | .list _, _, h => by cases h
  | .dict _, _, h => by cases h
  | .tuple ds, _, h => by
    cases h with
    | tup h1 h2 => exact .tup (e _ _ h1) (Ims.tu e ds h2)
theorem Ims.tu {H H' : Hp} (e : Tu H H') : ∀ (ds : List PyData) {vs : List V}, Ims H vs ds → Ims H' vs ds
  | [], _, h => by cases h; exact .nil
  | d :: ds, _, h => by
    cases h with
    | cons h1 h2 => exact .cons (Im.tu e d h1) (Ims.tu e ds h2)
end
theorem Im.ex {H H' : Hp} {v : V} {d : PyData} (h : Im H v d) (e : Ex H H') : Im H' v d := h.tu (tu_ex e) d
theorem Ims.ex {H H' : Hp} {v : List V} {d : List PyData} (h : Ims H v d) (e : Ex H H') : Ims H' v d := h.tu (tu_ex e) d
theorem Im.eint {H : Hp} {v : V} {i : Int} (h : Im H v (.int i)) : v = .int i := by cases h; rfl
theorem Im.ebl {H : Hp} {v : V} {i : Bool} (h : Im H v (.bool i)) : v = .bl i := by cases h; rfl
theorem Im.estr {H : Hp} {v : V} {i : Str} (h : Im H v (.str i)) : v = .str i := by cases h; rfl
theorem Im.enon {H : Hp} {v : V} (h : Im H v .none) : v = .non := by cases h; rfl
theorem Im.etup {H : Hp} {v : V} {ds : List PyData} (h : Im H v (.tuple ds)) : ∃ a xs, v = .ref a ∧ H a = some (.tup xs) ∧ Ims H xs ds := by
  cases h with
  | tup h1 h2 => exact ⟨_, _, rfl, h1, h2⟩
theorem Ims.len {H : Hp} : ∀ {ds : List PyData} {xs : List V}, Ims H xs ds → xs.length = ds.length
  | [], _, h => by cases h; rfl
  | d :: ds, _, h => by
    cases h with
    | cons h1 h2 => simp only [List.length_cons, h2.len]
theorem Ims.get {H : Hp} : ∀ {ds : List PyData} {xs : List V} {i : Nat} {d : PyData}, Ims H xs ds → ds[i]? = some d → ∃ x, xs[i]? = some x ∧ Im H x d
  | [], _, _, _, _, e => by simp at e
  | d :: ds, _, 0, _, h, e => by
    cases h with
    | cons h1 h2 => simp at e; subst e; exact ⟨_, rfl, h1⟩
  | d :: ds, _, i + 1, _, h, e => by
    cases h with
    | cons h1 h2 =>
      obtain ⟨x, q1, q2⟩ := Ims.get (i := i) h2 (by simpa using e)
      exact ⟨x, by simpa using q1, q2⟩
theorem Ims.getv {H : Hp} {ds : List PyData} {xs : List V} {i : Nat} {x : V} (h : Ims H xs ds) (e : xs[i]? = some x) : ∃ d, ds[i]? = some d ∧ Im H x d := by
  have hi : i < ds.length := by
    rw [← h.len]
    exact (List.getElem?_eq_some_iff.mp e).1
  obtain ⟨x', q1, q2⟩ := h.get (List.getElem?_eq_getElem hi)
  rw [e] at q1
  cases q1
  exact ⟨_, List.getElem?_eq_getElem hi, q2⟩
theorem Ims.app {H : Hp} : ∀ {ds es : List PyData} {xs ys : List V}, Ims H xs ds → Ims H ys es → Ims H (xs ++ ys) (ds ++ es)
  | [], _, _, _, h, h' => by cases h; exact h'
  | d :: ds, _, _, _, h, h' => by
    cases h with
    | cons h1 h2 => exact .cons h1 (Ims.app h2 h')
theorem Ims.take {H : Hp} : ∀ {ds : List PyData} {xs : List V} (n : Nat), Ims H xs ds → Ims H (xs.take n) (ds.take n)
  | _, _, 0, _ => by simp only [List.take_zero]; exact .nil
  | [], _, n + 1, h => by cases h; exact .nil
  | d :: ds, _, n + 1, h => by
    cases h with
    | cons h1 h2 => exact .cons h1 (Ims.take n h2)
theorem Ims.drop {H : Hp} : ∀ {ds : List PyData} {xs : List V} (n : Nat), Ims H xs ds → Ims H (xs.drop n) (ds.drop n)
  | _, _, 0, h => h
  | [], _, n + 1, h => by cases h; exact .nil
  | d :: ds, _, n + 1, h => by
    cases h with
    | cons h1 h2 => exact Ims.drop n h2
theorem Ims.one {H : Hp} {v : V} {d : PyData} (h : Im H v d) : Ims H [v] [d] := .cons h .nil
theorem Ims.snoc {H : Hp} {ds : List PyData} {xs : List V} {v : V} {d : PyData} (h : Ims H xs ds) (h' : Im H v d) : Ims H (xs ++ [v]) (ds ++ [d]) := h.app (.one h')
theorem Ims.ints {H : Hp} : ∀ {ns : List Int} {xs : List V}, Ims H xs (ns.map .int) → xs = ns.map V.int
  | [], _, h => by
    cases h
    rfl
  | n :: ns, _, h => by
    cases h with
    | cons h1 h2 => rw [h1.eint, Ims.ints h2, List.map_cons]
theorem Ims.strs {H : Hp} : ∀ {ns : List Str} {xs : List V}, Ims H xs (ns.map .str) → xs = ns.map V.str
  | [], _, h => by
    cases h
    rfl
  | n :: ns, _, h => by
    cases h with
    | cons h1 h2 => rw [h1.estr, Ims.strs h2, List.map_cons]
theorem Ims.bls {H : Hp} : ∀ {ns : List Bool} {xs : List V}, Ims H xs (ns.map .bool) → xs = ns.map V.bl
  | [], _, h => by
    cases h
    rfl
  | n :: ns, _, h => by
    cases h with
    | cons h1 h2 => rw [h1.ebl, Ims.bls h2, List.map_cons]
theorem Ims.ofInts {H : Hp} : ∀ (ns : List Int), Ims H (ns.map V.int) (ns.map .int)
  | [] => .nil
  | n :: ns => .cons (.int n) (Ims.ofInts ns)
theorem Ims.ofStrs {H : Hp} : ∀ (ns : List Str), Ims H (ns.map V.str) (ns.map .str)
  | [] => .nil
  | n :: ns => .cons (.str n) (Ims.ofStrs ns)
mutual
theorem Im.dp {K : Frag} {H : Hp} : ∀ (d : PyData) {v : V}, Im H v d → Dp K H v d
  | .none, _, h => by cases h; exact .non
  | .bool b, _, h => by cases h; exact .bl b
  | .int i, _, h => by cases h; exact .int i
  | .str x, _, h => by cases h; exact .str x
  | .list _, _, h => by cases h
  | .dict _, _, h => by cases h
  | .tuple ds, _, h => by
    cases h with
    | tup h1 h2 => exact .tup (SqT.of h1) (Ims.dp ds h2)
theorem Ims.dp {K : Frag} {H : Hp} : ∀ (ds : List PyData) {vs : List V}, Ims H vs ds → DpAll K H vs ds
  | [], _, h => by cases h; exact .nil
  | d :: ds, _, h => by
    cases h with
    | cons h1 h2 => exact .cons (Im.dp d h1) (Ims.dp ds h2)
end
/-- texts by their signs -/
abbrev T (l : List Nat) : Str := ⟨l.toArray⟩
theorem T_len (l : List Nat) : (T l).length = l.length := by simp [T, Str.length]
theorem T_list (l : List Nat) : (T l).cps.toList = l := by simp [T]
theorem T_inj {l m : List Nat} : T l = T m ↔ l = m := by
  constructor
  · intro h
    have q := congrArg (fun s : Str => s.cps.toList) h
    simpa [T] using q
  · intro h
    rw [h]
theorem T_app (l m : List Nat) : T l ++ T m = T (l ++ m) := by
  show Str.append (T l) (T m) = _
  simp [T, Str.append]
/-! ### what a value may stand for: of the heap at the start, the value, the heap at the end -/
structure Rp where
  r : Hp → V → Hp → Prop
  m : ∀ {v : V} {S H H' : Hp}, Ex H H' → r S v H → r S v H'
  n : ∀ {v : V} {S S' H : Hp}, Ex S S' → r S' v H → r S v H
def rD (d : PyData) : Rp := ⟨fun _ v H => Im H v d, fun e h => h.ex e, fun _ h => h⟩
abbrev rI (i : Int) : Rp := rD (.int i)
abbrev rS (l : List Nat) : Rp := rD (.str (T l))
abbrev rB (b : Bool) : Rp := rD (.bool b)
abbrev rN : Rp := rD .none
abbrev rT (ds : List PyData) : Rp := rD (.tuple ds)
/-- the very value -/
def rV (w : V) : Rp := ⟨fun _ v _ => v = w, fun _ h => h, fun _ h => h⟩
/-- a list of such data -/
def rL (ds : List PyData) : Rp := ⟨fun _ v H => ∃ p xs, v = .ref p ∧ H p = some (.lst xs) ∧ Ims H xs ds, fun e ⟨p, xs, h1, h2, h3⟩ => ⟨p, xs, h1, e _ _ h2, h3.ex e⟩, fun _ h => h⟩
/-- a new one -/
def rF (ds : List PyData) : Rp := ⟨fun S v H => ∃ p xs, v = .ref p ∧ S p = none ∧ H p = some (.lst xs) ∧ Ims H xs ds, fun e ⟨p, xs, h1, h0, h2, h3⟩ => ⟨p, xs, h1, h0, e _ _ h2, h3.ex e⟩, fun e ⟨p, xs, h1, h0, h2, h3⟩ => ⟨p, xs, h1, Evl.fresh_back e h0, h2, h3⟩⟩
/-- a list or a tuple -/
def rQ (ds : List PyData) : Rp := ⟨fun _ v H => ∃ p xs, v = .ref p ∧ (H p = some (.lst xs) ∨ H p = some (.tup xs)) ∧ Ims H xs ds, fun e ⟨p, xs, h1, h2, h3⟩ => ⟨p, xs, h1, h2.imp (e _ _) (e _ _), h3.ex e⟩, fun _ h => h⟩
/-- Q takes what ρ tells, of H and on -/
def Go (ρ : Rp) (H : Hp) (Q : VK) : Prop := ∀ v H', Ex H H' → ρ.r H v H' → Q v H'
theorem Go.at {ρ : Rp} {H : Hp} {Q : VK} (g : Go ρ H Q) {v : V} (h : ρ.r H v H) : Q v H := g v H (Ex.refl H) h
theorem Go.mono {ρ : Rp} {H H' : Hp} {Q : VK} (g : Go ρ H Q) (e : Ex H H') : Go ρ H' Q := fun v H2 e2 h => g v H2 (e.trans e2) (ρ.n e h)
def Ev (X : Cx) (e : Expr) (σ : L2.St) (H : Hp) (ρ : Rp) : Prop := ∀ H1, Ex H H1 → ∀ Q : VK, Go ρ H1 Q → We X e σ H1 Q
def Et (X : Cx) (e : Expr) (σ : L2.St) (H : Hp) (b : Bool) : Prop := ∀ H1, Ex H H1 → ∀ Q : Bool → Hp → Prop, (∀ H2, Ex H1 H2 → Q b H2) → Wt X e σ H1 Q
def Ew (X : Cx) (e : Expr) (σ : L2.St) (H : Hp) (b : Bool) : Prop := ∀ H1, Ex H H1 → ∀ Q : Bool → Hp → Prop, (∀ H2, Ex H1 H2 → Q b H2) → Ww X e σ H1 Q
/-- arguments -/
structure Rps where
  r : Hp → List V → Hp → Prop
  m : ∀ {v : List V} {S H H' : Hp}, Ex H H' → r S v H → r S v H'
  n : ∀ {v : List V} {S S' H : Hp}, Ex S S' → r S' v H → r S v H
def r0 : Rps := ⟨fun _ vs _ => vs = [], fun _ h => h, fun _ h => h⟩
def rC (ρ : Rp) (ρs : Rps) : Rps := ⟨fun S vs H => ∃ v r, vs = v :: r ∧ ρ.r S v H ∧ ρs.r S r H, fun e ⟨v, r, h1, h2, h3⟩ => ⟨v, r, h1, ρ.m e h2, ρs.m e h3⟩, fun e ⟨v, r, h1, h2, h3⟩ => ⟨v, r, h1, ρ.n e h2, ρs.n e h3⟩⟩
def Ea (X : Cx) (es : List Expr) (σ : L2.St) (H : Hp) (ρ : Rps) : Prop := ∀ H1, Ex H H1 → ∀ Q : List V → Hp → Prop, (∀ vs H2, Ex H1 H2 → ρ.r H1 vs H2 → Q vs H2) → Wa X es σ H1 Q
section
variable {X : Cx} {σ : L2.St} {H H' : Hp} {e a b c : Expr} {es : List Expr} {pos : Pos} {ρ ρ1 ρ2 ρ3 : Rp} {ρs : Rps}
theorem Ev.mono (h : Ev X e σ H ρ) (x : Ex H H') : Ev X e σ H' ρ := fun H1 e1 Q g => h H1 (x.trans e1) Q g
theorem Et.mono {t : Bool} (h : Et X e σ H t) (x : Ex H H') : Et X e σ H' t := fun H1 e1 Q g => h H1 (x.trans e1) Q g
theorem Ev.imp (h : Ev X e σ H ρ1) (x : ∀ S v H1, Ex H S → Ex S H1 → ρ1.r S v H1 → ρ.r S v H1) : Ev X e σ H ρ := fun H1 e1 Q g => h H1 e1 Q fun v H2 e2 q => g v H2 e2 (x H1 v H2 e1 e2 q)
theorem Ev.is (h : Ev X e σ H ρ1) (x : ρ1 = ρ) : Ev X e σ H ρ := x ▸ h
theorem ev_d {d d' : PyData} (h : Ev X e σ H (rD d)) (x : d = d') : Ev X e σ H (rD d') := x ▸ h
theorem et_b {t u : Bool} (h : Et X e σ H t) (x : t = u) : Et X e σ H u := x ▸ h
theorem ev_l {ds : List PyData} (h : Ev X e σ H (rF ds)) : Ev X e σ H (rL ds) := h.imp fun S v H1 _ _ ⟨p, xs, h1, _, h2, h3⟩ => ⟨p, xs, h1, h2, h3⟩
theorem ev_f {ds ds' : List PyData} (h : Ev X e σ H (rF ds)) (x : ds = ds') : Ev X e σ H (rF ds') := x ▸ h
theorem ev_ll {ds ds' : List PyData} (h : Ev X e σ H (rL ds)) (x : ds = ds') : Ev X e σ H (rL ds') := x ▸ h
theorem ev_ql {ds : List PyData} (h : Ev X e σ H (rL ds)) : Ev X e σ H (rQ ds) := h.imp fun S v H1 _ _ ⟨p, xs, h1, h2, h3⟩ => ⟨p, xs, h1, .inl h2, h3⟩
theorem ev_qf {ds : List PyData} (h : Ev X e σ H (rF ds)) : Ev X e σ H (rQ ds) := ev_ql (ev_l h)
theorem ev_qt {ds : List PyData} (h : Ev X e σ H (rT ds)) : Ev X e σ H (rQ ds) := h.imp fun S v H1 _ _ q => by
  obtain ⟨p, xs, h1, h2, h3⟩ := Im.etup q
  exact ⟨p, xs, h1, .inr h2, h3⟩
/-! arguments -/
theorem ea0 : Ea X [] σ H r0 := fun H1 _ Q q => ⟨_, pa_nil, q [] H1 (Ex.refl H1) rfl⟩
theorem eac (h : Ev X e σ H ρ) (hr : Ea X es σ H ρs) (hs : starEach (e :: es) X.env = (false, eval e X.env) :: starEach es X.env := by rfl) : Ea X (e :: es) σ H (rC ρ ρs) := fun H1 e1 Q q =>
  ⟨_, pa_cons we_ok wa_ok hs, h H1 e1 _ fun v H2 e2 h2 => hr H2 (e1.trans e2) _ fun r H3 e3 h3 => q _ _ (e2.trans e3) ⟨v, r, rfl, ρ.m e3 h2, ρs.n e2 h3⟩⟩
/-! names, constants -/
theorem ev_v {i : Nat} {x : Str} {v : V} (h : σ[i]? = some (some v)) (r : ∀ S, ρ.r S v H) (hN : X.N[i]? = some x := by rfl) (hv : Vis X.env.scope x := by first | exact Or.inl rfl | exact Or.inr (Or.inl rfl) | exact Or.inr (Or.inr rfl)) (hd : (x == ("__debug__" : Str)) = false := by decide)
    (hcd : (x == ("__classdict__" : Str)) = false := by decide) : Ev X (.Name x pos) σ H ρ := fun H1 e1 Q q => ⟨_, pe_var hN hv hd hcd, v, h, q v H1 (Ex.refl H1) (ρ.m e1 (r H1))⟩
theorem ev_int {i : Int} {j} : Ev X (.Constant (.int i) j pos) σ H (rI i) := fun H1 _ Q q => ⟨_, pe_int, q _ H1 (Ex.refl H1) (.int i)⟩
theorem ev_str {x : Str} {j} : Ev X (.Constant (.str x) j pos) σ H (rD (.str x)) := fun H1 _ Q q => ⟨_, pe_str, q _ H1 (Ex.refl H1) (.str x)⟩
theorem ev_bl {x : Bool} {j} : Ev X (.Constant (.bool x) j pos) σ H (rB x) := fun H1 _ Q q => ⟨_, pe_bl, q _ H1 (Ex.refl H1) (.bl x)⟩
theorem ev_non {j} : Ev X (.Constant .none j pos) σ H rN := fun H1 _ Q q => ⟨_, pe_non, q _ H1 (Ex.refl H1) .non⟩
/-- a name of the module that holds an int -/
theorem ev_gi {i : Int} {x : Str} (hm : ∃ t, X.mg x = some (.int i t)) (hg : Gl X x := by rfl) (hd : (x == ("__debug__" : Str)) = false := by decide) : Ev X (.Name x pos) σ H (rI i) := fun H1 _ Q q => by
  obtain ⟨t, hm⟩ := hm
  exact ⟨_, pe_glob hg hm (v := .int i) ⟨t, rfl⟩ hd, q _ H1 (Ex.refl H1) (.int i)⟩
/-! operators by values -/
theorem ev_op {op : Operator} {r : R2} (ho : OpR X (binaryOp op) r) (ha : Ev X a σ H ρ1) (hb : Ev X b σ H ρ2) (h : ∀ S x y H2 Q, Ex H S → Ex S H2 → ρ1.r S x H2 → ρ2.r S y H2 → Go ρ H2 Q → r x y H2 Q) : Ev X (.BinOp a op b pos) σ H ρ := fun H1 e1 Q q =>
  ⟨_, pe_op ho we_ok we_ok, ha H1 e1 _ fun x H2 e2 h2 => hb H2 (e1.trans e2) _ fun y H3 e3 h3 => h H1 x y H3 Q e1 (e2.trans e3) (ρ1.m e3 h2) (ρ2.n e2 h3) (Go.mono q (e2.trans e3))⟩
theorem ev_add {i j : Int} (ha : Ev X a σ H (rI i)) (hb : Ev X b σ H (rI j)) : Ev X (.BinOp a .Add b pos) σ H (rI (i + j)) := ev_op op_add ha hb fun _ x y H2 Q _ _ hx hy q => ⟨i, j, hx.eint, hy.eint, q.at (.int _)⟩
theorem ev_sub {i j : Int} (ha : Ev X a σ H (rI i)) (hb : Ev X b σ H (rI j)) : Ev X (.BinOp a .Sub b pos) σ H (rI (i - j)) := ev_op op_sub ha hb fun _ x y H2 Q _ _ hx hy q => ⟨i, j, hx.eint, hy.eint, q.at (.int _)⟩
theorem ev_mul {i j : Int} (ha : Ev X a σ H (rI i)) (hb : Ev X b σ H (rI j)) (hc : CMul i j) : Ev X (.BinOp a .Mult b pos) σ H (rI (i * j)) := ev_op op_mul ha hb fun _ x y H2 Q _ _ hx hy q => ⟨i, j, hx.eint, hy.eint, hc, q.at (.int _)⟩
theorem ev_fdiv {i j : Int} (ha : Ev X a σ H (rI i)) (hb : Ev X b σ H (rI j)) (hc : CDiv i j) : Ev X (.BinOp a .FloorDiv b pos) σ H (rI (i / j)) := ev_op op_fdiv ha hb fun _ x y H2 Q _ _ hx hy q => ⟨i, j, hx.eint, hy.eint, hc, q.at (.int _)⟩
theorem ev_mod {i j : Int} (ha : Ev X a σ H (rI i)) (hb : Ev X b σ H (rI j)) (hc : 0 < j) : Ev X (.BinOp a .Mod b pos) σ H (rI (i % j)) := ev_op op_mod ha hb fun _ x y H2 Q _ _ hx hy q => ⟨i, j, hx.eint, hy.eint, hc, q.at (.int _)⟩
theorem ev_pow {i j : Int} (ha : Ev X a σ H (rI i)) (hb : Ev X b σ H (rI j)) (hc : CPow i j) : Ev X (.BinOp a .Pow b pos) σ H (rI (i ^ j.toNat)) := ev_op op_pow ha hb fun _ x y H2 Q _ _ hx hy q => ⟨i, j, hx.eint, hy.eint, hc, q.at (.int _)⟩
theorem ev_neg {i : Int} (ha : Ev X a σ H (rI i)) : Ev X (.UnaryOp .USub a pos) σ H (rI (-i)) := fun H1 e1 Q q =>
  ⟨_, pe_un un_neg we_ok, ha H1 e1 _ fun x H2 e2 h2 => ⟨i, h2.eint, q _ H2 e2 (.int _)⟩⟩
theorem ev_adds {l m : List Nat} (ha : Ev X a σ H (rS l)) (hb : Ev X b σ H (rS m)) (hz : l.length + m.length ≤ 1000000) : Ev X (.BinOp a .Add b pos) σ H (rS (l ++ m)) := ev_op op_add_str ha hb fun _ x y H2 Q _ _ hx hy q =>
  ⟨T l, T m, hx.estr, hy.estr, by rw [T_len, T_len, sizeLine_eq]; omega, q.at (by rw [T_app]; exact .str _)⟩
/-- two lists, a new one -/
theorem ev_addl {ds es : List PyData} (ha : Ev X a σ H (rL ds)) (hb : Ev X b σ H (rL es)) (hz : ds.length + es.length ≤ 1000000) : Ev X (.BinOp a .Add b pos) σ H (rF (ds ++ es)) := ev_op op_cat ha hb fun _ x y H2 Q _ e2 hx hy q => by
  obtain ⟨p, xs, rfl, hp, ix⟩ := hx
  obtain ⟨p', ys, rfl, hp', iy⟩ := hy
  refine ⟨p, p', xs, ys, rfl, rfl, hp, hp', by rw [ix.len, iy.len, sizeLine_eq]; omega, fun r hr => q _ _ (Ex.new hr) ⟨r, xs ++ ys, rfl, hr, upd_same, (ix.app iy).ex (Ex.new hr)⟩⟩
/-! displays -/
/-- the items' data -/
inductive Its : Rps → List PyData → Prop
  | nil : Its r0 []
  | cons {d : PyData} {ds : List PyData} {ρs : Rps} : Its ρs ds → Its (rC (rD d) ρs) (d :: ds)
theorem Its.ims {ρs : Rps} {ds : List PyData} (h : Its ρs ds) : ∀ {S : Hp} {vs : List V} {H : Hp}, ρs.r S vs H → Ims H vs ds := by
  induction h with
  | nil =>
    intro S vs H q
    cases q
    exact .nil
  | cons _ ih =>
    intro S vs H q
    obtain ⟨v, r, rfl, q1, q2⟩ := q
    exact .cons q1 (ih q2)
theorem ev_tup {ds : List PyData} {x1} (ha : Ea X es σ H ρs) (i : Its ρs ds) (hz : ds.length ≤ 1000000) : Ev X (.Tuple es x1 pos) σ H (rT ds) := fun H1 e1 Q q =>
  ⟨_, pe_tup wa_ok, ha H1 e1 _ fun vs H2 e2 h2 => ⟨by rw [(i.ims h2).len, sizeLine_eq]; omega, fun p hp => q _ _ (e2.trans (Ex.new hp)) (.tup upd_same ((i.ims h2).ex (Ex.new hp)))⟩⟩
theorem ev_lst {ds : List PyData} (ha : Ea X es σ H ρs) (i : Its ρs ds) (hz : ds.length ≤ 1000000) : Ev X (.List es pos) σ H (rF ds) := fun H1 e1 Q q =>
  ⟨_, pe_lst wa_ok, ha H1 e1 _ fun vs H2 e2 h2 => ⟨by rw [(i.ims h2).len, sizeLine_eq]; omega, fun p hp => q _ _ (e2.trans (Ex.new hp)) ⟨p, vs, rfl, Evl.fresh_back e2 hp, upd_same, (i.ims h2).ex (Ex.new hp)⟩⟩⟩
theorem ev_nil : Ev X (.List [] pos) σ H (rF []) := ev_lst ea0 .nil (by simp)
theorem ev_unit {x1} : Ev X (.Tuple [] x1 pos) σ H (rT []) := ev_tup ea0 .nil (by simp)
theorem ev_t1 {d : PyData} {x1} (ha : Ev X a σ H (rD d)) (hs : starEach [a] X.env = (false, eval a X.env) :: starEach [] X.env := by rfl) : Ev X (.Tuple [a] x1 pos) σ H (rT [d]) := ev_tup (eac ha ea0 hs) (.cons .nil) (by simp)
theorem ev_t2 {d d2 : PyData} {x1} (ha : Ev X a σ H (rD d)) (hb : Ev X b σ H (rD d2)) (hs : starEach [a, b] X.env = (false, eval a X.env) :: starEach [b] X.env := by rfl) (hs2 : starEach [b] X.env = (false, eval b X.env) :: starEach [] X.env := by rfl) :
    Ev X (.Tuple [a, b] x1 pos) σ H (rT [d, d2]) := ev_tup (eac ha (eac hb ea0 hs2) hs) (.cons (.cons .nil)) (by simp)
theorem ev_t3 {d d2 d3 : PyData} {x1} (ha : Ev X a σ H (rD d)) (hb : Ev X b σ H (rD d2)) (hc : Ev X c σ H (rD d3)) (hs : starEach [a, b, c] X.env = (false, eval a X.env) :: starEach [b, c] X.env := by rfl)
    (hs2 : starEach [b, c] X.env = (false, eval b X.env) :: starEach [c] X.env := by rfl) (hs3 : starEach [c] X.env = (false, eval c X.env) :: starEach [] X.env := by rfl) :
    Ev X (.Tuple [a, b, c] x1 pos) σ H (rT [d, d2, d3]) := ev_tup (eac ha (eac hb (eac hc ea0 hs3) hs2) hs) (.cons (.cons (.cons .nil))) (by simp)
theorem ev_l1 {d : PyData} (ha : Ev X a σ H (rD d)) (hs : starEach [a] X.env = (false, eval a X.env) :: starEach [] X.env := by rfl) : Ev X (.List [a] pos) σ H (rF [d]) := ev_lst (eac ha ea0 hs) (.cons .nil) (by simp)
/-! calls of built-ins -/
theorem ev_cb {x : Str} {p : Pos} {id : String} {r : List V → Hp → VK → Prop} (hc : CallR X (.builtin id) r) (hm : X.mg x = none) (hv : bootBuiltins x = some (.builtin id)) (ha : Ea X (e :: es) σ H ρs) (h : ∀ S vs H2 Q, Ex H S → Ex S H2 → ρs.r S vs H2 → Go ρ H2 Q → r vs H2 Q)
    (hg : Gl X x := by rfl) (hn : x ≠ "__name__" := by decide) (hdb : (x == ("__debug__" : Str)) = false := by decide)
    (he : starEach (e :: es) X.env = (false, eval e X.env) :: starEach es X.env := by rfl) (hpl : (backTo pos (starEach es X.env)).any (·.1) = false := by rfl) : Ev X (.Call (.Name x p) (e :: es) [] pos) σ H ρ := fun H1 e1 Q q =>
  ⟨_, pe_callB hc hg hm hv wa_ok hn hdb he hpl, ha H1 e1 _ fun vs H2 e2 h2 => h H1 vs H2 Q e1 e2 h2 (q.mono e2)⟩
theorem ev_ct {x : Str} {p : Pos} {T : String} {r : List V → Hp → VK → Prop} (hc : CallR X (.type T) r) (hm : X.mg x = none) (hv : bootBuiltins x = some (.type T)) (ha : Ea X (e :: es) σ H ρs) (h : ∀ S vs H2 Q, Ex H S → Ex S H2 → ρs.r S vs H2 → Go ρ H2 Q → r vs H2 Q)
    (hg : Gl X x := by rfl) (hn : x ≠ "__name__" := by decide) (hdb : (x == ("__debug__" : Str)) = false := by decide)
    (he : starEach (e :: es) X.env = (false, eval e X.env) :: starEach es X.env := by rfl) (hpl : (backTo pos (starEach es X.env)).any (·.1) = false := by rfl) : Ev X (.Call (.Name x p) (e :: es) [] pos) σ H ρ := fun H1 e1 Q q =>
  ⟨_, pe_callTy hc hg hm hv wa_ok hn hdb he hpl, ha H1 e1 _ fun vs H2 e2 h2 => h H1 vs H2 Q e1 e2 h2 (q.mono e2)⟩
/-! comparisons -/
theorem ev_cmp {op : CmpOp} {r : R2} (ho : OpR X (compareOp op) r) (ha : Ev X a σ H ρ1) (hb : Ev X b σ H ρ2) (h : ∀ S x y H2 Q, Ex H S → Ex S H2 → ρ1.r S x H2 → ρ2.r S y H2 → Go ρ H2 Q → r x y H2 Q) (hm : behindInMarks op b = false) : Ev X (.Compare a [op] [b] pos) σ H ρ := fun H1 e1 Q q =>
  ⟨_, pe_cmpR ho we_ok we_ok hm, ha H1 e1 _ fun x H2 e2 h2 => hb H2 (e1.trans e2) _ fun y H3 e3 h3 => h H1 x y H3 Q e1 (e2.trans e3) (ρ1.m e3 h2) (ρ2.n e2 h3) (Go.mono q (e2.trans e3))⟩
/-- a comparison as a test, from the comparison as a value -/
theorem et_cmp {op : CmpOp} {r : R2} {t : Bool} (ho : OpR X (compareOp op) r) (ha : Ev X a σ H ρ1) (hb : Ev X b σ H ρ2) (h : ∀ S x y H2 Q, Ex H S → Ex S H2 → ρ1.r S x H2 → ρ2.r S y H2 → Go (rB t) H2 Q → r x y H2 Q) (hm : behindInMarks op b = false) : Et X (.Compare a [op] [b] pos) σ H t := fun H1 e1 Q q =>
  ⟨_, pt_cmpR ho we_ok we_ok hm, ha H1 e1 _ fun x H2 e2 h2 => hb H2 (e1.trans e2) _ fun y H3 e3 h3 => h H1 x y H3 _ e1 (e2.trans e3) (ρ1.m e3 h2) (ρ2.n e2 h3) fun v H4 e4 h4 => ⟨t, h4.ebl, q H4 ((e2.trans e3).trans e4)⟩⟩
theorem r_lt {i j : Int} (S : Hp) (x y : V) (H2 : Hp) (Q : VK) (_ : Ex H S) (_ : Ex S H2) (hx : (rI i).r S x H2) (hy : (rI j).r S y H2) (q : Go (rB (decide (i < j))) H2 Q) : rI0 (fun i j => .bl (decide (i < j))) x y H2 Q := ⟨i, j, hx.eint, hy.eint, q.at (.bl _)⟩
theorem r_le {i j : Int} (S : Hp) (x y : V) (H2 : Hp) (Q : VK) (_ : Ex H S) (_ : Ex S H2) (hx : (rI i).r S x H2) (hy : (rI j).r S y H2) (q : Go (rB (decide (i ≤ j))) H2 Q) : rI0 (fun i j => .bl (decide (i ≤ j))) x y H2 Q := ⟨i, j, hx.eint, hy.eint, q.at (.bl _)⟩
theorem r_gt {i j : Int} (S : Hp) (x y : V) (H2 : Hp) (Q : VK) (_ : Ex H S) (_ : Ex S H2) (hx : (rI i).r S x H2) (hy : (rI j).r S y H2) (q : Go (rB (decide (j < i))) H2 Q) : rI0 (fun i j => .bl (decide (j < i))) x y H2 Q := ⟨i, j, hx.eint, hy.eint, q.at (.bl _)⟩
theorem r_ge {i j : Int} (S : Hp) (x y : V) (H2 : Hp) (Q : VK) (_ : Ex H S) (_ : Ex S H2) (hx : (rI i).r S x H2) (hy : (rI j).r S y H2) (q : Go (rB (decide (j ≤ i))) H2 Q) : rI0 (fun i j => .bl (decide (j ≤ i))) x y H2 Q := ⟨i, j, hx.eint, hy.eint, q.at (.bl _)⟩
theorem r_eqi {i j : Int} (S : Hp) (x y : V) (H2 : Hp) (Q : VK) (_ : Ex H S) (_ : Ex S H2) (hx : (rI i).r S x H2) (hy : (rI j).r S y H2) (q : Go (rB (decide (i = j))) H2 Q) : rEq x y H2 Q := by
  rw [hx.eint, hy.eint]
  exact ⟨rfl, q.at (by rw [show decide (V.int i = V.int j) = decide (i = j) by rw [dec_int, Bool.beq_eq_decide_eq]]; exact .bl _)⟩
theorem r_nei {i j : Int} (S : Hp) (x y : V) (H2 : Hp) (Q : VK) (_ : Ex H S) (_ : Ex S H2) (hx : (rI i).r S x H2) (hy : (rI j).r S y H2) (q : Go (rB (!decide (i = j))) H2 Q) : rNe x y H2 Q := by
  rw [hx.eint, hy.eint]
  exact ⟨rfl, q.at (by rw [show decide (V.int i = V.int j) = decide (i = j) by rw [dec_int, Bool.beq_eq_decide_eq]]; exact .bl _)⟩
theorem dec_T {l m : List Nat} : decide (V.str (T l) = V.str (T m)) = decide (l = m) := by
  rw [Bool.eq_iff_iff]
  simp
theorem r_eqs {i j : List Nat} (S : Hp) (x y : V) (H2 : Hp) (Q : VK) (_ : Ex H S) (_ : Ex S H2) (hx : (rS i).r S x H2) (hy : (rS j).r S y H2) (q : Go (rB (decide (i = j))) H2 Q) : rEq x y H2 Q := by
  rw [hx.estr, hy.estr]
  exact ⟨rfl, q.at (by rw [dec_T]; exact .bl _)⟩
theorem r_nes {i j : List Nat} (S : Hp) (x y : V) (H2 : Hp) (Q : VK) (_ : Ex H S) (_ : Ex S H2) (hx : (rS i).r S x H2) (hy : (rS j).r S y H2) (q : Go (rB (!decide (i = j))) H2 Q) : rNe x y H2 Q := by
  rw [hx.estr, hy.estr]
  exact ⟨rfl, q.at (by rw [dec_T]; exact .bl _)⟩
/-- tuples as data -/
theorem r_eqd {K : Frag} {d d' : PyData} (s1 : SeqAt.shaped d = true) (s2 : SeqAt.shaped d' = true) (S : Hp) (x y : V) (H2 : Hp) (Q : VK) (_ : Ex H S) (_ : Ex S H2) (hx : (rD d).r S x H2) (hy : (rD d').r S y H2) (q : Go (rB (PyData.eqv d d')) H2 Q) : rEqD K x y H2 Q :=
  ⟨d, d', Im.dp d hx, Im.dp d' hy, s1, s2, q.at (.bl _)⟩
theorem r_ned {K : Frag} {d d' : PyData} (s1 : SeqAt.shaped d = true) (s2 : SeqAt.shaped d' = true) (S : Hp) (x y : V) (H2 : Hp) (Q : VK) (_ : Ex H S) (_ : Ex S H2) (hx : (rD d).r S x H2) (hy : (rD d').r S y H2) (q : Go (rB (!PyData.eqv d d')) H2 Q) : rNeD K x y H2 Q :=
  ⟨d, d', Im.dp d hx, Im.dp d' hy, s1, s2, q.at (.bl _)⟩
/-- a list against a list -/
theorem r_eql {K : Frag} {d d' : List PyData} (s1 : SeqAt.shaped (.list d) = true) (s2 : SeqAt.shaped (.list d') = true) (S : Hp) (x y : V) (H2 : Hp) (Q : VK) (_ : Ex H S) (_ : Ex S H2) (hx : (rL d).r S x H2) (hy : (rL d').r S y H2) (q : Go (rB (PyData.eqv (.list d) (.list d'))) H2 Q) : rEqD K x y H2 Q := by
  obtain ⟨p, xs, rfl, hp, ix⟩ := hx
  obtain ⟨p', ys, rfl, hp', iy⟩ := hy
  exact ⟨.list d, .list d', .lst (SqL.of hp) (Ims.dp d ix), .lst (SqL.of hp') (Ims.dp d' iy), s1, s2, q.at (.bl _)⟩
theorem r_nel {K : Frag} {d d' : List PyData} (s1 : SeqAt.shaped (.list d) = true) (s2 : SeqAt.shaped (.list d') = true) (S : Hp) (x y : V) (H2 : Hp) (Q : VK) (_ : Ex H S) (_ : Ex S H2) (hx : (rL d).r S x H2) (hy : (rL d').r S y H2) (q : Go (rB (!PyData.eqv (.list d) (.list d'))) H2 Q) : rNeD K x y H2 Q := by
  obtain ⟨p, xs, rfl, hp, ix⟩ := hx
  obtain ⟨p', ys, rfl, hp', iy⟩ := hy
  exact ⟨.list d, .list d', .lst (SqL.of hp) (Ims.dp d ix), .lst (SqL.of hp') (Ims.dp d' iy), s1, s2, q.at (.bl _)⟩
/-- a sign within a text -/
theorem r_ins {c : Nat} {l : List Nat} (S : Hp) (x y : V) (H2 : Hp) (Q : VK) (_ : Ex H S) (_ : Ex S H2) (hx : (rS [c]).r S x H2) (hy : (rS l).r S y H2) (q : Go (rB (decide (c ∈ l))) H2 Q) : (fun x y H Q => ∃ (c : Nat) (z : Str), x = V.str ⟨#[c]⟩ ∧ y = V.str z ∧ Q (.bl (decide (c ∈ z.cps.toList))) H : R2) x y H2 Q :=
  ⟨c, T l, hx.estr, hy.estr, q.at (by rw [show (T l).cps.toList = l from T_list l]; exact .bl _)⟩
/-! tests -/
theorem et_v (h : Ev X e σ H (rB t)) (he : ∀ whole, isTrue e X.env whole = (do let v ← whole; standAt e.pos; holding [v] (truthy v)) := by intro _; rfl) : Et X e σ H t := fun H1 e1 Q q =>
  ⟨_, pt_val we_ok he, h H1 e1 _ fun v H2 e2 h2 => ⟨t, h2.ebl, q H2 e2⟩⟩
theorem et_w (h : Ew X e σ H t) : Et X e σ H t := fun H1 e1 Q q => by
  obtain ⟨u, h1, h2⟩ := h H1 e1 Q q
  exact ⟨u, h1.pt, h2⟩
theorem et_not (h : Et X a σ H t) : Et X (.UnaryOp .Not a pos) σ H (!t) := fun H1 e1 Q q => ⟨_, pt_not wt_ok, h H1 e1 _ fun H2 e2 => q H2 e2⟩
theorem ew_and1 (h : Et X a σ H t) : Ew X (.BoolOp .And [a] pos) σ H t := fun H1 e1 Q q => ⟨_, pw_and1 wt_ok, h H1 e1 _ q⟩
theorem ew_or1 (h : Et X a σ H t) : Ew X (.BoolOp .Or [a] pos) σ H t := fun H1 e1 Q q => ⟨_, pw_or1 wt_ok, h H1 e1 _ q⟩
theorem ew_and {t u : Bool} (h : Et X a σ H t) (hr : t = true → Ew X (.BoolOp .And (b :: es) pos) σ H u) : Ew X (.BoolOp .And (a :: b :: es) pos) σ H (t && u) := fun H1 e1 Q q => ⟨_, pw_and wt_ok ww_ok, h H1 e1 _ fun H2 e2 => by
  cases t with
  | true =>
    rw [if_pos rfl]
    exact hr rfl H2 (e1.trans e2) _ fun H3 e3 => q H3 (e2.trans e3)
  | false =>
    rw [if_neg (by decide)]
    exact q H2 e2⟩
theorem ew_or {t u : Bool} (h : Et X a σ H t) (hr : t = false → Ew X (.BoolOp .Or (b :: es) pos) σ H u) : Ew X (.BoolOp .Or (a :: b :: es) pos) σ H (t || u) := fun H1 e1 Q q => ⟨_, pw_or wt_ok ww_ok, h H1 e1 _ fun H2 e2 => by
  cases t with
  | true =>
    rw [if_pos rfl]
    exact q H2 e2
  | false =>
    rw [if_neg (by decide)]
    exact hr rfl H2 (e1.trans e2) _ fun H3 e3 => q H3 (e2.trans e3)⟩
theorem et_and {t u : Bool} (h : Et X a σ H t) (hr : t = true → Ew X (.BoolOp .And (b :: es) pos) σ H u) : Et X (.BoolOp .And (a :: b :: es) pos) σ H (t && u) := et_w (ew_and h hr)
theorem et_or {t u : Bool} (h : Et X a σ H t) (hr : t = false → Ew X (.BoolOp .Or (b :: es) pos) σ H u) : Et X (.BoolOp .Or (a :: b :: es) pos) σ H (t || u) := et_w (ew_or h hr)
/-! and, or, not as values (bools) -/
theorem ev_one {op} (h : Ev X a σ H ρ) : Ev X (.BoolOp op [a] pos) σ H ρ := fun H1 e1 Q q => ⟨_, pe_one we_ok, h H1 e1 Q q⟩
theorem ev_and {t u : Bool} (h : Ev X a σ H (rB t)) (hr : t = true → Ev X (.BoolOp .And (b :: es) pos) σ H (rB u)) : Ev X (.BoolOp .And (a :: b :: es) pos) σ H (rB (t && u)) := fun H1 e1 Q q => ⟨_, pe_and we_ok we_ok, h H1 e1 _ fun v H2 e2 h2 => ⟨t, h2.ebl, by
  cases t with
  | true =>
    rw [if_pos rfl]
    exact hr rfl H2 (e1.trans e2) _ fun v3 H3 e3 h3 => q v3 H3 (e2.trans e3) h3
  | false =>
    rw [if_neg (by decide)]
    exact q _ H2 e2 (.bl _)⟩⟩
theorem ev_or {t u : Bool} (h : Ev X a σ H (rB t)) (hr : t = false → Ev X (.BoolOp .Or (b :: es) pos) σ H (rB u)) : Ev X (.BoolOp .Or (a :: b :: es) pos) σ H (rB (t || u)) := fun H1 e1 Q q => ⟨_, pe_or we_ok we_ok, h H1 e1 _ fun v H2 e2 h2 => ⟨t, h2.ebl, by
  cases t with
  | true =>
    rw [if_pos rfl]
    exact q _ H2 e2 (.bl _)
  | false =>
    rw [if_neg (by decide)]
    exact hr rfl H2 (e1.trans e2) _ fun v3 H3 e3 h3 => q v3 H3 (e2.trans e3) h3⟩⟩
theorem ev_not {t : Bool} (h : Ev X a σ H (rB t)) : Ev X (.UnaryOp .Not a pos) σ H (rB (!t)) := fun H1 e1 Q q => ⟨_, pe_not we_ok, h H1 e1 _ fun v H2 e2 h2 => ⟨t, h2.ebl, q _ H2 e2 (.bl _)⟩⟩
theorem ev_if {t : Bool} (hc : Et X c σ H t) (ha : t = true → Ev X a σ H ρ) (hb : t = false → Ev X b σ H ρ) : Ev X (.IfExp c a b pos) σ H ρ := fun H1 e1 Q q => ⟨_, pe_ifExp wt_ok we_ok we_ok, hc H1 e1 _ fun H2 e2 => by
  cases t with
  | true =>
    rw [if_pos rfl]
    exact ha rfl H2 (e1.trans e2) _ (q.mono e2)
  | false =>
    rw [if_neg (by decide)]
    exact hb rfl H2 (e1.trans e2) _ (q.mono e2)⟩
end
end Lk

set_option maxHeartbeats 1000000
/-! Rules over data: built-ins, subscripts, slices, dicts, statements, loops, comprehensions, calls of defs. -/
namespace Lk
open PySem PySem.Spec PyProof.Rows L2
open Evl (Ex)
theorem sz6 {n : Nat} (h : n ≤ 1000000) : n ≤ sizeLine := by
  rw [sizeLine_eq]
  omega
theorem one_arg {ρ : Rp} {S H : Hp} {vs : List V} (h : (rC ρ r0).r S vs H) : ∃ v, vs = [v] ∧ ρ.r S v H := by
  obtain ⟨v, r, rfl, h1, h2⟩ := h
  cases h2
  exact ⟨v, rfl, h1⟩
theorem two_arg {ρ ρ' : Rp} {S H : Hp} {vs : List V} (h : (rC ρ (rC ρ' r0)).r S vs H) : ∃ v w, vs = [v, w] ∧ ρ.r S v H ∧ ρ'.r S w H := by
  obtain ⟨v, r, rfl, h1, h2⟩ := h
  obtain ⟨w, rfl, h3⟩ := one_arg h2
  exact ⟨v, w, rfl, h1, h3⟩
theorem three_arg {ρ ρ' ρ2 : Rp} {S H : Hp} {vs : List V} (h : (rC ρ (rC ρ' (rC ρ2 r0))).r S vs H) : ∃ v w z, vs = [v, w, z] ∧ ρ.r S v H ∧ ρ'.r S w H ∧ ρ2.r S z H := by
  obtain ⟨v, r, rfl, h1, h2⟩ := h
  obtain ⟨w, z, rfl, h4, h3⟩ := two_arg h2
  exact ⟨v, w, z, rfl, h1, h4, h3⟩
/-! ### dicts -/
/-- a dict: keys and data -/
abbrev Kd := List (Key × PyData)
def DkR (H : Hp) (kvs : List (Key × V)) (ks : Kd) : Prop := Paired (fun (p : Key × V) (q : Key × PyData) => p.1 = q.1 ∧ Im H p.2 q.2) kvs ks
theorem DkR.ex {H H' : Hp} (e : Tu H H') : ∀ {kvs : List (Key × V)} {ks : Kd}, DkR H kvs ks → DkR H' kvs ks
  | _, _, .nil => .nil
  | _, _, .cons ⟨h1, h2⟩ t => .cons ⟨h1, h2.tu e⟩ (DkR.ex e t)
theorem DkR.len {H : Hp} : ∀ {kvs : List (Key × V)} {ks : Kd}, DkR H kvs ks → kvs.length = ks.length
  | _, _, .nil => rfl
  | _, _, .cons _ t => by simp only [List.length_cons, DkR.len t]
theorem DkR.keys {H : Hp} : ∀ {kvs : List (Key × V)} {ks : Kd}, DkR H kvs ks → kvs.map (·.1) = ks.map (·.1)
  | _, _, .nil => rfl
  | _, _, .cons ⟨h1, h2⟩ t => by simp only [List.map_cons, DkR.keys t, h1]
def lookK (ks : Kd) (k : Key) : Option PyData := (ks.find? fun p => decide (p.1 = k)).map (·.2)
theorem DkR.get {H : Hp} {k : Key} : ∀ {kvs : List (Key × V)} {ks : Kd}, DkR H kvs ks → (∀ d, lookK ks k = some d → ∃ v, valV kvs k = some v ∧ Im H v d) ∧ (lookK ks k = none → valV kvs k = none)
  | _, _, .nil => ⟨fun d h => by simp [lookK] at h, fun _ => rfl⟩
  | p :: kvs, q :: ks, .cons ⟨h1, h2⟩ t => by
    have ih := DkR.get (k := k) t
    by_cases e : q.1 = k
    · have e' : p.1 = k := h1.trans e
      refine ⟨fun d h => ?_, fun h => ?_⟩
      · simp only [lookK, List.find?_cons, decide_eq_true e, Option.map_some, Option.some.injEq] at h
        subst h
        exact ⟨p.2, by simp only [valV, List.find?_cons, decide_eq_true e', Option.map_some], h2⟩
      · simp [lookK, List.find?_cons, e] at h
    · have e' : ¬ p.1 = k := fun z => e (h1.symm.trans z)
      have x1 : lookK (q :: ks) k = lookK ks k := by simp only [lookK, List.find?_cons, decide_eq_false e]
      have x2 : valV (p :: kvs) k = valV kvs k := by simp only [valV, List.find?_cons, decide_eq_false e']
      rw [x1, x2]
      exact ih
def rM (ks : Kd) : Rp := ⟨fun _ v H => ∃ a kvs, v = .ref a ∧ Rd H a (.dK kvs) ∧ DkR H kvs ks, fun e ⟨a, kvs, h1, h2, h3⟩ => ⟨a, kvs, h1, Evl.ex_rd e h2, h3.ex (tu_ex e)⟩, fun _ h => h⟩
theorem dget_rd {H : Hp} {a : Addr} {kvs : List (Key × V)} {k : Key} (e : Rd H a (.dK kvs)) : DGet H a (kV k) (valV kvs k) := .inl ⟨kvs, k, e, rfl, rfl⟩
section
variable {X : Cx} {σ : L2.St} {H H' : Hp} {e a b c : Expr} {es : List Expr} {pos p p2 : Pos} {ρ ρ1 ρ2 ρ3 : Rp} {ρs : Rps}
/-! ### len, tuple, list, int, ord, isinstance .. -/
theorem ev_len {ds : List PyData} (hm : X.mg "len" = none) (ha : Ev X a σ H (rQ ds)) (hg : Gl X "len" := by rfl) (he : starEach [a] X.env = (false, eval a X.env) :: starEach [] X.env := by rfl) (hpl : (backTo pos (starEach [] X.env)).any (·.1) = false := by rfl) :
    Ev X (.Call (.Name "len" p) [a] [] pos) σ H (rI (ds.length : Int)) := ev_cb call_len_seq hm boot_len (eac ha ea0 he) (fun S vs H2 Q _ _ hv q => by
  obtain ⟨v, rfl, p, xs, rfl, h1, h2⟩ := one_arg hv
  exact ⟨p, xs, rfl, h1.imp SqL.of SqT.of, by rw [h2.len]; exact q.at (.int _)⟩) hg (by decide) (by decide) he hpl
theorem ev_lens {l : List Nat} (hm : X.mg "len" = none) (ha : Ev X a σ H (rS l)) (hz : l.length ≤ 1000000) (hg : Gl X "len" := by rfl) (he : starEach [a] X.env = (false, eval a X.env) :: starEach [] X.env := by rfl) (hpl : (backTo pos (starEach [] X.env)).any (·.1) = false := by rfl) :
    Ev X (.Call (.Name "len" p) [a] [] pos) σ H (rI (l.length : Int)) := ev_cb call_len_str hm boot_len (eac ha ea0 he) (fun S vs H2 Q _ _ hv q => by
  obtain ⟨v, rfl, h1⟩ := one_arg hv
  exact ⟨T l, by rw [h1.estr], by rw [T_len]; exact sz6 hz, by rw [T_len]; exact q.at (.int _)⟩) hg (by decide) (by decide) he hpl
theorem ev_tuple {ds : List PyData} (hm : X.mg "tuple" = none) (ha : Ev X a σ H (rQ ds)) (hg : Gl X "tuple" := by rfl) (he : starEach [a] X.env = (false, eval a X.env) :: starEach [] X.env := by rfl) (hpl : (backTo pos (starEach [] X.env)).any (·.1) = false := by rfl) :
    Ev X (.Call (.Name "tuple" p) [a] [] pos) σ H (rT ds) := ev_ct call_tuple_of hm (by decide +kernel) (eac ha ea0 he) (fun S vs H2 Q _ _ hv q => by
  obtain ⟨v, rfl, p, xs, rfl, h1, h2⟩ := one_arg hv
  refine ⟨p, xs, rfl, ?_⟩
  rcases h1 with h1 | h1
  · exact .inl ⟨SqL.of h1, fun l hl => q _ _ (Ex.new hl) (.tup upd_same (h2.ex (Ex.new hl)))⟩
  · exact .inr ⟨SqT.of h1, q.at (.tup h1 h2)⟩) hg (by decide) (by decide) he hpl
theorem ev_list {ds : List PyData} (hm : X.mg "list" = none) (ha : Ev X a σ H (rQ ds)) (hg : Gl X "list" := by rfl) (he : starEach [a] X.env = (false, eval a X.env) :: starEach [] X.env := by rfl) (hpl : (backTo pos (starEach [] X.env)).any (·.1) = false := by rfl) :
    Ev X (.Call (.Name "list" p) [a] [] pos) σ H (rF ds) := ev_ct call_list_of hm (by decide +kernel) (eac ha ea0 he) (fun S vs H2 Q _ _ hv q => by
  obtain ⟨v, rfl, p, xs, rfl, h1, h2⟩ := one_arg hv
  exact ⟨p, xs, rfl, h1.imp SqL.of SqT.of, fun l hl => q _ _ (Ex.new hl) ⟨l, xs, rfl, hl, upd_same, h2.ex (Ex.new hl)⟩⟩) hg (by decide) (by decide) he hpl
/-- list(a dict): its keys -/
theorem ev_listk {ks : Kd} (hm : X.mg "list" = none) (hc : X.calm = true) (ha : Ev X a σ H (rM ks)) (hg : Gl X "list" := by rfl) (he : starEach [a] X.env = (false, eval a X.env) :: starEach [] X.env := by rfl) (hpl : (backTo pos (starEach [] X.env)).any (·.1) = false := by rfl) :
    Ev X (.Call (.Name "list" p) [a] [] pos) σ H (rF (ks.map fun k => match k.1 with
      | .inl i => .int i
      | .inr x => .str x)) := ev_ct (call_listD hc) hm (by decide +kernel) (eac ha ea0 he) (fun S vs H2 Q _ _ hv q => by
  obtain ⟨v, rfl, p, kvs, rfl, h1, h2⟩ := one_arg hv
  refine ⟨p, kvs, rfl, h1, fun l hl => q _ _ (Ex.new hl) ⟨l, _, rfl, hl, upd_same, ?_⟩⟩
  clear q h1
  have go : ∀ {kvs : List (Key × V)} {ks : Kd}, DkR H2 kvs ks → Ims (upd H2 l (.lst (kvs.map fun kv => kV kv.1))) (kvs.map fun kv => kV kv.1) (ks.map fun k => match k.1 with
      | .inl i => PyData.int i
      | .inr x => .str x) := by
    intro kvs ks h
    generalize upd H2 l (.lst (kvs.map fun kv => kV kv.1)) = HH
    induction h with
    | nil => exact .nil
    | cons r t ih =>
      rename_i p q _ _
      refine .cons ?_ ih
      obtain ⟨r1, _⟩ := r
      show Im HH (kV p.1) _
      rw [r1]
      rcases q with ⟨k | k, d⟩
      · exact .int _
      · exact .str _
  exact go h2) hg (by decide) (by decide) he hpl
theorem ev_toint {i : Int} (hm : X.mg "int" = none) (ha : Ev X a σ H (rI i)) (hg : Gl X "int" := by rfl) (he : starEach [a] X.env = (false, eval a X.env) :: starEach [] X.env := by rfl) (hpl : (backTo pos (starEach [] X.env)).any (·.1) = false := by rfl) :
    Ev X (.Call (.Name "int" p) [a] [] pos) σ H (rI i) := ev_ct call_int1 hm (by decide +kernel) (eac ha ea0 he) (fun S vs H2 Q _ _ hv q => by
  obtain ⟨v, rfl, h1⟩ := one_arg hv
  exact .inl ⟨i, by rw [h1.eint], q.at (.int _)⟩) hg (by decide) (by decide) he hpl
theorem ev_ord {n : Nat} (hm : X.mg "ord" = none) (ha : Ev X a σ H (rS [n])) (hg : Gl X "ord" := by rfl) (he : starEach [a] X.env = (false, eval a X.env) :: starEach [] X.env := by rfl) (hpl : (backTo pos (starEach [] X.env)).any (·.1) = false := by rfl) :
    Ev X (.Call (.Name "ord" p) [a] [] pos) σ H (rI (n : Int)) := ev_cb call_ord hm (by decide +kernel) (eac ha ea0 he) (fun S vs H2 Q _ _ hv q => by
  obtain ⟨v, rfl, h1⟩ := one_arg hv
  exact ⟨T [n], by rw [h1.estr], T_len [n], q.at (.int _)⟩) hg (by decide) (by decide) he hpl
theorem ev_min2 {i j : Int} (hc : X.calm = true) (hm : X.mg "min" = none) (ha : Ev X a σ H (rI i)) (hb : Ev X b σ H (rI j)) (hg : Gl X "min" := by rfl) (he : starEach [a, b] X.env = (false, eval a X.env) :: starEach [b] X.env := by rfl)
    (he2 : starEach [b] X.env = (false, eval b X.env) :: starEach [] X.env := by rfl) (hpl : (backTo pos (starEach [b] X.env)).any (·.1) = false := by rfl) :
    Ev X (.Call (.Name "min" p) [a, b] [] pos) σ H (rI (if j < i then j else i)) := ev_cb (call_min2 hc) hm (by decide +kernel) (eac ha (eac hb ea0 he2) he) (fun S vs H2 Q _ _ hv q => by
  obtain ⟨v, w, rfl, h1, h2⟩ := two_arg hv
  exact ⟨i, j, by rw [h1.eint, h2.eint], q.at (.int _)⟩) hg (by decide) (by decide) he hpl
theorem ev_maxl {ns : List Int} {m : Int} (hc : X.calm = true) (hm : X.mg "max" = none) (ha : Ev X a σ H (rL (ns.map .int))) (h0 : m ∈ ns) (h1 : ∀ y ∈ ns, y ≤ m) (hg : Gl X "max" := by rfl) (he : starEach [a] X.env = (false, eval a X.env) :: starEach [] X.env := by rfl) (hpl : (backTo pos (starEach [] X.env)).any (·.1) = false := by rfl) :
    Ev X (.Call (.Name "max" p) [a] [] pos) σ H (rI m) := ev_cb (cr_max hc) hm (by decide +kernel) (eac ha ea0 he) (fun S vs H2 Q _ _ hv q => by
  obtain ⟨v, rfl, p, xs, rfl, h3, h4⟩ := one_arg hv
  have e := h4.ints
  subst e
  refine ⟨p, ns, rfl, SqL.of h3, List.length_pos_of_mem h0, fun m' h5 h6 => ?_⟩
  have e : m' = m := Int.le_antisymm (h1 _ h5) (h6 _ h0)
  subst e
  exact q.at (.int _)) hg (by decide) (by decide) he hpl
theorem ev_all {bs : List Bool} (hc : X.calm = true) (hm : X.mg "all" = none) (ha : Ev X a σ H (rL (bs.map .bool))) (hg : Gl X "all" := by rfl) (he : starEach [a] X.env = (false, eval a X.env) :: starEach [] X.env := by rfl) (hpl : (backTo pos (starEach [] X.env)).any (·.1) = false := by rfl) :
    Ev X (.Call (.Name "all" p) [a] [] pos) σ H (rB (bs.all id)) := ev_cb (cr_all hc) hm (by decide +kernel) (eac ha ea0 he) (fun S vs H2 Q _ _ hv q => by
  obtain ⟨v, rfl, p, xs, rfl, h3, h4⟩ := one_arg hv
  have e := h4.bls
  subst e
  exact ⟨p, bs, rfl, SqL.of h3, q.at (.bl _)⟩) hg (by decide) (by decide) he hpl
/-! ### subscripts -/
theorem ev_ixt {ds : List PyData} {i : Int} {d : PyData} (ha : Ev X a σ H (rT ds)) (hb : Ev X b σ H (rI i)) (h : atI ds i = some d) (hs : PlainIx b := by exact fun _ _ => rfl) : Ev X (.Subscript a b pos) σ H (rD d) := fun H1 e1 Q q =>
  ⟨_, pe_ix ix_tup we_ok we_ok hs, ha H1 e1 _ fun x H2 e2 h2 => hb H2 (e1.trans e2) _ fun y H3 e3 h3 => by
    obtain ⟨p, xs, rfl, h4, h5⟩ := Im.etup (Im.ex h2 e3)
    have h3 := Im.eint h3
    subst h3
    obtain ⟨j, j1, j2, _, _, _⟩ := atI_get h
    obtain ⟨v, v1, v2⟩ := h5.get j2
    refine ⟨p, xs, i, v, rfl, rfl, SqT.of h4, ?_, q v H3 (e2.trans e3) v2⟩
    unfold atI at h ⊢
    rw [h5.len]
    cases z : ixN ds.length i with
    | none => rw [z] at h; cases h
    | some k =>
      rw [z] at h
      have e : k = j := by
        obtain ⟨k1, _⟩ := ixN_seq z
        rw [k1] at j1
        exact Option.some.inj j1
      subst e
      exact v1⟩
theorem ev_ixl {ds : List PyData} {i : Int} {d : PyData} (ha : Ev X a σ H (rL ds)) (hb : Ev X b σ H (rI i)) (h : atI ds i = some d) (hs : PlainIx b := by exact fun _ _ => rfl) : Ev X (.Subscript a b pos) σ H (rD d) := fun H1 e1 Q q =>
  ⟨_, pe_ix ix_list we_ok we_ok hs, ha H1 e1 _ fun x H2 e2 h2 => hb H2 (e1.trans e2) _ fun y H3 e3 h3 => by
    obtain ⟨p, xs, rfl, h4, h5⟩ := (rL ds).m e3 h2
    have h3 := Im.eint h3
    subst h3
    obtain ⟨j, j1, j2, _, _, _⟩ := atI_get h
    obtain ⟨v, v1, v2⟩ := h5.get j2
    refine ⟨p, xs, i, v, rfl, rfl, SqL.of h4, ?_, q v H3 (e2.trans e3) v2⟩
    unfold atI at h ⊢
    rw [h5.len]
    cases z : ixN ds.length i with
    | none => rw [z] at h; cases h
    | some k =>
      rw [z] at h
      have e : k = j := by
        obtain ⟨k1, _⟩ := ixN_seq z
        rw [k1] at j1
        exact Option.some.inj j1
      subst e
      exact v1⟩
theorem ev_ixs {l : List Nat} {i : Int} {n : Nat} (ha : Ev X a σ H (rS l)) (hb : Ev X b σ H (rI i)) (h : atI l i = some n) (hz : l.length ≤ 1000000) (hs : PlainIx b := by exact fun _ _ => rfl) : Ev X (.Subscript a b pos) σ H (rS [n]) := fun H1 e1 Q q =>
  ⟨_, pe_ix ix_str we_ok we_ok hs, ha H1 e1 _ fun x H2 e2 h2 => hb H2 (e1.trans e2) _ fun y H3 e3 h3 =>
    ⟨T l, i, n, Im.estr h2, Im.eint h3, by rw [T_len]; exact sz6 hz, by rw [T_list]; exact h, q _ H3 (e2.trans e3) (.str _)⟩⟩
/-- d[k] -/
theorem ev_ixd {ks : Kd} {k : Key} {d : PyData} (hu : X.A.units + 1 < cLine) (ha : Ev X a σ H (rM ks)) (hb : Ev X b σ H (rV (kV k))) (h : lookK ks k = some d) (hs : NoSl b := by exact fun _ _ => rfl) : Ev X (.Subscript a b pos) σ H (rD d) := fun H1 e1 Q q =>
  ⟨_, pe_dget hu we_ok we_ok hs, ha H1 e1 _ fun x H2 e2 h2 => hb H2 (e1.trans e2) _ fun y H3 e3 h3 => by
    obtain ⟨p, kvs, rfl, h4, h5⟩ := (rM ks).m e3 h2
    cases h3
    obtain ⟨v, v1, v2⟩ := h5.get.1 d h
    exact ⟨p, v, rfl, by rw [← v1]; exact dget_rd h4, q v H3 (e2.trans e3) v2⟩⟩
theorem ev_ks {l : List Nat} (h : Ev X e σ H (rS l)) : Ev X e σ H (rV (kV (.inr (T l)))) := h.imp fun _ _ _ _ _ q => Im.estr q
theorem ev_ki {i : Int} (h : Ev X e σ H (rI i)) : Ev X e σ H (rV (kV (.inl i))) := h.imp fun _ _ _ _ _ q => Im.eint q
/-- k in d -/
theorem ev_ind {ks : Kd} {k : Key} (hu : X.A.units + 1 < cLine) (ha : Ev X a σ H (rV (kV k))) (hb : Ev X b σ H (rM ks)) (hm : behindInMarks .In b = false := by rfl) : Ev X (.Compare a [.In] [b] pos) σ H (rB (lookK ks k).isSome) := fun H1 e1 Q q =>
  ⟨_, pe_cmp (pc_din hu we_ok we_ok) hm, ha H1 e1 _ fun x H2 e2 h2 => hb H2 (e1.trans e2) _ fun y H3 e3 h3 => by
    obtain ⟨p, kvs, rfl, h4, h5⟩ := h3
    cases h2
    refine ⟨p, valV kvs k, rfl, dget_rd h4, ?_⟩
    cases z : lookK ks k with
    | none =>
      rw [h5.get.2 z]
      exact q _ H3 (e2.trans e3) (by rw [z]; exact .bl _)
    | some d =>
      obtain ⟨v, v1, v2⟩ := h5.get.1 d z
      rw [v1]
      exact q _ H3 (e2.trans e3) (by rw [z]; exact .bl _)⟩
theorem et_ind {ks : Kd} {k : Key} (hu : X.A.units + 1 < cLine) (ha : Ev X a σ H (rV (kV k))) (hb : Ev X b σ H (rM ks)) (hm : behindInMarks .In b = false := by rfl) : Et X (.Compare a [.In] [b] pos) σ H (lookK ks k).isSome := fun H1 e1 Q q =>
  ⟨_, pt_cmp (pc_din hu we_ok we_ok) hm, ha H1 e1 _ fun x H2 e2 h2 => hb H2 (e1.trans e2) _ fun y H3 e3 h3 => by
    obtain ⟨p, kvs, rfl, h4, h5⟩ := h3
    cases h2
    refine ⟨p, valV kvs k, rfl, dget_rd h4, ?_⟩
    cases z : lookK ks k with
    | none =>
      rw [h5.get.2 z]
      exact ⟨_, rfl, by rw [z] at q; exact q H3 (e2.trans e3)⟩
    | some d =>
      obtain ⟨v, v1, v2⟩ := h5.get.1 d z
      rw [v1]
      exact ⟨_, rfl, by rw [z] at q; exact q H3 (e2.trans e3)⟩⟩
theorem et_nind {ks : Kd} {k : Key} (hu : X.A.units + 1 < cLine) (ha : Ev X a σ H (rV (kV k))) (hb : Ev X b σ H (rM ks)) (hm : behindInMarks .NotIn b = false := by rfl) : Et X (.Compare a [.NotIn] [b] pos) σ H (!(lookK ks k).isSome) := fun H1 e1 Q q =>
  ⟨_, pt_cmp (pc_dnotin hu we_ok we_ok) hm, ha H1 e1 _ fun x H2 e2 h2 => hb H2 (e1.trans e2) _ fun y H3 e3 h3 => by
    obtain ⟨p, kvs, rfl, h4, h5⟩ := h3
    cases h2
    refine ⟨p, valV kvs k, rfl, dget_rd h4, ?_⟩
    cases z : lookK ks k with
    | none =>
      rw [h5.get.2 z]
      exact ⟨_, rfl, by rw [z] at q; exact q H3 (e2.trans e3)⟩
    | some d =>
      obtain ⟨v, v1, v2⟩ := h5.get.1 d z
      rw [v1]
      exact ⟨_, rfl, by rw [z] at q; exact q H3 (e2.trans e3)⟩⟩
/-! ### slices -/
def Ep (X : Cx) (e : Option Expr) (σ : L2.St) (H : Hp) (o : Option Int) : Prop := ∀ H1, Ex H H1 → ∀ Q : Option Int → Hp → Prop, (∀ H2, Ex H1 H2 → Q o H2) → Wp X e σ H1 Q
theorem ep0 : Ep X none σ H none := fun H1 _ Q q => ⟨_, po_none, q H1 (Ex.refl H1)⟩
theorem ep1 {i : Int} (h : Ev X e σ H (rI i)) : Ep X (some e) σ H (some i) := fun H1 e1 Q q => ⟨_, po_some we_ok, h H1 e1 _ fun v H2 e2 h2 => ⟨i, Im.eint h2, q H2 e2⟩⟩
/-- the part of a list -/
def cutL {α : Type} (xs : List α) (lo hi : Option Int) : List α := (xs.drop (HT.sIx xs.length 0 lo)).take (HT.sIx xs.length xs.length hi - HT.sIx xs.length 0 lo)
theorem Ims.cut {H : Hp} {xs : List V} {ds : List PyData} (h : Ims H xs ds) (lo hi : Option Int) : Ims H (cutV xs lo hi) (cutL ds lo hi) := by
  unfold cutV cutL
  rw [h.len]
  exact (h.drop _).take _
theorem ev_slf {ds : List PyData} {lo hi : Option Expr} {i j : Option Int} (ha : Ev X a σ H (rL ds)) (hl : Ep X lo σ H i) (hh : Ep X hi σ H j) : Ev X (.Subscript a (.Slice lo hi none p2) pos) σ H (rF (cutL ds i j)) := fun H1 e1 Q q =>
  ⟨_, pe_slice sl_list we_ok wp_ok wp_ok, ha H1 e1 _ fun x H2 e2 h2 => hl H2 (e1.trans e2) _ fun H3 e3 => hh H3 ((e1.trans e2).trans e3) _ fun H4 e4 => by
    obtain ⟨p, xs, rfl, h4, h5⟩ := (rL ds).m (e3.trans e4) h2
    exact ⟨p, xs, rfl, SqL.of h4, fun r hr => q _ _ (((e2.trans e3).trans e4).trans (Ex.new hr)) ⟨r, _, rfl, Evl.fresh_back ((e2.trans e3).trans e4) hr, upd_same, (h5.cut i j).ex (Ex.new hr)⟩⟩⟩
theorem ev_slt {ds : List PyData} {lo hi : Option Expr} {i j : Option Int} (ha : Ev X a σ H (rT ds)) (hl : Ep X lo σ H i) (hh : Ep X hi σ H j) : Ev X (.Subscript a (.Slice lo hi none p2) pos) σ H (rT (cutL ds i j)) := fun H1 e1 Q q =>
  ⟨_, pe_slice sl_tupA we_ok wp_ok wp_ok, ha H1 e1 _ fun x H2 e2 h2 => hl H2 (e1.trans e2) _ fun H3 e3 => hh H3 ((e1.trans e2).trans e3) _ fun H4 e4 => by
    obtain ⟨p, xs, rfl, h4, h5⟩ := Im.etup (Im.ex h2 (e3.trans e4))
    refine ⟨p, xs, rfl, SqT.of h4, fun z => q _ H4 ((e2.trans e3).trans e4) (.tup h4 ?_), fun _ r hr => q _ _ (((e2.trans e3).trans e4).trans (Ex.new hr)) (.tup upd_same ((h5.cut i j).ex (Ex.new hr)))⟩
    have e : cutL ds i j = ds := by
      unfold cutL
      rw [← h5.len, z.1, z.2, List.drop_zero, Nat.sub_zero, h5.len, List.take_length]
    rw [e]
    exact h5⟩
theorem cutS_T (l : List Nat) (lo hi : Option Int) : cutS (T l) lo hi = T (cutL l lo hi) := by
  unfold cutS cutL
  rw [T_len, T_list]
theorem ev_sls {l : List Nat} {lo hi : Option Expr} {i j : Option Int} (ha : Ev X a σ H (rS l)) (hl : Ep X lo σ H i) (hh : Ep X hi σ H j) (hz : l.length ≤ 1000000) : Ev X (.Subscript a (.Slice lo hi none p2) pos) σ H (rS (cutL l i j)) := fun H1 e1 Q q =>
  ⟨_, pe_slice sl_str we_ok wp_ok wp_ok, ha H1 e1 _ fun x H2 e2 h2 => hl H2 (e1.trans e2) _ fun H3 e3 => hh H3 ((e1.trans e2).trans e3) _ fun H4 e4 =>
    ⟨T l, Im.estr h2, by rw [T_len]; exact sz6 hz, by rw [cutS_T]; exact q _ H4 ((e2.trans e3).trans e4) (.str _)⟩⟩
theorem cutL_hi {α : Type} (xs : List α) (k : Nat) : cutL xs none (some (k : Int)) = xs.take k := by
  unfold cutL
  rw [HT.sIx_none, HT.sIx_nat, List.drop_zero, Nat.sub_zero]
  rcases Nat.le_total k xs.length with h | h
  · rw [Nat.min_eq_left h]
  · rw [Nat.min_eq_right h, List.take_length, List.take_of_length_le h]
theorem cutL_lo {α : Type} (xs : List α) (k : Nat) : cutL xs (some (k : Int)) none = xs.drop k := by
  unfold cutL
  rw [HT.sIx_none, HT.sIx_nat]
  rcases Nat.le_total k xs.length with h | h
  · rw [Nat.min_eq_left h]
    exact List.take_of_length_le (by rw [List.length_drop]; exact Nat.le_refl _)
  · rw [Nat.min_eq_right h, List.drop_length, List.drop_eq_nil_of_le h, List.take_nil]
theorem cutL_lohi {α : Type} (xs : List α) (j k : Nat) : cutL xs (some (j : Int)) (some (k : Int)) = (xs.drop j).take (k - j) := by
  unfold cutL
  rw [HT.sIx_nat, HT.sIx_nat]
  rcases Nat.le_total j xs.length with h | h
  · rw [Nat.min_eq_left h]
    rcases Nat.le_total k xs.length with h2 | h2
    · rw [Nat.min_eq_left h2]
    · rw [Nat.min_eq_right h2]
      rw [List.take_of_length_le (by rw [List.length_drop]; exact Nat.le_refl _), List.take_of_length_le (by rw [List.length_drop]; omega)]
  · rw [Nat.min_eq_right h, List.drop_length, List.drop_eq_nil_of_le h, List.take_nil, List.take_nil]
end
end Lk

set_option maxHeartbeats 1000000
/-! Statements, loops, comprehensions. -/
namespace Lk
open PySem PySem.Spec PyProof.Rows L2
open Evl (Ex)
/-! ### heaps without an object -/
def off (l : Addr) (H : Hp) : Hp := fun b => if b = l then none else H b
theorem off_ne {l b : Addr} {H : Hp} (h : b ≠ l) : off l H b = H b := by
  unfold off
  rw [if_neg h]
theorem off_at {l : Addr} {H : Hp} : off l H l = none := by
  unfold off
  rw [if_pos rfl]
theorem off_ex {l : Addr} {H : Hp} : Ex (off l H) H := fun a u h => by
  by_cases e : a = l
  · subst e
    rw [off_at] at h
    cases h
  · rw [off_ne e] at h
    exact h
/-- what does not know l goes on -/
theorem ex_off {l : Addr} {H H' : Hp} (e : Ex H H') (h : H l = none) : Ex H (off l H') := fun a u z => by
  have n : a ≠ l := fun q => by rw [q, h] at z; cases z
  rw [off_ne n]
  exact e a u z
theorem off_mono {l : Addr} {H H' : Hp} (e : Ex H H') : Ex (off l H) (off l H') := ex_off (off_ex.trans e) off_at
theorem off_upd {l : Addr} {H : Hp} {u : HO} : off l (upd H l u) = off l H := by
  funext b
  by_cases e : b = l
  · rw [e, off_at, off_at]
  · rw [off_ne e, off_ne e, upd_ne e]
theorem tu_off {l : Addr} {H : Hp} (h : ∀ xs, H l ≠ some (.tup xs)) : Tu H (off l H) := fun a xs z => by
  have n : a ≠ l := fun q => h xs (q ▸ z)
  rw [off_ne n]
  exact z
theorem ex_updl {l : Addr} {H H' : Hp} {u : HO} (e : Ex (off l H) H') : Ex (off l H) (upd H' l u) := fun a v z => by
  have n : a ≠ l := fun q => by rw [q, off_at] at z; cases z
  rw [upd_ne n]
  exact e a v z
/-! ### targets -/
def Tg (X : Cx) (tg : Expr) (x : V) (σ : L2.St) (H : Hp) (σ2 : L2.St) : Prop := ∀ Q : L2.St → Hp → Prop, Q σ2 H → Wg X tg x σ H Q
section
variable {X : Cx} {σ : L2.St} {H H' : Hp} {e a b c : Expr} {es : List Expr} {pos p p2 : Pos} {ρ ρ1 ρ2 ρ3 : Rp} {ρs : Rps} {D : Ends} {rest body q1 q2 : List Stmt} {st : Stmt}
theorem tg_n {i : Nat} {x : Str} {v : V} (hN : X.N.Nodup) (hi : X.N[i]? = some x := by rfl) (hx : Loc X.env.scope x := by first | exact .inl rfl | exact .inr rfl) (hf : X.fn x = true ∨ X.env.scope.names.lookup x = some .local := by first | exact .inl rfl | exact .inr rfl) :
    Tg X (.Name x pos) v σ H (σ.set i (some v)) := fun Q q => ⟨_, pg_name hN hi hx hf, q⟩
theorem tg_t2 {i j : Nat} {x y : Str} {a : Addr} {v w : V} {kt : Nat} (hc : X.calm = true) (hN : X.N.Nodup) (h : H a = some (.tup [v, w])) (hi : X.N[i]? = some x := by rfl) (hj : X.N[j]? = some y := by rfl) (hx : Loc X.env.scope x := by first | exact .inl rfl | exact .inr rfl) (hy : Loc X.env.scope y := by first | exact .inl rfl | exact .inr rfl)
    (hf : X.fn x = true ∨ X.env.scope.names.lookup x = some .local := by first | exact .inl rfl | exact .inr rfl) (hf2 : X.fn y = true ∨ X.env.scope.names.lookup y = some .local := by first | exact .inl rfl | exact .inr rfl) :
    Tg X (.Tuple [.Name x p, .Name y p2] kt pos) (.ref a) σ H ((σ.set i (some v)).set j (some w)) := fun Q q =>
  ⟨_, pg_tup hc (pgs_cons (pg_name hN hi hx hf) (pgs_cons (pg_name hN hj hy hf2) pgs_nil)), a, _, rfl, SqT.of h, rfl, v, _, rfl, w, _, rfl, rfl, q⟩
/-! ### statements -/
theorem w_end (h : D.nx σ H) : Wm X [] D σ H := ⟨_, pss_nil, h⟩
theorem w_cons (h : Wo X st { D with nx := Wm X rest D } σ H) : Wm X (st :: rest) D σ H := ⟨_, pss_cons wo_ok wm_ok, h⟩
theorem w_setW {i : Nat} {x : Str} {pos' : Pos} (hN : X.N.Nodup) (h : We X e σ H fun v H1 => Wm X rest D (σ.set i (some v)) H1) (hi : X.N[i]? = some x := by rfl) (hx : Loc X.env.scope x := by first | exact .inl rfl | exact .inr rfl)
    (hs : swapsWith e (some (.Name x pos')) pos.line X.env = pure false := by rfl) (hf : X.fn x = true ∨ X.env.scope.names.lookup x = some .local := by first | exact .inl rfl | exact .inr rfl) : Wm X (.Assign [.Name x pos'] e pos :: rest) D σ H :=
  w_cons ⟨_, ps_set hN hi hx we_ok hs hf, h⟩
theorem w_set {i : Nat} {x : Str} {pos' : Pos} (hN : X.N.Nodup) (he : Ev X e σ H ρ) (k : ∀ v H1, Ex H H1 → ρ.r H v H1 → Wm X rest D (σ.set i (some v)) H1) (hi : X.N[i]? = some x := by rfl) (hx : Loc X.env.scope x := by first | exact .inl rfl | exact .inr rfl)
    (hs : swapsWith e (some (.Name x pos')) pos.line X.env = pure false := by rfl) (hf : X.fn x = true ∨ X.env.scope.names.lookup x = some .local := by first | exact .inl rfl | exact .inr rfl) : Wm X (.Assign [.Name x pos'] e pos :: rest) D σ H :=
  w_setW hN (he H (Ex.refl H) _ fun v H1 e1 h => k v H1 e1 h) hi hx hs hf
theorem w_par {i j : Nat} {x y : Str} {px py pt pt2 : Pos} {kt k2 : Nat} (hc : X.calm = true) (hN : X.N.Nodup) (ha : Ev X a σ H ρ1) (hb : Ev X b σ H ρ2) (hij : i ≠ j) (k : ∀ v w H1, Ex H H1 → ρ1.r H v H1 → ρ2.r H w H1 → Wm X rest D ((σ.set i (some v)).set j (some w)) H1)
    (hi : X.N[i]? = some x := by rfl) (hj : X.N[j]? = some y := by rfl) (hx : X.env.scope.names.lookup x = some .local := by rfl) (hy : X.env.scope.names.lookup y = some .local := by rfl)
    (h1 : starEach [a, b] X.env = (false, eval a X.env) :: starEach [b] X.env := by rfl) (h2 : starEach [b] X.env = (false, eval b X.env) :: starEach [] X.env := by rfl)
    (hw : swappedStores [.Tuple [.Name x px, .Name y py] kt pt] (.Tuple [a, b] k2 pt2) X.env = pure (some [x, y]) := by rfl)
    (hs : swapsWithSole [.Tuple [.Name x px, .Name y py] kt pt] (.Tuple [a, b] k2 pt2) pos.line X.env = pure false := by rfl) : Wm X (.Assign [.Tuple [.Name x px, .Name y py] kt pt] (.Tuple [a, b] k2 pt2) pos :: rest) D σ H :=
  w_cons ⟨_, ps_par hc hN hi hj hij hx hy wa_ok hw hs, eac ha (eac hb ea0 h2) h1 H (Ex.refl H) _ fun vs H1 e1 hv => by
    obtain ⟨v, w, rfl, r1, r2⟩ := two_arg hv
    exact ⟨v, w, rfl, k v w H1 e1 r1 r2⟩⟩
theorem w_expr (h : We X e σ H fun _ H1 => Wm X rest D σ H1) (hs : swapsWith e none pos.line X.env = pure false := by rfl) : Wm X (.Expr e pos :: rest) D σ H := w_cons ⟨_, ps_expr we_ok hs, h⟩
theorem w_ret (he : Ev X e σ H ρ) (k : Go ρ H D.rt) : Wm X (.Return (some e) pos :: rest) D σ H := w_cons ⟨_, ps_ret we_ok, he H (Ex.refl H) _ k⟩
theorem w_retW (h : We X e σ H D.rt) : Wm X (.Return (some e) pos :: rest) D σ H := w_cons ⟨_, ps_ret we_ok, h⟩
theorem w_if {t : Bool} (hc : Et X c σ H t) (h1 : t = true → ∀ H1, Ex H H1 → Wm X q1 { D with nx := Wm X rest D } σ H1) (h2 : t = false → ∀ H1, Ex H H1 → Wm X q2 { D with nx := Wm X rest D } σ H1) : Wm X (.If c q1 q2 pos :: rest) D σ H :=
  w_cons ⟨_, ps_if wt_ok wm_ok wm_ok, hc H (Ex.refl H) _ fun H1 e1 => by
    cases t with
    | true =>
      rw [if_pos rfl]
      exact h1 rfl H1 e1
    | false =>
      rw [if_neg (by decide)]
      exact h2 rfl H1 e1⟩
/-- an if whose test is false, without else -/
theorem w_no (hc : Et X c σ H false) (h : ∀ H1, Ex H H1 → Wm X rest D σ H1) : Wm X (.If c q1 [] pos :: rest) D σ H := w_if hc (fun z => by cases z) fun _ H1 e1 => w_end (h H1 e1)
theorem w_yes (hc : Et X c σ H true) (h : ∀ H1, Ex H H1 → Wm X q1 { D with nx := Wm X rest D } σ H1) : Wm X (.If c q1 q2 pos :: rest) D σ H := w_if hc (fun _ => h) fun z => by cases z
/-- a test as it comes -/
theorem w_ifW (h : Wt X c σ H fun t H1 => if t = true then Wm X q1 { D with nx := Wm X rest D } σ H1 else Wm X q2 { D with nx := Wm X rest D } σ H1) : Wm X (.If c q1 q2 pos :: rest) D σ H := w_cons ⟨_, ps_if wt_ok wm_ok wm_ok, h⟩
/-! ### loops -/
/-- walking it gives such data -/
def Wk (X : Cx) (tg it : Expr) (σ : L2.St) (B : Hp) (ds : List PyData) : Prop := ∀ H, Ex B H → ∀ R : It → Hp → Prop,
  (∀ (J : It) (H2 : Hp) (G : Hp → Prop), Ex H H2 → G H2 → (∀ H3 H4, G H3 → Ex H3 H4 → G H4) → (∀ l u, H l = some u → (∀ xs, u ≠ .tup xs) → B l = none → G (off l H2)) →
    Walk J ds.length G (fun i H3 x H4 => Ex H3 H4 ∧ ∃ d, ds[i]? = some d ∧ Im H4 x d) → R J H2) → Wi X tg it σ H R

theorem wk_l {tg : Expr} {ds : List PyData} (ha : Ev X e σ H (rF ds)) : Wk X tg e σ H ds := fun H1 e1 R k =>
  ⟨_, pi_list we_ok, ha H1 e1 _ fun v H2 e2 ⟨q, xs, h1, h0, h2, h3⟩ => by
    subst h1
    refine ⟨q, rfl, ⟨xs, SqL.of h2⟩, k _ H2 (fun H3 => H3 q = some (.lst xs) ∧ Ims H3 xs ds) e2 ⟨h2, h3⟩ (fun H3 H4 g e => ⟨e _ _ g.1, g.2.ex e⟩) (fun l u hl hu hB => ?_) ?_⟩
    · have n : q ≠ l := fun z => by rw [z, hl] at h0; cases h0
      exact ⟨by rw [off_ne n]; exact h2, h3.tu (tu_off fun ys z => hu ys (Option.some.inj ((e2 _ _ hl).symm.trans z)))⟩
    · have w := walk_list (K := X.K) (a := q) (xs := xs)
      rw [h3.len] at w
      exact w.mono (fun H g => SqL.of g.1) fun i H x H' hi g y => by
        obtain ⟨y1, y2⟩ := y
        subst y1
        exact ⟨Ex.refl _, g.2.getv y2⟩⟩
/-- a list that is known -/
theorem wk_v {tg : Expr} {ds : List PyData} {q : Addr} {xs : List V} (ha : Ev X e σ H (rV (.ref q))) (h2 : H q = some (.lst xs)) (h3 : Ims H xs ds) : Wk X tg e σ H ds := fun H1 e1 R k =>
  ⟨_, pi_list we_ok, ha H1 e1 _ fun v H2 e2 h1 => by
    have h1 : v = .ref q := h1
    subst h1
    refine ⟨q, rfl, ⟨xs, SqL.of ((e1.trans e2) _ _ h2)⟩, k _ H2 (fun H3 => H3 q = some (.lst xs) ∧ Ims H3 xs ds) e2 ⟨(e1.trans e2) _ _ h2, h3.ex (e1.trans e2)⟩ (fun H3 H4 g e => ⟨e _ _ g.1, g.2.ex e⟩) (fun l u hl hu hB => ?_) ?_⟩
    · have e := ex_off (e1.trans e2) hB
      exact ⟨e _ _ h2, h3.ex e⟩
    · have w := walk_list (K := X.K) (a := q) (xs := xs)
      rw [h3.len] at w
      exact w.mono (fun H g => SqL.of g.1) fun i H x H' hi g y => by
        obtain ⟨y1, y2⟩ := y
        subst y1
        exact ⟨Ex.refl _, g.2.getv y2⟩⟩
theorem wk_t {tg : Expr} {ds : List PyData} (ha : Ev X e σ H (rT ds)) : Wk X tg e σ H ds := fun H1 e1 R k =>
  ⟨_, pi_tup we_ok, ha H1 e1 _ fun v H2 e2 h => by
    obtain ⟨q, xs, h1, h2, h3⟩ := Im.etup h
    subst h1
    refine ⟨q, rfl, ⟨xs, SqT.of h2⟩, k _ H2 (fun H3 => H3 q = some (.tup xs) ∧ Ims H3 xs ds) e2 ⟨h2, h3⟩ (fun H3 H4 g e => ⟨e _ _ g.1, g.2.ex e⟩) (fun l u hl hu hB => ?_) ?_⟩
    · have t := tu_off (l := l) (H := H2) fun ys z => hu ys (Option.some.inj ((e2 _ _ hl).symm.trans z))
      exact ⟨t _ _ h2, h3.tu t⟩
    · have w := walk_tup (K := X.K) (a := q) (xs := xs)
      rw [h3.len] at w
      exact w.mono (fun H g => SqT.of g.1) fun i H x H' hi g y => by
        obtain ⟨y1, y2⟩ := y
        subst y1
        exact ⟨Ex.refl _, g.2.getv y2⟩⟩
/-- the signs of a text -/
def sgs (l : List Nat) : List PyData := l.map fun n => .str (T [n])
theorem wk_s {tg : Expr} {l : List Nat} (ha : Ev X e σ H (rS l)) : Wk X tg e σ H (sgs l) := fun H1 e1 R k =>
  ⟨_, pi_str we_ok, ha H1 e1 _ fun v H2 e2 h => by
    refine ⟨T l, Im.estr h, k _ H2 (fun _ => True) e2 trivial (fun _ _ _ _ => trivial) (fun _ _ _ _ _ => trivial) ?_⟩
    have w := walk_str (z := T l)
    have el : (T l).cps.size = (sgs l).length := by simp [T, sgs]
    rw [el] at w
    exact w.mono (fun _ _ => trivial) fun i H x H' hi g y => by
      obtain ⟨y1, n, y2, y3⟩ := y
      subst y1
      subst y3
      refine ⟨Ex.refl _, .str (T [n]), ?_, .str _⟩
      have y2 : l[i]? = some n := by simpa [T] using y2
      rw [sgs, List.getElem?_map, y2] <;> rfl⟩
/-- lo, lo + 1, .. -/
def rng (lo : Int) (n : Nat) : List PyData := (List.range n).map fun (k : Nat) => .int (lo + (k : Int))
theorem wk_r {tg : Expr} {lo : Int} {n : Nat} {J : It → Prop} (R : It → Hp → Prop) (H2 : Hp) {B H1 : Hp} (e2 : Ex H1 H2)
    (k : ∀ (J : It) (H2 : Hp) (G : Hp → Prop), Ex H1 H2 → G H2 → (∀ H3 H4, G H3 → Ex H3 H4 → G H4) → (∀ l u, H1 l = some u → (∀ xs, u ≠ .tup xs) → B l = none → G (off l H2)) →
    Walk J (rng lo n).length G (fun i H3 x H4 => Ex H3 H4 ∧ ∃ d, (rng lo n)[i]? = some d ∧ Im H4 x d) → R J H2) : R (Itr lo n) H2 := by
  refine k _ H2 (fun _ => True) e2 trivial (fun _ _ _ _ => trivial) (fun _ _ _ _ _ => trivial) ?_
  have w := walk_range (lo := lo) (n := n)
  have el : n = (rng lo n).length := by simp [rng]
  rw [← el]
  exact w.mono (fun _ _ => trivial) fun i H x H' hi g y => by
    obtain ⟨y1, y2⟩ := y
    subst y1
    subst y2
    refine ⟨Ex.refl _, .int (lo + (i : Int)), ?_, .int _⟩
    rw [rng, List.getElem?_map, List.getElem?_range hi] <;> rfl
theorem wk_r1 {tg : Expr} {n : Int} (hm : X.mg "range" = none) (ha : Ev X a σ H (rI n)) (hz : n ≤ 1000000) (h0 : -1000000 ≤ n) (hg : Gl X "range" := by rfl) (hs : starEach [a] X.env = [(false, eval a X.env)] := by rfl) (hs' : starEach [a] X.env = (false, eval a X.env) :: starEach [] X.env := by rfl) :
    Wk X tg (.Call (.Name "range" p) [a] [] pos) σ H (rng 0 n.toNat) := fun H1 e1 R k =>
  ⟨_, pi_range1 hg hm wa_ok hs, eac ha ea0 hs' H1 e1 _ fun vs H2 e2 hv => by
    obtain ⟨v, rfl, h1⟩ := one_arg hv
    exact ⟨n, by rw [Im.eint h1], by omega, by omega, wk_r (tg := tg) (J := fun _ => True) R H2 e2 k⟩⟩
theorem wk_r2 {tg : Expr} {lo n : Int} (hm : X.mg "range" = none) (ha : Ev X a σ H (rI lo)) (hb : Ev X b σ H (rI n)) (hz : n ≤ 1000000) (h0 : -1000000 ≤ n) (hz' : lo ≤ 1000000) (h0' : -1000000 ≤ lo) (hg : Gl X "range" := by rfl) (hs : starEach [a, b] X.env = [(false, eval a X.env), (false, eval b X.env)] := by rfl)
    (hs2 : starEach [b] X.env = [(false, eval b X.env)] := by rfl) (hs' : starEach [a, b] X.env = (false, eval a X.env) :: starEach [b] X.env := by rfl) (hs2' : starEach [b] X.env = (false, eval b X.env) :: starEach [] X.env := by rfl) :
    Wk X tg (.Call (.Name "range" p) [a, b] [] pos) σ H (rng lo (n - lo).toNat) := fun H1 e1 R k =>
  ⟨_, pi_range2 hg hm wa_ok hs hs2, eac ha (eac hb ea0 hs2') hs' H1 e1 _ fun vs H2 e2 hv => by
    obtain ⟨v, w, rfl, h1, h2⟩ := two_arg hv
    exact ⟨lo, n, by rw [Im.eint h1, Im.eint h2], by omega, wk_r (tg := tg) (J := fun _ => True) R H2 e2 k⟩⟩
/-- the pairs of enumerate -/
def enu (ds : List PyData) : List PyData := ds.zipIdx.map fun d => .tuple [.int (d.2 : Int), d.1]
theorem wk_e {elts : List Expr} {kk : Nat} {tpos : Pos} {ds : List PyData} (hm : X.mg "enumerate" = none) (ha : Ev X a σ H (rF ds)) (hg : Gl X "enumerate" := by rfl) (hs : starEach [a] X.env = [(false, eval a X.env)] := by rfl) (hs' : starEach [a] X.env = (false, eval a X.env) :: starEach [] X.env := by rfl) :
    Wk X (.Tuple elts kk tpos) (.Call (.Name "enumerate" p) [a] [] pos) σ H (enu ds) := fun H1 e1 R k =>
  ⟨_, pi_enum hg hm wa_ok hs, eac ha ea0 hs' H1 e1 _ fun vs H2 e2 hv => by
    obtain ⟨v, rfl, q, xs, h1, h0, h2, h3⟩ := one_arg hv
    subst h1
    refine ⟨q, xs, rfl, SqL.of h2, k _ H2 (fun H3 => H3 q = some (.lst xs) ∧ Ims H3 xs ds) e2 ⟨h2, h3⟩ (fun H3 H4 g e => ⟨e _ _ g.1, g.2.ex e⟩) (fun l u hl hu hB => ?_) ?_⟩
    · have n : q ≠ l := fun z => by rw [z, hl] at h0; cases h0
      exact ⟨by rw [off_ne n]; exact h2, h3.tu (tu_off fun ys z => hu ys (Option.some.inj ((e2 _ _ hl).symm.trans z)))⟩
    · have w := walk_enum (K := X.K) (a := q) (xs := xs)
      have el : xs.length = (enu ds).length := by rw [h3.len, enu, List.length_map, List.length_zipIdx]
      rw [el] at w
      exact w.mono (fun H g => SqL.of g.1) fun i H x H' hi g y => by
        obtain ⟨t, y1, y2, rfl, y3, rfl, y4, y5⟩ := y
        cases y4
        obtain ⟨d, d1, d2⟩ := g.2.getv y5
        refine ⟨Ex.new y3, .tuple [.int (i : Int), d], ?_, .tup upd_same (.cons (.int _) (.one (d2.ex (Ex.new y3))))⟩
        rw [enu, List.getElem?_map, List.getElem?_zipIdx, d1, Option.map_some, Option.map_some, Nat.zero_add]⟩
/-- for tg in it: body. B: the heap without what the body changes -/
theorem w_for {tg it : Expr} {ds : List PyData} {B : Hp} (hc : X.calm = true) (w : Wk X tg it σ B ds) (eB : Ex B H)
    (k : ∀ (H1 : Hp) (G : Hp → Prop), Ex H H1 → G H1 → (∀ H3 H4, G H3 → Ex H3 H4 → G H4) → (∀ l u, H l = some u → (∀ xs, u ≠ .tup xs) → B l = none → G (off l H1)) →
      ∃ Pv : Nat → L2.St → Hp → Prop, Pv 0 σ H1 ∧ (∀ i σ' H', i ≤ ds.length → Pv i σ' H' → G H') ∧
        (∀ i d σ' H' x H2, ds[i]? = some d → Pv i σ' H' → Ex H' H2 → Im H2 x d → Wg X tg x σ' H2 fun σ2 H3 => Wm X body { D with nx := Pv (i + 1), ct := Pv (i + 1), bk := Wm X rest D } σ2 H3) ∧
        ∀ σ' H', Pv ds.length σ' H' → Wm X rest D σ' H') (hp : PassesOwn (model X.prog X.w) X.A X.env X.xe := by exact PassesOwn.never) (hs : ∀ x, foldedSetIterable it X.env x = pure x := by intro _; rfl) : Wm X (.For tg it body [] pos :: rest) D σ H :=
  w_cons ⟨_, ps_for hp hc wi_ok wg_ok wm_ok hs, w H eB _ fun J H1 G e1 g1 g2 g3 wk => by
    obtain ⟨Pv, p0, pG, ps, pd⟩ := k H1 G e1 g1 g2 g3
    refine for_it wk (D := { D with nx := Wm X rest D }) Pv p0 pG (fun i x σ' H' H2 hi p y => ?_) pd
    obtain ⟨ex, d, hd, im⟩ := y
    exact ps i d σ' H' x H2 hd p ex im⟩
/-- while c: body, by a measure -/
theorem w_while (μ : L2.St → Hp → Nat) (Pv : L2.St → Hp → Prop) (h0 : Pv σ H)
    (hs : ∀ σ' H', Pv σ' H' → ∃ t, Et X c σ' H' t ∧ (t = true → ∀ H1, Ex H' H1 → Wm X body { D with nx := fun σ2 H2 => μ σ2 H2 < μ σ' H' ∧ Pv σ2 H2, ct := fun σ2 H2 => μ σ2 H2 < μ σ' H' ∧ Pv σ2 H2, bk := Wm X rest D } σ' H1) ∧ (t = false → ∀ H1, Ex H' H1 → Wm X rest D σ' H1))
    (hp : PassesOwn (model X.prog X.w) X.A X.env X.xe := by exact PassesOwn.never) : Wm X (.While c body [] pos :: rest) D σ H :=
  w_cons ⟨_, ps_while hp wt_ok wm_ok, fun m σ' H' => μ σ' H' = m ∧ Pv σ' H', ⟨_, rfl, h0⟩, fun m σ' H' hm => by
    obtain ⟨e, p⟩ := hm
    subst e
    obtain ⟨t, h1, h2, h3⟩ := hs σ' H' p
    refine h1 H' (Ex.refl H') _ fun H1 e1 => ?_
    cases t with
    | true =>
      rw [if_pos rfl]
      exact ⟨_, fun σ2 H2 q => ⟨_, q.1, rfl, q.2⟩, h2 rfl H1 e1⟩
    | false =>
      rw [if_neg (by decide)]
      exact h3 rfl H1 e1⟩
/-! ### comprehensions -/
theorem wipe_get {σ : L2.St} {i : Nat} : ∀ {vs : List Nat}, (wipe σ vs)[i]? = if i ∈ vs then (if i < σ.length then some none else none) else σ[i]?
  | [] => by simp [wipe]
  | v :: vs => by
    unfold wipe
    by_cases h : v = i
    · subst h
      rw [if_pos (List.mem_cons_self ..)]
      by_cases h2 : v < σ.length
      · rw [if_pos h2, List.getElem?_set_self (by rw [wipe_length]; exact h2)]
      · rw [if_neg h2, List.getElem?_eq_none (by rw [List.length_set, wipe_length]; omega)]
    · rw [List.getElem?_set_ne h, wipe_get (vs := vs)]
      simp only [List.mem_cons, show ¬ i = v from fun z => h z.symm, false_or]
theorem wipe_set {σ : L2.St} {vs : List Nat} {j : Nat} {x : Option V} (h : j ∈ vs) : wipe (σ.set j x) vs = wipe σ vs := by
  apply List.ext_getElem?
  intro i
  rw [wipe_get, wipe_get, List.length_set]
  by_cases hi : i ∈ vs
  · rw [if_pos hi, if_pos hi]
  · rw [if_neg hi, if_neg hi, List.getElem?_set_ne (fun z => hi (by rw [← z]; exact h))]
theorem wipe_wipe {σ : L2.St} {vs : List Nat} : wipe (wipe σ vs) vs = wipe σ vs := by
  apply List.ext_getElem?
  intro i
  rw [wipe_get, wipe_length]
  by_cases hi : i ∈ vs
  · rw [if_pos hi, wipe_get, if_pos hi]
  · rw [if_neg hi]
/-- what holds of each context of a comprehension's block -/
abbrev Bk (X : Cx) (scope : Scope) (Φ : Cx → Prop) : Prop := ∀ (s : Shared) (H0 : Hp) (C : Addr) (cl : List (Str × Addr)) (fp : List Addr), Φ (X.blk s H0 scope (compEnvC scope cl C X.env) fp)
/-- the tests of a comprehension -/
def Ets (X : Cx) (ifs : List Expr) (σ : L2.St) (H : Hp) (t : Bool) : Prop := ∀ H1, Ex H H1 → ∀ Q : Bool → Hp → Prop, (∀ H2, Ex H1 H2 → Q t H2) → ∃ u : TT, PTs X ifs u ∧ u σ H1 Q
theorem ets0 : Ets X [] σ H true := fun H1 _ Q q => ⟨_, pts_nil, q H1 (Ex.refl H1)⟩
theorem ets1 {t : Bool} (h : Et X c σ H t) : Ets X [c] σ H t := fun H1 e1 Q q => ⟨_, pts_one wt_ok, h H1 e1 Q q⟩
/-- one turn of it: d the item's data, t whether it is taken, g what it gives -/
def Tn (X : Cx) (tg : Expr) (ifs : List Expr) (elt : Expr) (scope : Scope) (vs : List Nat) (σ : L2.St) (B : Hp) (d : PyData) (t : Bool) (g : PyData) : Prop :=
  ∀ x H, Ex B H → Im H x d → ∃ σ2, Bk X scope (fun Y => Tg Y tg x (wipe σ vs) H σ2) ∧ wipe σ2 vs = wipe σ vs ∧ Bk X scope (fun Y => Ets Y ifs σ2 H t) ∧ (t = true → Bk X scope fun Y => Ev Y elt σ2 H (rD g))
def picks : List (Bool × PyData) → List PyData
  | [] => []
  | (true, d) :: r => d :: picks r
  | (false, _) :: r => picks r
theorem picks_len : ∀ l : List (Bool × PyData), (picks l).length ≤ l.length
  | [] => Nat.le_refl _
  | (true, d) :: r => by simp only [picks, List.length_cons]; have := picks_len r; omega
  | (false, _) :: r => by simp only [picks, List.length_cons]; have := picks_len r; omega
theorem picks_snoc (t : Bool) (d : PyData) : ∀ l : List (Bool × PyData), picks (l ++ [(t, d)]) = if t = true then picks l ++ [d] else picks l
  | [] => by cases t <;> rfl
  | (true, d') :: r => by
    show d' :: picks (r ++ [(t, d)]) = _
    rw [picks_snoc t d r]
    cases t <;> rfl
  | (false, d') :: r => by
    show picks (r ++ [(t, d)]) = _
    rw [picks_snoc t d r]
    cases t <;> rfl
def cG (X : Cx) (scope : Scope) (tg : Expr) : TG := fun x σ H Q => Bk X scope fun Y => Wg Y tg x σ H Q
def cT (X : Cx) (scope : Scope) (ifs : List Expr) : TT := fun σ H Q => Bk X scope fun Y => ∃ u : TT, PTs Y ifs u ∧ u σ H Q
def cE (X : Cx) (scope : Scope) (elt : Expr) : TE := fun σ H Q => Bk X scope fun Y => We Y elt σ H Q
/-- what a comprehension makes -/
def Lc (X : Cx) (tg it elt : Expr) (ifs : List Expr) (scope : Scope) (own : List (Str × Nat)) (σ : L2.St) (H : Hp) (out : List PyData) : Prop := ∀ H1, Ex H H1 → ∀ Q : VK, Go (rF out) H1 Q → tLc (Wi X tg it) (cG X scope tg) (cT X scope ifs) (cE X scope elt) (own.map (·.2)) σ H1 Q
theorem cg_ok {scope : Scope} {tg : Expr} (s : Shared) (H0 : Hp) (C : Addr) (cl : List (Str × Addr)) (fp : List Addr) : PG (X.blk s H0 scope (compEnvC scope cl C X.env) fp) tg (cG X scope tg) := ⟨fun pins s' σ H v u Q I r z => wg_ok.run pins s' σ H v u Q I r (z s H0 C cl fp)⟩
theorem ct_ok {scope : Scope} {ifs : List Expr} (s : Shared) (H0 : Hp) (C : Addr) (cl : List (Str × Addr)) (fp : List Addr) : PTs (X.blk s H0 scope (compEnvC scope cl C X.env) fp) ifs (cT X scope ifs) := ⟨fun pins s' σ H Q I z => by
  obtain ⟨u, h1, h2⟩ := z s H0 C cl fp
  exact h1.run pins s' σ H Q I h2⟩
theorem ce_ok {scope : Scope} {elt : Expr} (s : Shared) (H0 : Hp) (C : Addr) (cl : List (Str × Addr)) (fp : List Addr) : PE (X.blk s H0 scope (compEnvC scope cl C X.env) fp) elt (cE X scope elt) := ⟨fun pins s' σ H Q I z => we_ok.run pins s' σ H Q I (z s H0 C cl fp)⟩
theorem ev_lc {tg it elt : Expr} {ifs : List Expr} {scope : Scope} {own : List (Str × Nat)} {out : List PyData} (L : Lc X tg it elt ifs scope own σ H out) (hc : X.calm = true) (hN : X.N.Nodup) (ok : blkC X.N X.env.scope scope own = true := by rfl) (hs : ∀ x, foldedSetIterable it X.env x = pure x := by intro _; rfl) :
    Ev X (.ListComp elt [⟨tg, it, ifs, 0⟩] scope pos) σ H (rF out) := fun H1 e1 Q q => ⟨_, pe_lc hc hN wi_ok (blkOk_by ok) cg_ok ct_ok ce_ok hs, L H1 e1 Q q⟩
/-- name = [..] -/
theorem w_lc {i : Nat} {y : Str} {py spos : Pos} {tg it elt : Expr} {ifs : List Expr} {scope : Scope} {own : List (Str × Nat)} {out : List PyData} (L : Lc X tg it elt ifs scope own σ H out) (hc : X.calm = true) (hN : X.N.Nodup)
    (k : ∀ v H1, Ex H H1 → (rF out).r H v H1 → Wm X rest D (σ.set i (some v)) H1) (ok : blkC X.N X.env.scope scope own = true := by rfl) (hi : X.N[i]? = some y := by rfl) (hyl : X.env.scope.names.lookup y = some .local := by rfl)
    (hsw : swapsWith (.ListComp elt [⟨tg, it, ifs, 0⟩] scope pos) (some (.Name y py)) spos.line X.env = pure true := by exact sw_true rfl rfl rfl rfl) (hs : ∀ x, foldedSetIterable it X.env x = pure x := by intro _; rfl) :
    Wm X (.Assign [.Name y py] (.ListComp elt [⟨tg, it, ifs, 0⟩] scope pos) spos :: rest) D σ H :=
  w_cons ⟨_, ps_setLc hc hN hi hyl hsw wi_ok (blkOk_by ok) cg_ok ct_ok ce_ok hs, L H (Ex.refl H) _ fun v H1 e1 h => k v H1 e1 h⟩
/-- the list that is made, by its turns ts -/
theorem lc_turns {tg it elt : Expr} {ifs : List Expr} {scope : Scope} {own : List (Str × Nat)} {ds : List PyData} (ts : List (Bool × PyData)) (w : Wk X tg it σ H ds)
    (hl : ts.length = ds.length) (hz : ds.length ≤ 1000000) (h : ∀ (i : Nat) (d : PyData) (t : Bool × PyData), ds[i]? = some d → ts[i]? = some t → Tn X tg ifs elt scope (own.map (·.2)) σ H d t.1 t.2) :
    Lc X tg it elt ifs scope own σ H (picks ts) := fun H1 e1 Q q => by
  refine w H1 e1 _ fun J H2 G e2 g1 g2 g3 wk Dl hD => ?_
  refine lc_it wk (g := cG X scope tg) (tt := cT X scope ifs) (te := cE X scope elt) (vs := own.map (·.2)) (σ := σ) (Qd := Q (.ref Dl)) (fun i H' => Ex H2 H' ∧ ∃ xs, H' Dl = some (.lst xs) ∧ Ims H' xs (picks (ts.take i))) ⟨Ex.new hD, [], upd_same, .nil⟩ (fun i H' _ p => g2 _ _ g1 p.1) (fun i x H' H3 hi p y => ?_) (fun H' p => ?_)
  · obtain ⟨p1, xs, p2, p3⟩ := p
    obtain ⟨e3, d, hd, im⟩ := y
    have hi' : i < ts.length := by omega
    have ht := List.getElem?_eq_getElem hi'
    obtain ⟨σ2, t1, t2, t3, t4⟩ := h i d _ hd ht x H3 (((e1.trans e2).trans p1).trans e3) im
    have tk : ts.take (i + 1) = ts.take i ++ [ts[i]] := by rw [List.take_succ, ht] <;> rfl
    have pk := picks_snoc (ts[i]).1 (ts[i]).2 (ts.take i)
    rw [show ((ts[i]).1, (ts[i]).2) = ts[i] from rfl, ← tk] at pk
    refine fun s H0 C cl fp => t1 s H0 C cl fp _ ⟨t2, fun s H0 C cl fp => t3 s H0 C cl fp H3 (Ex.refl _) _ fun H4 e4 => ?_⟩
    have lz : xs.length < sizeLine := by
      rw [p3.len, sizeLine_eq]
      have z1 := picks_len (ts.take i)
      have z2 := List.length_take_le i ts
      omega
    cases hb : (ts[i]).1 with
    | true =>
      rw [if_pos rfl]
      refine fun s H0 C cl fp => t4 hb s H0 C cl fp H4 e4 _ fun v H5 e5 h5 => ⟨xs, e5 _ _ (e4 _ _ (e3 _ _ p2)), lz, fun a u z => ?_, xs ++ [v], upd_same, ?_⟩
      · rw [upd_ne (ne_of_none z hD)]
        exact e5 _ _ (e4 _ _ (e3 _ _ (p1 a u z)))
      · rw [pk, hb, if_pos rfl]
        have tu : Tu H5 (upd H5 Dl (.lst (xs ++ [v]))) := fun a ys z => by
          by_cases n : a = Dl
          · have q0 := e5 _ _ (e4 _ _ (e3 _ _ p2))
            rw [n, q0] at z
            cases z
          · rw [upd_ne n]
            exact z
        exact ((p3.ex ((e3.trans e4).trans e5)).snoc h5).tu tu
    | false =>
      rw [if_neg (by decide)]
      refine ⟨(p1.trans e3).trans e4, xs, e4 _ _ (e3 _ _ p2), ?_⟩
      rw [pk, hb, if_neg (by decide)]
      exact p3.ex (e3.trans e4)
  · obtain ⟨p1, xs, p2, p3⟩ := p
    rw [← hl, List.take_length] at p3
    exact q _ H' (e2.trans p1) ⟨Dl, xs, rfl, Evl.fresh_back e2 hD, p2, p3⟩
theorem picks_map {α : Type} (c : α → Bool) (g : α → PyData) : ∀ xs : List α, picks (xs.map fun a => (c a, g a)) = (xs.filter c).map g
  | [] => rfl
  | x :: xs => by
    have ih := picks_map c g xs
    cases h : c x with
    | true =>
      rw [List.filter_cons, if_pos h, List.map_cons, List.map_cons, h]
      show g x :: picks _ = _
      rw [ih]
    | false =>
      rw [List.filter_cons, if_neg (by rw [h]; decide), List.map_cons, h]
      exact ih
/-- by items -/
theorem lc_if {α : Type} {tg it elt : Expr} {ifs : List Expr} {scope : Scope} {ds : List PyData} {own : List (Str × Nat)} (xs : List α) (enc : α → PyData) (c : α → Bool) (g : α → PyData) (w : Wk X tg it σ H ds) (hd : ds = xs.map enc) (hz : xs.length ≤ 1000000)
    (h : ∀ a, a ∈ xs → Tn X tg ifs elt scope (own.map (·.2)) σ H (enc a) (c a) (g a)) : Lc X tg it elt ifs scope own σ H ((xs.filter c).map g) := by
  subst hd
  have q := lc_turns (elt := elt) (ifs := ifs) (own := own) (scope := scope) (xs.map fun a => (c a, g a)) w (by rw [List.length_map, List.length_map]) (by rw [List.length_map]; exact hz) (fun i d t h1 h2 => by
    rw [List.getElem?_map] at h1 h2
    cases e : xs[i]? with
    | none => rw [e] at h1; cases h1
    | some a =>
      rw [e] at h1 h2
      cases h1
      cases h2
      exact h a (List.mem_of_getElem? e))
  rw [picks_map] at q
  exact q
theorem filter_yes {α : Type} (xs : List α) : xs.filter (fun _ => true) = xs := by
  rw [List.filter_eq_self]
  exact fun _ _ => rfl
theorem lc_all {α : Type} {tg it elt : Expr} {scope : Scope} {ds : List PyData} {own : List (Str × Nat)} (xs : List α) (enc : α → PyData) (g : α → PyData) (w : Wk X tg it σ H ds) (hd : ds = xs.map enc) (hz : xs.length ≤ 1000000)
    (h : ∀ a, a ∈ xs → Tn X tg [] elt scope (own.map (·.2)) σ H (enc a) true (g a)) : Lc X tg it elt [] scope own σ H (xs.map g) := by
  have q := lc_if (elt := elt) (ifs := []) xs enc (fun _ => true) g w hd hz h
  rw [filter_yes] at q
  exact q
/-- a turn whose target is a name -/
theorem tn_n {j : Nat} {nm : Str} {ifs : List Expr} {elt : Expr} {scope : Scope} {vs : List Nat} {B : Hp} {d g : PyData} {t : Bool} (hN : X.N.Nodup)
    (h : ∀ x H, Ex B H → Im H x d → Bk X scope (fun Y => Ets Y ifs ((wipe σ vs).set j (some x)) H t) ∧ (t = true → Bk X scope fun Y => Ev Y elt ((wipe σ vs).set j (some x)) H (rD g))) (hj : j ∈ vs := by decide) (hi : X.N[j]? = some nm := by rfl)
    (hx : Bk X scope fun Y => Loc Y.env.scope nm := by intro _ _ _ _ _; first | exact .inl rfl | exact .inr rfl) (hf : Bk X scope fun Y => Y.fn nm = true ∨ Y.env.scope.names.lookup nm = some .local := by intro _ _ _ _ _; first | exact .inr rfl | exact .inl rfl) :
    Tn X (.Name nm pos) ifs elt scope vs σ B d t g := fun x H e im => ⟨_, fun s H0 C cl fp => tg_n (X := X.blk s H0 scope (compEnvC scope cl C X.env) fp) hN hi (hx s H0 C cl fp) (hf s H0 C cl fp), by rw [wipe_set hj, wipe_wipe], (h x H e im).1, (h x H e im).2⟩
theorem tn_0 {j : Nat} {nm : Str} {elt : Expr} {scope : Scope} {vs : List Nat} {B : Hp} {d g : PyData} (hN : X.N.Nodup)
    (h : ∀ x H, Ex B H → Im H x d → Bk X scope fun Y => Ev Y elt ((wipe σ vs).set j (some x)) H (rD g)) (hj : j ∈ vs := by decide) (hi : X.N[j]? = some nm := by rfl)
    (hx : Bk X scope fun Y => Loc Y.env.scope nm := by intro _ _ _ _ _; first | exact .inl rfl | exact .inr rfl) (hf : Bk X scope fun Y => Y.fn nm = true ∨ Y.env.scope.names.lookup nm = some .local := by intro _ _ _ _ _; first | exact .inr rfl | exact .inl rfl) :
    Tn X (.Name nm pos) [] elt scope vs σ B d true g := tn_n hN (fun x H e im => ⟨fun _ _ _ _ _ => ets0, fun _ => h x H e im⟩) hj hi hx hf
/-- a turn whose target is a pair of names -/
theorem tn_t2 {i j : Nat} {x y : Str} {kt : Nat} {ifs : List Expr} {elt : Expr} {scope : Scope} {vs : List Nat} {B : Hp} {d1 d2 g : PyData} {t : Bool} (hc : X.calm = true) (hN : X.N.Nodup)
    (h : ∀ v w H, Ex B H → Im H v d1 → Im H w d2 → Bk X scope (fun Y => Ets Y ifs (((wipe σ vs).set i (some v)).set j (some w)) H t) ∧ (t = true → Bk X scope fun Y => Ev Y elt (((wipe σ vs).set i (some v)).set j (some w)) H (rD g)))
    (hiv : i ∈ vs := by decide) (hjv : j ∈ vs := by decide) (hi : X.N[i]? = some x := by rfl) (hj : X.N[j]? = some y := by rfl)
    (hx : Bk X scope fun Y => Loc Y.env.scope x := by intro _ _ _ _ _; first | exact .inl rfl | exact .inr rfl) (hy : Bk X scope fun Y => Loc Y.env.scope y := by intro _ _ _ _ _; first | exact .inl rfl | exact .inr rfl)
    (hf : Bk X scope fun Y => Y.fn x = true ∨ Y.env.scope.names.lookup x = some .local := by intro _ _ _ _ _; first | exact .inr rfl | exact .inl rfl) (hf2 : Bk X scope fun Y => Y.fn y = true ∨ Y.env.scope.names.lookup y = some .local := by intro _ _ _ _ _; first | exact .inr rfl | exact .inl rfl) :
    Tn X (.Tuple [.Name x p, .Name y p2] kt pos) ifs elt scope vs σ B (.tuple [d1, d2]) t g := fun z H e im => by
  obtain ⟨q, xs, rfl, h2, h3⟩ := Im.etup im
  cases h3 with
  | cons m1 h3 =>
    cases h3 with
    | cons m2 h3 =>
      cases h3
      exact ⟨_, fun s H0 C cl fp => tg_t2 (X := X.blk s H0 scope (compEnvC scope cl C X.env) fp) hc hN h2 hi hj (hx s H0 C cl fp) (hy s H0 C cl fp) (hf s H0 C cl fp) (hf2 s H0 C cl fp), by rw [wipe_set hjv, wipe_set hiv, wipe_wipe], (h _ _ H e m1 m2).1, (h _ _ H e m1 m2).2⟩
theorem tn_20 {i j : Nat} {x y : Str} {kt : Nat} {elt : Expr} {scope : Scope} {vs : List Nat} {B : Hp} {d1 d2 g : PyData} (hc : X.calm = true) (hN : X.N.Nodup)
    (h : ∀ v w H, Ex B H → Im H v d1 → Im H w d2 → Bk X scope fun Y => Ev Y elt (((wipe σ vs).set i (some v)).set j (some w)) H (rD g))
    (hiv : i ∈ vs := by decide) (hjv : j ∈ vs := by decide) (hi : X.N[i]? = some x := by rfl) (hj : X.N[j]? = some y := by rfl)
    (hx : Bk X scope fun Y => Loc Y.env.scope x := by intro _ _ _ _ _; first | exact .inl rfl | exact .inr rfl) (hy : Bk X scope fun Y => Loc Y.env.scope y := by intro _ _ _ _ _; first | exact .inl rfl | exact .inr rfl)
    (hf : Bk X scope fun Y => Y.fn x = true ∨ Y.env.scope.names.lookup x = some .local := by intro _ _ _ _ _; first | exact .inr rfl | exact .inl rfl) (hf2 : Bk X scope fun Y => Y.fn y = true ∨ Y.env.scope.names.lookup y = some .local := by intro _ _ _ _ _; first | exact .inr rfl | exact .inl rfl) :
    Tn X (.Tuple [.Name x p, .Name y p2] kt pos) [] elt scope vs σ B (.tuple [d1, d2]) true g := tn_t2 hc hN (fun v w H e m1 m2 => ⟨fun _ _ _ _ _ => ets0, fun _ => h v w H e m1 m2⟩) hiv hjv hi hj hx hy hf hf2
end
end Lk

set_option maxHeartbeats 1000000
/-! The names by slot, of each def. Printed by gen_fun.py. -/
namespace Lk
open PySem PySem.Spec PyProof.Rows L2
abbrev N_is_whole : List Str := ["value"]
abbrev A_is_whole : List Str := ["value"]
theorem sc_is_whole : FnScope N_is_whole A_is_whole (defScope S_is_whole) := ⟨rfl, rfl, rfl, by decide +kernel, rfl, by decide +kernel, by decide +kernel⟩
abbrev N_is_among : List Str := ["value", "least", "most"]
abbrev A_is_among : List Str := ["value", "least", "most"]
theorem sc_is_among : FnScope N_is_among A_is_among (defScope S_is_among) := ⟨rfl, rfl, rfl, by decide +kernel, rfl, by decide +kernel, by decide +kernel⟩
abbrev N_is_list : List Str := ["value"]
abbrev A_is_list : List Str := ["value"]
theorem sc_is_list : FnScope N_is_list A_is_list (defScope S_is_list) := ⟨rfl, rfl, rfl, by decide +kernel, rfl, by decide +kernel, by decide +kernel⟩
abbrev N_is_sign : List Str := ["value"]
abbrev A_is_sign : List Str := ["value"]
theorem sc_is_sign : FnScope N_is_sign A_is_sign (defScope S_is_sign) := ⟨rfl, rfl, rfl, by decide +kernel, rfl, by decide +kernel, by decide +kernel⟩
abbrev N_need_signs : List Str := ["signs", "place", "sign"]
abbrev A_need_signs : List Str := ["signs"]
theorem sc_need_signs : FnScope N_need_signs A_need_signs (defScope S_need_signs) := ⟨rfl, rfl, rfl, by decide +kernel, rfl, by decide +kernel, by decide +kernel⟩
abbrev N_is_unit : List Str := ["value"]
abbrev A_is_unit : List Str := ["value"]
theorem sc_is_unit : FnScope N_is_unit A_is_unit (defScope S_is_unit) := ⟨rfl, rfl, rfl, by decide +kernel, rfl, by decide +kernel, by decide +kernel⟩
abbrev N_is_sequence : List Str := ["signs", "value", "sign"]
abbrev A_is_sequence : List Str := ["signs", "value"]
theorem sc_is_sequence : FnScope N_is_sequence A_is_sequence (defScope S_is_sequence) := ⟨rfl, rfl, rfl, by decide +kernel, rfl, by decide +kernel, by decide +kernel⟩
abbrev N_are_units : List Str := ["value", "unit"]
abbrev A_are_units : List Str := ["value"]
theorem sc_are_units : FnScope N_are_units A_are_units (defScope S_are_units) := ⟨rfl, rfl, rfl, by decide +kernel, rfl, by decide +kernel, by decide +kernel⟩
abbrev N_is_entry : List Str := ["signs", "value"]
abbrev A_is_entry : List Str := ["signs", "value"]
theorem sc_is_entry : FnScope N_is_entry A_is_entry (defScope S_is_entry) := ⟨rfl, rfl, rfl, by decide +kernel, rfl, by decide +kernel, by decide +kernel⟩
abbrev N_need_entries : List Str := ["signs", "entries", "found", "place", "entry", "sign"]
abbrev A_need_entries : List Str := ["signs", "entries"]
theorem sc_need_entries : FnScope N_need_entries A_need_entries (defScope S_need_entries) := ⟨rfl, rfl, rfl, by decide +kernel, rfl, by decide +kernel, by decide +kernel⟩
abbrev N_Table___init__ : List Str := ["self", "signs", "entries", "known", "sequence", "begun", "many"]
abbrev A_Table___init__ : List Str := ["self", "signs", "entries"]
theorem sc_Table___init__ : FnScope N_Table___init__ A_Table___init__ (defScope S_Table___init__) := ⟨rfl, rfl, rfl, by decide +kernel, rfl, by decide +kernel, by decide +kernel⟩
abbrev N_Table___eq__ : List Str := ["self", "other"]
abbrev A_Table___eq__ : List Str := ["self", "other"]
theorem sc_Table___eq__ : FnScope N_Table___eq__ A_Table___eq__ (defScope S_Table___eq__) := ⟨rfl, rfl, rfl, by decide +kernel, rfl, by decide +kernel, by decide +kernel⟩
abbrev N_need_text : List Str := ["table", "value", "sign"]
abbrev A_need_text : List Str := ["table", "value"]
theorem sc_need_text : FnScope N_need_text A_need_text (defScope S_need_text) := ⟨rfl, rfl, rfl, by decide +kernel, rfl, by decide +kernel, by decide +kernel⟩
abbrev N_first_piece : List Str := ["table", "text", "many"]
abbrev A_first_piece : List Str := ["table", "text"]
theorem sc_first_piece : FnScope N_first_piece A_first_piece (defScope S_first_piece) := ⟨rfl, rfl, rfl, by decide +kernel, rfl, by decide +kernel, by decide +kernel⟩
abbrev N_cut_all : List Str := ["table", "text", "found"]
abbrev A_cut_all : List Str := ["table", "text"]
theorem sc_cut_all : FnScope N_cut_all A_cut_all (defScope S_cut_all) := ⟨rfl, rfl, rfl, by decide +kernel, rfl, by decide +kernel, by decide +kernel⟩
abbrev N_units_of : List Str := ["table", "sequences", "sequence", "unit"]
abbrev A_units_of : List Str := ["table", "sequences"]
theorem sc_units_of : FnScope N_units_of A_units_of (defScope S_units_of) := ⟨rfl, rfl, rfl, by decide +kernel, rfl, by decide +kernel, by decide +kernel⟩
abbrev N_need_strength : List Str := ["strength"]
abbrev A_need_strength : List Str := ["strength"]
theorem sc_need_strength : FnScope N_need_strength A_need_strength (defScope S_need_strength) := ⟨rfl, rfl, rfl, by decide +kernel, rfl, by decide +kernel, by decide +kernel⟩
abbrev N_key_of : List Str := ["units", "strength", "found", "unit", "level"]
abbrev A_key_of : List Str := ["units", "strength"]
theorem sc_key_of : FnScope N_key_of A_key_of (defScope S_key_of) := ⟨rfl, rfl, rfl, by decide +kernel, rfl, by decide +kernel, by decide +kernel⟩
abbrev N_key_by : List Str := ["table", "strength", "text"]
abbrev A_key_by : List Str := ["table", "strength", "text"]
theorem sc_key_by : FnScope N_key_by A_key_by (defScope S_key_by) := ⟨rfl, rfl, rfl, by decide +kernel, rfl, by decide +kernel, by decide +kernel⟩
abbrev N_order_by : List Str := ["table", "strength", "texts", "keys", "text", "key", "number"]
abbrev A_order_by : List Str := ["table", "strength", "texts"]
theorem sc_order_by : FnScope N_order_by A_order_by (defScope S_order_by) := ⟨rfl, rfl, rfl, by decide +kernel, rfl, by decide +kernel, by decide +kernel⟩
abbrev N_turns_of : List Str := ["places", "found", "low", "here", "high"]
abbrev A_turns_of : List Str := ["places"]
theorem sc_turns_of : FnScope N_turns_of A_turns_of (defScope S_turns_of) := ⟨rfl, rfl, rfl, by decide +kernel, rfl, by decide +kernel, by decide +kernel⟩
abbrev N_Shelf___init__ : List Str := ["self", "table", "strength"]
abbrev A_Shelf___init__ : List Str := ["self", "table", "strength"]
theorem sc_Shelf___init__ : FnScope N_Shelf___init__ A_Shelf___init__ (defScope S_Shelf___init__) := ⟨rfl, rfl, rfl, by decide +kernel, rfl, by decide +kernel, by decide +kernel⟩
abbrev N_Shelf_table : List Str := ["self"]
abbrev A_Shelf_table : List Str := ["self"]
theorem sc_Shelf_table : FnScope N_Shelf_table A_Shelf_table (defScope S_Shelf_table) := ⟨rfl, rfl, rfl, by decide +kernel, rfl, by decide +kernel, by decide +kernel⟩
abbrev N_Shelf_strength : List Str := ["self"]
abbrev A_Shelf_strength : List Str := ["self"]
theorem sc_Shelf_strength : FnScope N_Shelf_strength A_Shelf_strength (defScope S_Shelf_strength) := ⟨rfl, rfl, rfl, by decide +kernel, rfl, by decide +kernel, by decide +kernel⟩
abbrev N_Shelf_line : List Str := ["self", "number"]
abbrev A_Shelf_line : List Str := ["self"]
theorem sc_Shelf_line : FnScope N_Shelf_line A_Shelf_line (defScope S_Shelf_line) := ⟨rfl, rfl, rfl, by decide +kernel, rfl, by decide +kernel, by decide +kernel⟩
abbrev N_Shelf_numbers : List Str := ["self"]
abbrev A_Shelf_numbers : List Str := ["self"]
theorem sc_Shelf_numbers : FnScope N_Shelf_numbers A_Shelf_numbers (defScope S_Shelf_numbers) := ⟨rfl, rfl, rfl, by decide +kernel, rfl, by decide +kernel, by decide +kernel⟩
abbrev N_Shelf___len__ : List Str := ["self"]
abbrev A_Shelf___len__ : List Str := ["self"]
theorem sc_Shelf___len__ : FnScope N_Shelf___len__ A_Shelf___len__ (defScope S_Shelf___len__) := ⟨rfl, rfl, rfl, by decide +kernel, rfl, by decide +kernel, by decide +kernel⟩
abbrev N_Shelf___getitem__ : List Str := ["self", "place"]
abbrev A_Shelf___getitem__ : List Str := ["self", "place"]
theorem sc_Shelf___getitem__ : FnScope N_Shelf___getitem__ A_Shelf___getitem__ (defScope S_Shelf___getitem__) := ⟨rfl, rfl, rfl, by decide +kernel, rfl, by decide +kernel, by decide +kernel⟩
abbrev N_Shelf___iadd__ : List Str := ["self", "other"]
abbrev A_Shelf___iadd__ : List Str := ["self", "other"]
theorem sc_Shelf___iadd__ : FnScope N_Shelf___iadd__ A_Shelf___iadd__ (defScope S_Shelf___iadd__) := ⟨rfl, rfl, rfl, by decide +kernel, rfl, by decide +kernel, by decide +kernel⟩
abbrev N_Shelf_keep : List Str := ["self", "table", "strength", "texts"]
abbrev A_Shelf_keep : List Str := ["self", "table", "strength", "texts"]
theorem sc_Shelf_keep : FnScope N_Shelf_keep A_Shelf_keep (defScope S_Shelf_keep) := ⟨rfl, rfl, rfl, by decide +kernel, rfl, by decide +kernel, by decide +kernel⟩
abbrev N_Shelf_all_keys : List Str := ["self", "text"]
abbrev A_Shelf_all_keys : List Str := ["self"]
theorem sc_Shelf_all_keys : FnScope N_Shelf_all_keys A_Shelf_all_keys (defScope S_Shelf_all_keys) := ⟨rfl, rfl, rfl, by decide +kernel, rfl, by decide +kernel, by decide +kernel⟩
abbrev N_Shelf_key_here : List Str := ["self", "text"]
abbrev A_Shelf_key_here : List Str := ["self", "text"]
theorem sc_Shelf_key_here : FnScope N_Shelf_key_here A_Shelf_key_here (defScope S_Shelf_key_here) := ⟨rfl, rfl, rfl, by decide +kernel, rfl, by decide +kernel, by decide +kernel⟩
abbrev N_Shelf_put : List Str := ["self", "text", "own", "key"]
abbrev A_Shelf_put : List Str := ["self", "text"]
theorem sc_Shelf_put : FnScope N_Shelf_put A_Shelf_put (defScope S_Shelf_put) := ⟨rfl, rfl, rfl, by decide +kernel, rfl, by decide +kernel, by decide +kernel⟩
abbrev N_Shelf_take : List Str := ["self", "text", "number", "place"]
abbrev A_Shelf_take : List Str := ["self", "text"]
theorem sc_Shelf_take : FnScope N_Shelf_take A_Shelf_take (defScope S_Shelf_take) := ⟨rfl, rfl, rfl, by decide +kernel, rfl, by decide +kernel, by decide +kernel⟩
abbrev N_Shelf_groups : List Str := ["self", "found", "place", "key", "many"]
abbrev A_Shelf_groups : List Str := ["self"]
theorem sc_Shelf_groups : FnScope N_Shelf_groups A_Shelf_groups (defScope S_Shelf_groups) := ⟨rfl, rfl, rfl, by decide +kernel, rfl, by decide +kernel, by decide +kernel⟩
abbrev N_Shelf_headings : List Str := ["self", "found", "text", "units", "heading"]
abbrev A_Shelf_headings : List Str := ["self"]
theorem sc_Shelf_headings : FnScope N_Shelf_headings A_Shelf_headings (defScope S_Shelf_headings) := ⟨rfl, rfl, rfl, by decide +kernel, rfl, by decide +kernel, by decide +kernel⟩
abbrev N_Shelf_change : List Str := ["self", "table", "strength", "many"]
abbrev A_Shelf_change : List Str := ["self", "table", "strength"]
theorem sc_Shelf_change : FnScope N_Shelf_change A_Shelf_change (defScope S_Shelf_change) := ⟨rfl, rfl, rfl, by decide +kernel, rfl, by decide +kernel, by decide +kernel⟩
abbrev N_Shelf_places_by : List Str := ["self", "table", "strength", "found", "place", "number"]
abbrev A_Shelf_places_by : List Str := ["self", "table", "strength"]
theorem sc_Shelf_places_by : FnScope N_Shelf_places_by A_Shelf_places_by (defScope S_Shelf_places_by) := ⟨rfl, rfl, rfl, by decide +kernel, rfl, by decide +kernel, by decide +kernel⟩
abbrev N_Shelf_undo : List Str := ["self"]
abbrev A_Shelf_undo : List Str := ["self"]
theorem sc_Shelf_undo : FnScope N_Shelf_undo A_Shelf_undo (defScope S_Shelf_undo) := ⟨rfl, rfl, rfl, by decide +kernel, rfl, by decide +kernel, by decide +kernel⟩
abbrev N__law_mixed : List Str := ["_law_cell", "_law_n", "_law_blend"]
abbrev A__law_mixed : List Str := ["_law_cell", "_law_n"]
theorem sc__law_mixed : FnScope N__law_mixed A__law_mixed (defScope S__law_mixed) := ⟨rfl, rfl, rfl, by decide +kernel, rfl, by decide +kernel, by decide +kernel⟩
abbrev N__law_folded : List Str := ["_law_script", "_law_found", "_law_n", "_law_cell"]
abbrev A__law_folded : List Str := ["_law_script"]
theorem sc__law_folded : FnScope N__law_folded A__law_folded (defScope S__law_folded) := ⟨rfl, rfl, rfl, by decide +kernel, rfl, by decide +kernel, by decide +kernel⟩
abbrev N__law_draw : List Str := ["_law_m", "_law_limit", "_law_n", "_law_lot", "_law_here", "_law_cell"]
abbrev A__law_draw : List Str := ["_law_m", "_law_limit"]
theorem sc__law_draw : FnScope N__law_draw A__law_draw (defScope S__law_draw) := ⟨rfl, rfl, rfl, by decide +kernel, rfl, by decide +kernel, by decide +kernel⟩
abbrev N__law_begun : List Str := ["_law_script", "_law_m", "_law_cell"]
abbrev A__law_begun : List Str := ["_law_script"]
theorem sc__law_begun : FnScope N__law_begun A__law_begun (defScope S__law_begun) := ⟨rfl, rfl, rfl, by decide +kernel, rfl, by decide +kernel, by decide +kernel⟩
abbrev N__law_like : List Str := ["_law_told", "_law_due"]
abbrev A__law_like : List Str := ["_law_told", "_law_due"]
theorem sc__law_like : FnScope N__law_like A__law_like (defScope S__law_like) := ⟨rfl, rfl, rfl, by decide +kernel, rfl, by decide +kernel, by decide +kernel⟩
abbrev N__law_order : List Str := ["_law_m", "_law_many", "_law_rest", "_law_found"]
abbrev A__law_order : List Str := ["_law_m", "_law_many"]
theorem sc__law_order : FnScope N__law_order A__law_order (defScope S__law_order) := ⟨rfl, rfl, rfl, by decide +kernel, rfl, by decide +kernel, by decide +kernel⟩
abbrev N__law_signs : List Str := ["_law_m", "_law_many", "_law_menu", "_law_at"]
abbrev A__law_signs : List Str := ["_law_m", "_law_many"]
theorem sc__law_signs : FnScope N__law_signs A__law_signs (defScope S__law_signs) := ⟨rfl, rfl, rfl, by decide +kernel, rfl, by decide +kernel, by decide +kernel⟩
abbrev N__law_unit : List Str := ["_law_m", "_law_most", "_law_wide"]
abbrev A__law_unit : List Str := ["_law_m", "_law_most"]
theorem sc__law_unit : FnScope N__law_unit A__law_unit (defScope S__law_unit) := ⟨rfl, rfl, rfl, by decide +kernel, rfl, by decide +kernel, by decide +kernel⟩
abbrev N__law_units : List Str := ["_law_m", "_law_most", "_law_turn"]
abbrev A__law_units : List Str := ["_law_m", "_law_most"]
theorem sc__law_units : FnScope N__law_units A__law_units (defScope S__law_units) := ⟨rfl, rfl, rfl, by decide +kernel, rfl, by decide +kernel, by decide +kernel⟩
abbrev N__law_known : List Str := ["_law_m", "_law_signs_here", "_law_longs", "_law_most", "_law_found", "_law_sign", "_law_turn", "_law_own_here", "_law_place"]
abbrev A__law_known : List Str := ["_law_m", "_law_signs_here", "_law_longs", "_law_most"]
theorem sc__law_known : FnScope N__law_known A__law_known (defScope S__law_known) := ⟨rfl, rfl, rfl, by decide +kernel, rfl, by decide +kernel, by decide +kernel⟩
abbrev N__law_table : List Str := ["_law_m", "_law_known_here", "_law_signs_here", "_law_rows", "_law_own_here", "_law_at"]
abbrev A__law_table : List Str := ["_law_m", "_law_known_here", "_law_signs_here"]
theorem sc__law_table : FnScope N__law_table A__law_table (defScope S__law_table) := ⟨rfl, rfl, rfl, by decide +kernel, rfl, by decide +kernel, by decide +kernel⟩
abbrev N__law_text : List Str := ["_law_m", "_law_signs_here", "_law_most", "_law_place"]
abbrev A__law_text : List Str := ["_law_m", "_law_signs_here", "_law_most"]
theorem sc__law_text : FnScope N__law_text A__law_text (defScope S__law_text) := ⟨rfl, rfl, rfl, by decide +kernel, rfl, by decide +kernel, by decide +kernel⟩
abbrev N__law_pieces : List Str := ["_law_known_here", "_law_text_here", "_law_found", "_law_at", "_law_size_so", "_law_many"]
abbrev A__law_pieces : List Str := ["_law_known_here", "_law_text_here"]
theorem sc__law_pieces : FnScope N__law_pieces A__law_pieces (defScope S__law_pieces) := ⟨rfl, rfl, rfl, by decide +kernel, rfl, by decide +kernel, by decide +kernel⟩
abbrev N__law_row : List Str := ["_law_known_here", "_law_text_here", "_law_found", "_law_own_here"]
abbrev A__law_row : List Str := ["_law_known_here", "_law_text_here"]
theorem sc__law_row : FnScope N__law_row A__law_row (defScope S__law_row) := ⟨rfl, rfl, rfl, by decide +kernel, rfl, by decide +kernel, by decide +kernel⟩
abbrev N__law_key : List Str := ["_law_known_here", "_law_text_here", "_law_strength", "_law_units_here", "_law_found", "_law_unit_here", "_law_level"]
abbrev A__law_key : List Str := ["_law_known_here", "_law_text_here", "_law_strength"]
theorem sc__law_key : FnScope N__law_key A__law_key (defScope S__law_key) := ⟨rfl, rfl, rfl, by decide +kernel, rfl, by decide +kernel, by decide +kernel⟩
abbrev N__law_near : List Str := ["_law_m", "_law_signs_here", "_law_text_here", "_law_at", "_law_sign", "_law_some"]
abbrev A__law_near : List Str := ["_law_m", "_law_signs_here", "_law_text_here"]
theorem sc__law_near : FnScope N__law_near A__law_near (defScope S__law_near) := ⟨rfl, rfl, rfl, by decide +kernel, rfl, by decide +kernel, by decide +kernel⟩
abbrev N__law_said : List Str := ["_law_call", "_law_told_so", "_law_error", "e", "_law_found"]
abbrev A__law_said : List Str := ["_law_call"]
theorem sc__law_said : FnScope N__law_said A__law_said (defScope S__law_said) := ⟨rfl, rfl, rfl, by decide +kernel, rfl, by decide +kernel, by decide +kernel⟩
abbrev N__law_line : List Str := ["_law_known_here", "_law_strength", "_law_texts", "_law_rows", "_law_k", "_law_own_here"]
abbrev A__law_line : List Str := ["_law_known_here", "_law_strength", "_law_texts"]
theorem sc__law_line : FnScope N__law_line A__law_line (defScope S__law_line) := ⟨rfl, rfl, rfl, by decide +kernel, rfl, by decide +kernel, by decide +kernel⟩
abbrev N__law_places : List Str := ["_law_own_here", "_law_known_here", "_law_strength", "_law_far", "_law_k"]
abbrev A__law_places : List Str := ["_law_own_here", "_law_known_here", "_law_strength"]
theorem sc__law_places : FnScope N__law_places A__law_places (defScope S__law_places) := ⟨rfl, rfl, rfl, by decide +kernel, rfl, by decide +kernel, by decide +kernel⟩
abbrev N__law_turns : List Str := ["_law_places_here", "_law_found", "_law_low", "_law_high"]
abbrev A__law_turns : List Str := ["_law_places_here"]
theorem sc__law_turns : FnScope N__law_turns A__law_turns (defScope S__law_turns) := ⟨rfl, rfl, rfl, by decide +kernel, rfl, by decide +kernel, by decide +kernel⟩
abbrev N__law_own : List Str := ["_law_m", "_law_signs_here", "_law_known_here", "_law_strength", "_law_own_here"]
abbrev A__law_own : List Str := ["_law_m", "_law_signs_here", "_law_known_here", "_law_strength"]
theorem sc__law_own : FnScope N__law_own A__law_own (defScope S__law_own) := ⟨rfl, rfl, rfl, by decide +kernel, rfl, by decide +kernel, by decide +kernel⟩
abbrev N__law_stands : List Str := ["_law_shelf", "_law_own_here", "_law_texts", "_law_known_here", "_law_line_here", "_law_k", "_law_due", "_law_keys", "_law_text_here", "_law_starts", "_law_groups", "_law_far", "_law_heads", "_law_rows", "_law_head", "_law_spots"]
abbrev A__law_stands : List Str := ["_law_shelf", "_law_own_here"]
theorem sc__law_stands : FnScope N__law_stands A__law_stands (defScope S__law_stands) := ⟨rfl, rfl, rfl, by decide +kernel, rfl, by decide +kernel, by decide +kernel⟩
abbrev N__law_kept : List Str := ["_law_own_here"]
abbrev A__law_kept : List Str := ["_law_own_here"]
theorem sc__law_kept : FnScope N__law_kept A__law_kept (defScope S__law_kept) := ⟨rfl, rfl, rfl, by decide +kernel, rfl, by decide +kernel, by decide +kernel⟩
abbrev N__law_put : List Str := ["_law_shelf", "_law_own_here", "_law_text_here", "_law_known_here", "_law_strength", "_law_key_so", "_law_keys", "_law_far"]
abbrev A__law_put : List Str := ["_law_shelf", "_law_own_here", "_law_text_here"]
theorem sc__law_put : FnScope N__law_put A__law_put (defScope S__law_put) := ⟨rfl, rfl, rfl, by decide +kernel, rfl, by decide +kernel, by decide +kernel⟩
abbrev N__law_taken : List Str := ["_law_shelf", "_law_own_here", "_law_text_here", "_law_texts", "_law_number", "_law_due"]
abbrev A__law_taken : List Str := ["_law_shelf", "_law_own_here", "_law_text_here"]
theorem sc__law_taken : FnScope N__law_taken A__law_taken (defScope S__law_taken) := ⟨rfl, rfl, rfl, by decide +kernel, rfl, by decide +kernel, by decide +kernel⟩
abbrev N__law_changed : List Str := ["_law_m", "_law_shelf", "_law_own_here", "_law_known_here", "_law_strength", "_law_due"]
abbrev A__law_changed : List Str := ["_law_m", "_law_shelf", "_law_own_here", "_law_known_here", "_law_strength"]
theorem sc__law_changed : FnScope N__law_changed A__law_changed (defScope S__law_changed) := ⟨rfl, rfl, rfl, by decide +kernel, rfl, by decide +kernel, by decide +kernel⟩
abbrev N__law_undone : List Str := ["_law_shelf", "_law_own_here", "_law_kept_here"]
abbrev A__law_undone : List Str := ["_law_shelf", "_law_own_here"]
theorem sc__law_undone : FnScope N__law_undone A__law_undone (defScope S__law_undone) := ⟨rfl, rfl, rfl, by decide +kernel, rfl, by decide +kernel, by decide +kernel⟩
abbrev N__law_other : List Str := ["_law_m", "_law_known_here", "_law_signs_here", "_law_far", "_law_place", "_law_own_here"]
abbrev A__law_other : List Str := ["_law_m", "_law_known_here", "_law_signs_here"]
theorem sc__law_other : FnScope N__law_other A__law_other (defScope S__law_other) := ⟨rfl, rfl, rfl, by decide +kernel, rfl, by decide +kernel, by decide +kernel⟩
abbrev N__law_filled : List Str := ["_law_m", "_law_shelf", "_law_own_here", "_law_many", "_law_k", "_law_most", "_law_way", "_law_text_here"]
abbrev A__law_filled : List Str := ["_law_m", "_law_shelf", "_law_own_here", "_law_many"]
theorem sc__law_filled : FnScope N__law_filled A__law_filled (defScope S__law_filled) := ⟨rfl, rfl, rfl, by decide +kernel, rfl, by decide +kernel, by decide +kernel⟩
abbrev N__law_begin_shelf : List Str := ["_law_m", "_law_most", "_law_signs_here", "_law_own_here"]
abbrev A__law_begin_shelf : List Str := ["_law_m", "_law_most"]
theorem sc__law_begin_shelf : FnScope N__law_begin_shelf A__law_begin_shelf (defScope S__law_begin_shelf) := ⟨rfl, rfl, rfl, by decide +kernel, rfl, by decide +kernel, by decide +kernel⟩
abbrev N__law_joined : List Str := ["_law_m", "_law_shelf", "_law_own_here", "_law_far_own", "_law_far", "_law_numbers", "_law_k"]
abbrev A__law_joined : List Str := ["_law_m", "_law_shelf", "_law_own_here"]
theorem sc__law_joined : FnScope N__law_joined A__law_joined (defScope S__law_joined) := ⟨rfl, rfl, rfl, by decide +kernel, rfl, by decide +kernel, by decide +kernel⟩
abbrev N__law_deed : List Str := ["_law_m", "_law_shelf", "_law_own_here", "_law_way", "_law_known_here"]
abbrev A__law_deed : List Str := ["_law_m", "_law_shelf", "_law_own_here"]
theorem sc__law_deed : FnScope N__law_deed A__law_deed (defScope S__law_deed) := ⟨rfl, rfl, rfl, by decide +kernel, rfl, by decide +kernel, by decide +kernel⟩
abbrev N_law : List Str := ["_law_script", "_law_m", "_law_turn", "_law_shelf", "_law_own_here", "_law_again", "_law_one", "_law_other_here", "_law_told_so", "_law_text_here"]
abbrev A_law : List Str := ["_law_script"]
theorem sc_law : FnScope N_law A_law (defScope S_law) := ⟨rfl, rfl, rfl, by decide +kernel, rfl, by decide +kernel, by decide +kernel⟩
end Lk

set_option maxHeartbeats 1000000
/-! The facts of the top, and how a def is proved and called. -/
namespace Lk
open PySem PySem.Spec PyProof.Rows L2
open Evl (Ex)
structure En (w : World) (K : Frag) (mg : Str → Option Value) (base : Heap) : Prop where
  kin : K.In base
  ns : base.Ns mainGlobals mg
  fa : ∀ f ∈ fas, f.ok K = true
  fn : ∀ d ∈ fnl, ∃ fd, FunD K d.name d.qual d.params d.body d.scope (d.dvs K) (d.kws K) (He.fAd K d.at_) fd
  ex : exB K = true
  gt : ∀ d ∈ gts, ∃ fd, FunD K d.name d.qual d.params d.body d.scope d.dfl [] (d.ad K) fd
section
variable {P : Program} {w : World} {K : Frag} {mg : Str → Option Value} {base : Heap}
theorem En.glo (E : En w K mg base) (i : Nat) {x : Str} (h : fas[i]? = some (.glo x) := by rfl) : mg x = some (.ref (He.ga K x)) := He.glo_ok E.kin E.ns (E.fa _ (List.mem_of_getElem? h))
theorem En.free (E : En w K mg base) (i : Nat) {x : Str} (h : fas[i]? = some (.free x) := by rfl) : mg x = none := He.free_ok E.kin E.ns (E.fa _ (List.mem_of_getElem? h))
theorem En.num (E : En w K mg base) (i : Nat) {x : Str} {n : Int} (h : fas[i]? = some (.int x n) := by rfl) : ∃ t, mg x = some (.int n t) := He.int_ok E.kin E.ns (E.fa _ (List.mem_of_getElem? h))
theorem En.len (E : En w K mg base) : mg "len" = none := E.free 66
theorem En.isi (E : En w K mg base) : mg "isinstance" = none := E.free 67
theorem En.rng (E : En w K mg base) : mg "range" = none := E.free 68
theorem En.enum (E : En w K mg base) : mg "enumerate" = none := E.free 69
theorem En.srt (E : En w K mg base) : mg "sorted" = none := E.free 70
theorem En.lst (E : En w K mg base) : mg "list" = none := E.free 71
theorem En.tup (E : En w K mg base) : mg "tuple" = none := E.free 72
theorem En.set (E : En w K mg base) : mg "set" = none := E.free 73
theorem En.dct (E : En w K mg base) : mg "dict" = none := E.free 74
theorem En.max (E : En w K mg base) : mg "max" = none := E.free 75
theorem En.min (E : En w K mg base) : mg "min" = none := E.free 76
theorem En.int (E : En w K mg base) : mg "int" = none := E.free 77
theorem En.bool (E : En w K mg base) : mg "bool" = none := E.free 78
theorem En.str (E : En w K mg base) : mg "str" = none := E.free 79
theorem En.repr (E : En w K mg base) : mg "repr" = none := E.free 80
theorem En.ord (E : En w K mg base) : mg "ord" = none := E.free 81
theorem En.all (E : En w K mg base) : mg "all" = none := E.free 82
theorem En.sup (E : En w K mg base) : mg "super" = none := E.free 83
/-- a def that can be called by its name, at level k; dvs: the defaults that fill up -/
def Cal (P : Program) (w : World) (K : Frag) (mg : Str → Option Value) (base : Heap) (x : Str) (k : Nat) (dvs : List V) (sp : Sp) : Prop :=
  ∃ f fd ps ds, FnOk P w K mg base CX0 k f fd ps sp ∧ mg x = some (.ref f) ∧ PySem.W.keepIn K (.ref f) = true ∧ Binds K fd ps ds ∧ Vals dvs ds
/-- the context of a body -/
abbrev Bx (P : Program) (w : World) (K : Frag) (mg : Str → Option Value) (base : Heap) (N : List Str) (d : He.DefD) (cdv : Value) (A : Around) (outer : List Env) (s : Shared) (H : Hp) (E : XK) : Cx :=
  (cxOf CX0 P w K mg base N d.qual d.scope (He.fAd K d.at_) cdv A outer s H E).nox
/-- the promise of a def without defaults -/
theorem cal_of (E : En w K mg base) (d : He.DefD) {x : Str} {N ps : List Str} {k : Nat} {sp : Sp} (i j : Nat) (S : FnScope N ps d.scope) (len : ∀ vs H Q E, sp vs H Q E → vs.length = ps.length)
    (body : ∀ (cdv : Value) (A : Around) (outer : List Env) (s : Shared) (H : Hp) (vs : List V) (Q : VK) (E : XK), Room k (A.deeper (envOfC d.qual d.scope s.heap.objs.size (He.fAd K d.at_) cdv)) → sp vs H Q E →
      Wm (Bx P w K mg base N d cdv A outer s H E) d.body { nx := fun _ H' => Q .non H', rt := Q } (start N vs) H)
    (hb : ∀ (kV doc pm : Value) (an : Option Addr) (cdv ct : Value) (us : List Value), us.length = ps.length → bindArgs (PySem.W.fnOf d.name d.qual d.params d.body d.scope .none kV doc pm an cdv ct) ⟨us, []⟩ = pure (ps.zip us))
    (hd : fnl[i]? = some d := by rfl) (hg : fas[j]? = some (.glo x) := by rfl) (hx : d.at_ = (x, none) := by rfl) (h0 : d.dfl = [] := by rfl) (h1 : d.kwd = [] := by rfl) : Cal P w K mg base x (k + 1) [] sp := by
  obtain ⟨fd, F⟩ := E.fn d (List.mem_of_getElem? hd)
  have e0 : d.dvs K = [] := by rw [He.DefD.dvs, h0] <;> rfl
  have e1 : d.kws K = [] := by rw [He.DefD.kws, h1] <;> rfl
  rw [e0, e1] at F
  refine ⟨He.fAd K d.at_, fd, ps, [], F.ok S len fun cdv A outer s H vs Q E hr h => ?_, ?_, F.kp, F.bindsN hb, .nil⟩
  · obtain ⟨t, h1, h2⟩ := body cdv A outer s H vs Q E hr h
    exact ⟨t, h1.nox, h2⟩
  · rw [hx]
    exact E.glo j hg
end
section
variable {X : Cx} {σ : L2.St} {H H' : Hp} {e a b c : Expr} {es : List Expr} {pos p p2 : Pos} {ρ ρ1 ρ2 ρ3 : Rp} {ρs : Rps} {x : Str} {k k' : Nat} {dvs : List V} {sp : Sp}
theorem we_call {Q : VK} (C : Cal X.prog X.w X.K X.mg X.base x k dvs sp) (hr : Room k' X.A) (h : Wa X (e :: es) σ H fun vs H1 => sp (vs ++ dvs) H1 Q E0) (hk : k ≤ k' := by decide) (hg : Gl X x := by rfl) (hdb : (x == ("__debug__" : Str)) = false := by decide)
    (he : starEach (e :: es) X.env = (false, eval e X.env) :: starEach es X.env := by rfl) (hpl : (backTo pos (starEach es X.env)).any (·.1) = false := by rfl) : We X (.Call (.Name x p) (e :: es) [] pos) σ H Q := by
  obtain ⟨f, fd, ps, ds, F, hm, hkp, hb, hd⟩ := C
  exact ⟨_, pe_call F (hr.mono hk) hg hm hkp hb hd pass0 wa_ok hdb he hpl, h⟩
theorem ev_call (C : Cal X.prog X.w X.K X.mg X.base x k dvs sp) (hr : Room k' X.A) (ha : Ea X (e :: es) σ H ρs) (h : ∀ S vs H2 Q, Ex H S → Ex S H2 → ρs.r S vs H2 → Go ρ H2 Q → sp (vs ++ dvs) H2 Q E0) (hk : k ≤ k' := by decide) (hg : Gl X x := by rfl) (hdb : (x == ("__debug__" : Str)) = false := by decide)
    (he : starEach (e :: es) X.env = (false, eval e X.env) :: starEach es X.env := by rfl) (hpl : (backTo pos (starEach es X.env)).any (·.1) = false := by rfl) : Ev X (.Call (.Name x p) (e :: es) [] pos) σ H ρ := fun H1 e1 Q q =>
  we_call C hr (ha H1 e1 _ fun vs H2 e2 h2 => h H1 vs H2 Q e1 e2 h2 (q.mono e2)) hk hg hdb he hpl
/-- a promise that tells data: f of what the arguments stand for -/
def Pu (pre : List V → Hp → Rp → Prop) : Sp := fun vs H Q _ => ∃ ρ, pre vs H ρ ∧ Go ρ H Q
theorem ev_pu {pre : List V → Hp → Rp → Prop} (C : Cal X.prog X.w X.K X.mg X.base x k dvs (Pu pre)) (hr : Room k' X.A) (ha : Ea X (e :: es) σ H ρs) (h : ∀ S vs H2, Ex H S → Ex S H2 → ρs.r S vs H2 → pre (vs ++ dvs) H2 ρ) (hk : k ≤ k' := by decide) (hg : Gl X x := by rfl) (hdb : (x == ("__debug__" : Str)) = false := by decide)
    (he : starEach (e :: es) X.env = (false, eval e X.env) :: starEach es X.env := by rfl) (hpl : (backTo pos (starEach es X.env)).any (·.1) = false := by rfl) : Ev X (.Call (.Name x p) (e :: es) [] pos) σ H ρ :=
  ev_call C hr ha (fun S vs H2 Q e1 e2 hv q => ⟨ρ, h S vs H2 e1 e2 hv, q⟩) hk hg hdb he hpl
/-! isinstance -/
theorem ev_ty {T : String} {x : Str} (hm : X.mg x = none) (hv : bootBuiltins x = some (.type T)) (hg : Gl X x := by rfl) (hn : x ≠ "__name__" := by decide) (hdb : (x == ("__debug__" : Str)) = false := by decide) : Ev X (.Name x pos) σ H (rV (.ty T)) := fun H1 e1 Q q =>
  ⟨_, pe_bltn hg hm hv (v := .ty T) rfl hn hdb, q _ H1 (Ex.refl H1) rfl⟩
theorem ev_isi {t : Value} {T : String} {r : Bool} (hm : X.mg "isinstance" = none) (ha : Ev X a σ H ρ) (hb : Ev X b σ H (rV (.ty T))) (h : ∀ S v H2, Ex H S → ρ.r S v H2 → TyX X.K H2 v t) (hk : PySem.W.kitOne X.K t (.type T) = some r)
    (hg : Gl X "isinstance" := by rfl) (he : starEach [a, b] X.env = (false, eval a X.env) :: starEach [b] X.env := by rfl) (he2 : starEach [b] X.env = (false, eval b X.env) :: starEach [] X.env := by rfl) (hpl : (backTo pos (starEach [b] X.env)).any (·.1) = false := by rfl) :
    Ev X (.Call (.Name "isinstance" p) [a, b] [] pos) σ H (rB r) := ev_cb call_isi hm (by decide +kernel) (eac ha (eac hb ea0 he2) he) (fun S vs H2 Q e1 _ hv q => by
  obtain ⟨v, w, rfl, h1, h2⟩ := two_arg hv
  cases h2
  exact ⟨v, .ty T, t, .type T, r, rfl, .ty T, h S v H2 e1 h1, hk, q.at (.bl _)⟩) hg (by decide) (by decide) he hpl
/-- the built-in type of data -/
def tyD : PyData → String
  | .none => "NoneType"
  | .bool _ => "bool"
  | .int _ => "int"
  | .str _ => "str"
  | .tuple _ => "tuple"
  | .list _ => "list"
  | .dict _ => "dict"
def isI : PyData → Bool
  | .int _ => true
  | .bool _ => true
  | _ => false
def isB : PyData → Bool
  | .bool _ => true
  | _ => false
def isS : PyData → Bool
  | .str _ => true
  | _ => false
def isT : PyData → Bool
  | .tuple _ => true
  | _ => false
theorem kit_I (d : PyData) : kitB (tyD d) "int" = some (isI d) := by cases d <;> (show kitB _ _ = some _; simp only [tyD, isI]; decide +kernel)
theorem kit_B (d : PyData) : kitB (tyD d) "bool" = some (isB d) := by cases d <;> (show kitB _ _ = some _; simp only [tyD, isB]; decide +kernel)
theorem kit_S (d : PyData) : kitB (tyD d) "str" = some (isS d) := by cases d <;> (show kitB _ _ = some _; simp only [tyD, isS]; decide +kernel)
theorem kit_T (d : PyData) : kitB (tyD d) "tuple" = some (isT d) := by cases d <;> (show kitB _ _ = some _; simp only [tyD, isT]; decide +kernel)
theorem ty_d {K : Frag} {d : PyData} {v : V} {H : Hp} (h : Im H v d) : TyX K H v (.type (tyD d)) := by
  cases h with
  | non => exact .base .non
  | bl b => exact .base (.bl b)
  | int i => exact .base (.int i)
  | str x => exact .base (.str x)
  | tup h _ => exact .base (.tup h)
theorem ev_isd {d : PyData} {T : String} {x : Str} {r : Bool} {p3 : Pos} (hm : X.mg "isinstance" = none) (hx : X.mg x = none) (hv : bootBuiltins x = some (.type T)) (ha : Ev X a σ H (rD d)) (hk : kitB (tyD d) T = some r)
    (hg : Gl X "isinstance" := by rfl) (hgx : Gl X x := by rfl) (hn : x ≠ "__name__" := by decide) (hdb : (x == ("__debug__" : Str)) = false := by decide) (he : starEach [a, .Name x p3] X.env = (false, eval a X.env) :: starEach [.Name x p3] X.env := by rfl)
    (he2 : starEach [.Name x p3] X.env = (false, eval (.Name x p3) X.env) :: starEach [] X.env := by rfl) (hpl : (backTo pos (starEach [.Name x p3] X.env)).any (·.1) = false := by rfl) :
    Ev X (.Call (.Name "isinstance" p) [a, .Name x p3] [] pos) σ H (rB r) := ev_isi hm ha (ev_ty hx hv hgx hn hdb) (fun _ _ _ _ h => ty_d h) (kit_ty hk) hg he he2 hpl
theorem ev_isInt {w : World} {d : PyData} {p3 : Pos} (E : En w X.K X.mg X.base) (ha : Ev X a σ H (rD d))
    (hg : Gl X "isinstance" := by rfl) (hgx : Gl X "int" := by rfl) (he : starEach [a, .Name "int" p3] X.env = (false, eval a X.env) :: starEach [.Name "int" p3] X.env := by rfl)
    (he2 : starEach [.Name "int" p3] X.env = (false, eval (.Name "int" p3) X.env) :: starEach [] X.env := by rfl) (hpl : (backTo pos (starEach [.Name "int" p3] X.env)).any (·.1) = false := by rfl) :
    Ev X (.Call (.Name "isinstance" p) [a, .Name "int" p3] [] pos) σ H (rB (isI d)) := ev_isd (T := "int") E.isi E.int (by decide +kernel) ha (kit_I d) hg hgx (by decide) (by decide) he he2 hpl
theorem ev_isBool {w : World} {d : PyData} {p3 : Pos} (E : En w X.K X.mg X.base) (ha : Ev X a σ H (rD d))
    (hg : Gl X "isinstance" := by rfl) (hgx : Gl X "bool" := by rfl) (he : starEach [a, .Name "bool" p3] X.env = (false, eval a X.env) :: starEach [.Name "bool" p3] X.env := by rfl)
    (he2 : starEach [.Name "bool" p3] X.env = (false, eval (.Name "bool" p3) X.env) :: starEach [] X.env := by rfl) (hpl : (backTo pos (starEach [.Name "bool" p3] X.env)).any (·.1) = false := by rfl) :
    Ev X (.Call (.Name "isinstance" p) [a, .Name "bool" p3] [] pos) σ H (rB (isB d)) := ev_isd (T := "bool") E.isi E.bool (by decide +kernel) ha (kit_B d) hg hgx (by decide) (by decide) he he2 hpl
theorem ev_isStr {w : World} {d : PyData} {p3 : Pos} (E : En w X.K X.mg X.base) (ha : Ev X a σ H (rD d))
    (hg : Gl X "isinstance" := by rfl) (hgx : Gl X "str" := by rfl) (he : starEach [a, .Name "str" p3] X.env = (false, eval a X.env) :: starEach [.Name "str" p3] X.env := by rfl)
    (he2 : starEach [.Name "str" p3] X.env = (false, eval (.Name "str" p3) X.env) :: starEach [] X.env := by rfl) (hpl : (backTo pos (starEach [.Name "str" p3] X.env)).any (·.1) = false := by rfl) :
    Ev X (.Call (.Name "isinstance" p) [a, .Name "str" p3] [] pos) σ H (rB (isS d)) := ev_isd (T := "str") E.isi E.str (by decide +kernel) ha (kit_S d) hg hgx (by decide) (by decide) he he2 hpl
theorem ev_isTup {w : World} {d : PyData} {p3 : Pos} (E : En w X.K X.mg X.base) (ha : Ev X a σ H (rD d))
    (hg : Gl X "isinstance" := by rfl) (hgx : Gl X "tuple" := by rfl) (he : starEach [a, .Name "tuple" p3] X.env = (false, eval a X.env) :: starEach [.Name "tuple" p3] X.env := by rfl)
    (he2 : starEach [.Name "tuple" p3] X.env = (false, eval (.Name "tuple" p3) X.env) :: starEach [] X.env := by rfl) (hpl : (backTo pos (starEach [.Name "tuple" p3] X.env)).any (·.1) = false := by rfl) :
    Ev X (.Call (.Name "isinstance" p) [a, .Name "tuple" p3] [] pos) σ H (rB (isT d)) := ev_isd (T := "tuple") E.isi E.tup (by decide +kernel) ha (kit_T d) hg hgx (by decide) (by decide) he he2 hpl
/-! a op b op c -/
theorem ev_chain {op op' : CmpOp} {r r' : R2} {t u : Bool} (ho : OpR X (compareOp op) r) (ho' : OpR X (compareOp op') r') (ha : Ev X a σ H ρ1) (hb : Ev X b σ H ρ2) (hc : Ev X c σ H ρ3) (h : ∀ S x y H2 Q, Ex H S → Ex S H2 → ρ1.r S x H2 → ρ2.r S y H2 → Go (rB t) H2 Q → r x y H2 Q)
    (h' : ∀ S x y H2 Q, Ex H S → Ex S H2 → ρ2.r S x H2 → ρ3.r S y H2 → Go (rB u) H2 Q → r' x y H2 Q) (hm : lastMarks [op, op'] [b, c] = false := by with_unfolding_all rfl) : Ev X (.Compare a [op, op'] [b, c] pos) σ H (rB (t && u)) := fun H1 e1 Q q =>
  ⟨_, pe_chain ho ho' we_ok we_ok we_ok hm, ha H1 e1 _ fun x H2 e2 h2 => hb H2 (e1.trans e2) _ fun y H3 e3 h3 => h H1 x y H3 _ e1 (e2.trans e3) (ρ1.m e3 h2) (ρ2.n e2 h3) fun v H4 e4 h4 => ⟨t, Im.ebl h4, by
    cases t with
    | true =>
      rw [if_pos rfl]
      exact hc H4 (((e1.trans e2).trans e3).trans e4) _ fun z H5 e5 h5 => h' H1 y z H5 _ e1 (((e2.trans e3).trans e4).trans e5) (ρ2.m (e4.trans e5) (ρ2.n e2 h3)) (ρ3.n ((e2.trans e3).trans e4) h5) (Go.mono q (((e2.trans e3).trans e4).trans e5))
    | false =>
      rw [if_neg (by decide)]
      exact q _ H4 ((e2.trans e3).trans e4) (.bl _)⟩⟩
theorem et_chain {op op' : CmpOp} {r r' : R2} {t u : Bool} (ho : OpR X (compareOp op) r) (ho' : OpR X (compareOp op') r') (ha : Ev X a σ H ρ1) (hb : Ev X b σ H ρ2) (hc : Ev X c σ H ρ3) (h : ∀ S x y H2 Q, Ex H S → Ex S H2 → ρ1.r S x H2 → ρ2.r S y H2 → Go (rB t) H2 Q → r x y H2 Q)
    (h' : ∀ S x y H2 Q, Ex H S → Ex S H2 → ρ2.r S x H2 → ρ3.r S y H2 → Go (rB u) H2 Q → r' x y H2 Q) (hm : lastMarks [op, op'] [b, c] = false := by with_unfolding_all rfl) : Et X (.Compare a [op, op'] [b, c] pos) σ H (t && u) := fun H1 e1 Q q =>
  ⟨_, pt_chain ho ho' we_ok we_ok we_ok hm, ha H1 e1 _ fun x H2 e2 h2 => hb H2 (e1.trans e2) _ fun y H3 e3 h3 => h H1 x y H3 _ e1 (e2.trans e3) (ρ1.m e3 h2) (ρ2.n e2 h3) fun v H4 e4 h4 => ⟨t, Im.ebl h4, by
    cases t with
    | true =>
      rw [if_pos rfl]
      exact hc H4 (((e1.trans e2).trans e3).trans e4) _ fun z H5 e5 h5 => h' H1 y z H5 _ e1 (((e2.trans e3).trans e4).trans e5) (ρ2.m (e4.trans e5) (ρ2.n e2 h3)) (ρ3.n ((e2.trans e3).trans e4) h5) fun v H6 e6 h6 => ⟨u, Im.ebl h6, by
        rw [Bool.true_and] at q
        exact q H6 ((((e2.trans e3).trans e4).trans e5).trans e6)⟩
    | false =>
      rw [if_neg (by decide)]
      exact ⟨false, rfl, q H4 ((e2.trans e3).trans e4)⟩⟩⟩
end
end Lk

set_option maxHeartbeats 2000000
/-! enumerate over a tuple, a text. -/
namespace Lk
open PySem PySem.Spec PyProof.Rows L2
open Evl (Ex)
open PySem.W in
theorem enu_new {v : Value} {ob : Obj} {Hq : Heap → Prop} (B : Begins v ob Hq) :
    Meets (Builtin.«enumerate.__new__» ⟨[.type "enumerate", v], []⟩) (fun _ R st => Hq st.heap ∧
      R (.ok (.ret (.ref (st.heap.push ob).objs.size))) { st with heap := (st.heap.push ob).push { cls := .type "enumerate", data := .fields #[.none, .bool false, .ref st.heap.objs.size, rawInt 0, .none, .none] } }) :=
  .of_wp fun pg wd Ar R st hh => by
    obtain ⟨hp, gn, dn, tk, os⟩ := st
    obtain ⟨hq, hr⟩ := hh
    have hsub := sub_enumerate
    have it1 : ∀ {A' : Around} {EE : Value → Shared → Prop} {QQ : Value → Shared → Prop}, QQ (.ref hp.objs.size) ⟨hp.push ob, gn, dn, tk, os⟩ → wpAny (model pg wd) A' (pyIter v) QQ EE ⟨hp, gn, dn, tk, os⟩ :=
      fun z => B.iter pg wd _ _ ⟨hp, gn, dn, tk, os⟩ _ hq z
    wp_walk using it1
    refine wpAny_stack_any fun sk => wpAny_pure ?_
    split
    · rename_i cl _ _ _ _ _
      cases (cl == Value.type "enumerate")
      · wp_walk using it1
        exact ⟨_, rfl, hr⟩
      · wp_walk using it1
        exact ⟨_, rfl, hr⟩
    · wp_walk using it1
      exact ⟨_, rfl, hr⟩
open PySem.W in
theorem enu_call {prog : Program} {w : World} {A : Around} {E : Value → Shared → Prop} {s : Shared} {v : Value} {ob : Obj} {Hq : Heap → Prop} {Q : Value → Shared → Prop} (B : Begins v ob Hq) (hq : Hq s.heap)
    (k : ∀ hp, IsEnum hp (s.heap.objs.size + 1) s.heap.objs.size 0 .none → hp.get? s.heap.objs.size = some ob → (∀ b o, s.heap.get? b = some o → hp.get? b = some o) → Q (.ref (s.heap.objs.size + 1)) { s with heap := hp }) :
    wpAny (model prog w) A (call (.type "enumerate") [v]) Q E s := by
  have sz : (s.heap.push ob).objs.size = s.heap.objs.size + 1 := Heap.size_push ..
  have en : IsEnum ((s.heap.push ob).push { cls := .type "enumerate", data := .fields #[.none, .bool false, .ref s.heap.objs.size, rawInt 0, .none, .none] }) (s.heap.objs.size + 1) s.heap.objs.size 0 .none := by
    have z := Heap.get?_push_size (s.heap.push ob) (o := { cls := .type "enumerate", data := .fields #[.none, .bool false, .ref s.heap.objs.size, rawInt 0, .none, .none] }) rfl
    rw [sz] at z
    exact z
  refine callType_new F.called_enumerate (by decide) (F.typeCall_enumerate_1 _) (F.newCall_enumerate_1 _) (fun obj => F.args_object_init_2 obj _) F.entry_enumerate_new (enu_new B) ⟨hq, ?_⟩
  show _ ∧ _
  rw [sz]
  exact ⟨⟨_, en, rfl⟩, k _ en (Heap.get?_push_of_some _ (Heap.get?_push_size _ B.free)) fun b o y => Heap.get?_push_of_some _ (Heap.get?_push_of_some _ y)⟩
/-- n items, the i-th told by PV; new pairs -/
def Jen (n : Nat) (G : Hp → Prop) (PV : Nat → V → Prop) : It := ⟨fun i H => i < n ∧ G H, fun i H v H' => ∃ q x, v = .ref q ∧ H q = none ∧ H' = upd H q (.tup [.int (i : Nat), x]) ∧ PV i x, fun i H => i = n ∧ G H⟩
theorem turn_jen {P : Program} {w : World} {K : Frag} {elts : List Expr} {kk : Nat} {tpos : Pos} {e it : Addr} {n : Nat} {G : Hp → Prop} {PV : Nat → V → Prop} {St : Nat → Heap → Prop} (hne : e ≠ it)
    (hk : ∀ i h h', St i h → (∀ o, h.get? it = some o → h'.get? it = some o) → St i h') (ho : ∀ i h, St i h → ∃ o, h.get? it = some o ∧ ∀ v, o.data ≠ .cell v)
    (src : ∀ (X : Cx) (pins : List (Addr × Obj)) (s : Shared) (σ : L2.St) (H : Hp) (i : Nat), X.prog = P → X.w = w → X.K = K → X.calm = true → Inv X pins σ H s → St i s.heap → G H →
      ∃ (fp : List Addr) (Pv : Nat → Value → Prop) (St' : Nat → Heap → Prop), Draws P w X.A.in1 it fp n Pv St' ∧ e ∉ fp ∧ (∀ i h, St' i h → St i h) ∧ St' i s.heap ∧ ∀ u, Pv i u → ∃ x, RelV x u ∧ PV i x) :
    Turn P w K (.Tuple elts kk tpos) (Jen n G PV) [e, it] e (fun i h => (∃ old, IsEnum h e it ((i : Nat) : Int) old) ∧ St i h) where
  mem := List.mem_cons_self ..
  obj := fun i h st b hb => by
    obtain ⟨⟨old, he⟩, hs⟩ := st
    rcases List.mem_cons.mp hb with z | z
    · rw [z]
      exact ⟨_, he, fun v q => nomatch q⟩
    · rw [List.mem_singleton.mp z]
      exact ho i h hs
  keep := fun i h h' st k => let ⟨⟨old, he⟩, hs⟩ := st; ⟨⟨old, k e (by simp) _ he⟩, hk i h h' hs (k it (by simp))⟩
  item := by
    intro X hP hw hK hc i pins s σ H E I hf st hg
    obtain ⟨⟨old, he⟩, hs⟩ := st
    obtain ⟨hi, g⟩ := hg
    obtain ⟨fp, Pv, St', D, hef, d1, d2, d3⟩ := src X pins s σ H i hP hw hK hc I hs g
    subst hP hw hK
    have hel : e < s.heap.objs.size := Heap.lt_size he
    have hil : it < s.heap.objs.size := by obtain ⟨o, q, _⟩ := ho i _ hs; exact Heap.lt_size q
    refine wpAny_pyNext_enum_itemD D he d2 hi hne hef fun u h' tk pu eo st' hT hsz kp => ?_
    obtain ⟨x, rx, px⟩ := d3 u pu
    refine ⟨_, rfl, wpAny_letOwnedTupleGo_enum (s := { s with heap := h', toks := tk + 1 }) eo fun h'' he' sb => ?_⟩
    have hT2 : h''.get? s.heap.objs.size = some { cls := .type "tuple", data := .seq #[.int i tk, u] } := (sb.2 _ (Nat.ne_of_gt hel)).trans hT
    have new : ObjOk X.prog X.w (upd H s.heap.objs.size (.tup [.int (i : Nat), x])) h'' s.heap.objs.size (.tup [.int (i : Nat), x]) :=
      ⟨sz6 (by simp), [.int i tk, u], .cons ⟨_, rfl⟩ (.cons rx .nil), ⟨_, hT2, rfl, _, rfl⟩⟩
    have I1 : Inv X pins σ (upd H s.heap.objs.size (.tup [.int (i : Nat), x])) { s with heap := h'', toks := tk + 1 } :=
      I.turnedNew (ch := [e, it]) (fun b ob hb q => (sb.2 b fun z => hb (by simp [z])).trans (kp b ob (fun z => hb (by simp [z])) (fun z => hb (by simp [z])) q)) hf (Nat.le_refl _) new
    refine ⟨.ref s.heap.objs.size, _, I1, rfl, ⟨_, x, rfl, I.hok.fresh (Nat.le_refl _), rfl, px⟩, ⟨⟨u, ?_⟩, hk _ _ _ (d1 _ _ st') fun o q => (sb.2 it (Ne.symm hne)).trans q⟩, fun b hb => ?_⟩
    · rw [show ((i + 1 : Nat) : Int) = (i : Int) + 1 by omega]
      exact he'
    · have hb' : b < s.heap.objs.size := by
        rcases List.mem_cons.mp hb with z | z
        · rw [z]; exact hel
        · rw [List.mem_singleton.mp z]; exact hil
      rw [upd_ne (Nat.ne_of_lt hb')]
      exact (hf b hb).1
  done := by
    intro X hP hw hK hc i pins s σ H E I hf st hg
    obtain ⟨⟨old, he⟩, hs⟩ := st
    obtain ⟨hi, g⟩ := hg
    obtain ⟨fp, Pv, St', D, hef, d1, d2, d3⟩ := src X pins s σ H i hP hw hK hc I hs g
    subst hP hw hK
    obtain ⟨f0, f1, f2, f3, f4, f5⟩ := hf it (by simp)
    exact wpAny_pyNext_enum_endD D he (hi ▸ d2) fun h' eb => ⟨rfl, I.turned (t' := s.toks) (fun b o hb q => eb b o hb q) f0 f1 f3 f4 f5⟩
  self := fun A i s Q E st h => let ⟨⟨_, he⟩, _⟩ := st; wpAny_pyIter_enum he h
section
variable {X : Cx} {a : Expr} {ta : TA} {p pos tpos : Pos} {elts : List Expr} {kk : Nat}
theorem fp_two {pins : List (Addr × Obj)} {σ : L2.St} {H : Hp} {s : Shared} (I : Inv X pins σ H s) (b : Addr) (hb : b ∈ [s.heap.objs.size + 1, s.heap.objs.size]) : FpOk X pins H b := by
  have hle : s.heap.objs.size ≤ b := by
    rcases List.mem_cons.mp hb with z | z
    · rw [z]; exact Nat.le_succ _
    · rw [List.mem_singleton.mp z]; exact Nat.le_refl _
  exact I.fpOk hle (I.hok.fresh hle)
def iEnT (K : Frag) (ta : TA) : TI := fun σ H R => ta σ H fun vs H1 => ∃ a xs, vs = [.ref a] ∧ SqT K H1 a xs ∧ R (Jen xs.length (fun H => SqT K H a xs) fun i x => xs[i]? = some x) H1
theorem pi_enT (hg : Gl X "enumerate") (hm : X.mg "enumerate" = none) (ha : PA X [a] ta) (hs : starEach [a] X.env = [(false, eval a X.env)] := by rfl) :
    PI X (.Tuple elts kk tpos) (.Call (.Name "enumerate" p) [a] [] pos) (iEnT X.K ta) := by
  refine ⟨fun pins s σ H R I h => ?_⟩
  refine Call_ (ld_blt I hg hm boot_enumerate (PyProof.Rows.callWith_type1 (thn (ha.run pos pins s σ H _ I h) fun us s1 ⟨vs, H1, I1, r1, q1⟩ => ?_) hs rfl))
  obtain ⟨t, xs, rfl, hq, q⟩ := q1
  cases r1 with
  | cons r rr =>
    cases rr
    cases r
    obtain ⟨its, rv, tp, hz⟩ := I1.tuple hq
    have tp : s1.heap.IsTuple t its.toArray := tp
    have lt : t < s1.heap.objs.size := by obtain ⟨o, e, _⟩ := tp; exact Heap.lt_size e
    refine enu_call (PySem.begins_tuple t its.toArray) tp fun h' he hit kp => wpAny_pyIter_enum he ?_
    have I2 : Inv X pins σ H1 { s1 with heap := h' } := I1.kept (t' := s1.toks) kp
    refine ⟨s1.heap.objs.size + 1, [s1.heap.objs.size + 1, s1.heap.objs.size], _, _, H1, rfl, I2, turn_jen (St := fun i h => h.IsTupleIter s1.heap.objs.size t i) (Nat.succ_ne_self _) (fun i h h' st k => st.at k) (fun i h st => ?_) (fun Y pins s σ H i hP hw hK hc I st g => ?_), ⟨⟨.none, he⟩, ⟨_, hit, rfl, rfl⟩⟩, fp_two I1, q⟩
    · obtain ⟨o, e, c, d⟩ := st
      exact ⟨o, e, fun v z => by rw [d] at z; cases z⟩
    · rw [← hP, ← hw]
      rw [← hK] at g
      obtain ⟨its2, rv2, tp2, _⟩ := I.tuple g
      refine ⟨[s1.heap.objs.size, t], fun i v => its2.toArray[i]? = some v, fun i h => h.IsTupleIter s1.heap.objs.size t i ∧ h.IsTuple t its2.toArray, ?_, fun z => ?_, fun i h z => z.1, ⟨st, tp2⟩, fun u hu => ?_⟩
      · have D := Draws.tuple (prog := Y.prog) (w := Y.w) (A := Y.A.in1) (I.ok.hd hc) s1.heap.objs.size t (Nat.ne_of_lt lt) its2.toArray
        have e : its2.toArray.size = xs.length := by simp [rv2.length]
        rw [e] at D
        exact D
      · rcases List.mem_cons.mp z with z | z
        · exact absurd z (Nat.succ_ne_self _)
        · exact absurd (List.mem_singleton.mp z) (Nat.ne_of_gt (Nat.lt_succ_of_lt lt))
      · have hu : its2[i]? = some u := by simpa using hu
        have hl : i < xs.length := by
          rw [rv2.length]
          exact (List.getElem?_eq_some_iff.mp hu).1
        obtain ⟨u', e1, e2⟩ := rv2.get (List.getElem?_eq_getElem hl)
        rw [hu] at e1
        cases e1
        exact ⟨_, e2, List.getElem?_eq_getElem hl⟩
def iEnS (ta : TA) : TI := fun σ H R => ta σ H fun vs H1 => ∃ z, vs = [.str z] ∧ R (Jen z.cps.size (fun _ => True) fun i x => ∃ c, z.cps[i]? = some c ∧ x = .str ⟨#[c]⟩) H1
theorem pi_enS (hg : Gl X "enumerate") (hm : X.mg "enumerate" = none) (ha : PA X [a] ta) (hs : starEach [a] X.env = [(false, eval a X.env)] := by rfl) :
    PI X (.Tuple elts kk tpos) (.Call (.Name "enumerate" p) [a] [] pos) (iEnS ta) := by
  refine ⟨fun pins s σ H R I h => ?_⟩
  refine Call_ (ld_blt I hg hm boot_enumerate (PyProof.Rows.callWith_type1 (thn (ha.run pos pins s σ H _ I h) fun us s1 ⟨vs, H1, I1, r1, q1⟩ => ?_) hs rfl))
  obtain ⟨z, rfl, q⟩ := q1
  cases r1 with
  | cons r rr =>
    cases rr
    obtain ⟨t, rfl⟩ := r
    refine enu_call (PySem.begins_text z t) trivial fun h' he hit kp => wpAny_pyIter_enum he ?_
    have I2 : Inv X pins σ H1 { s1 with heap := h' } := I1.kept (t' := s1.toks) kp
    refine ⟨s1.heap.objs.size + 1, [s1.heap.objs.size + 1, s1.heap.objs.size], _, _, H1, rfl, I2, turn_jen (St := fun i h => h.IsStrIter s1.heap.objs.size (strIterType z) z t i) (Nat.succ_ne_self _) (fun i h h' st k => ?_) (fun i h st => ?_) (fun Y pins s σ H i hP hw hK hc I st g => ?_), ⟨⟨.none, he⟩, ⟨_, hit, rfl, rfl⟩⟩, fp_two I1, q⟩
    · obtain ⟨o, e, r⟩ := st
      exact ⟨o, k _ e, r⟩
    · obtain ⟨o, e, c, d⟩ := st
      exact ⟨o, e, fun v z => by rw [d] at z; cases z⟩
    · rw [← hP, ← hw]
      refine ⟨[s1.heap.objs.size], _, _, Draws.text (prog := Y.prog) (w := Y.w) (A := Y.A.in1) (I.ok.hd hc) s1.heap.objs.size z t, fun q => ?_, fun i h z => z, st, fun u hu => ?_⟩
      · exact absurd (List.mem_singleton.mp q) (Nat.succ_ne_self _)
      · obtain ⟨c, tk, h1, rfl⟩ := hu
        exact ⟨.str ⟨#[c]⟩, ⟨tk, rfl⟩, c, h1, rfl⟩
theorem walk_jen {n : Nat} {G : Hp → Prop} {PV : Nat → V → Prop} : Walk (Jen n G PV) n G (fun i H x H' => ∃ q v, x = .ref q ∧ H q = none ∧ H' = upd H q (.tup [.int (i : Nat), v]) ∧ PV i v) :=
  ⟨fun _ _ hi g => ⟨hi, g⟩, fun _ g => ⟨rfl, g⟩, fun _ _ _ _ _ _ y => y⟩
variable {σ : L2.St} {H : Hp}
theorem enu_len (ds : List PyData) : (enu ds).length = ds.length := by rw [enu, List.length_map, List.length_zipIdx]
theorem enu_at {ds : List PyData} {i : Nat} {d : PyData} (h : ds[i]? = some d) : (enu ds)[i]? = some (.tuple [.int (i : Int), d]) := by
  rw [enu, List.getElem?_map, List.getElem?_zipIdx, h, Option.map_some, Option.map_some, Nat.zero_add]
theorem wk_eT {ds : List PyData} (hm : X.mg "enumerate" = none) (ha : Ev X a σ H (rT ds)) (hg : Gl X "enumerate" := by rfl) (hs : starEach [a] X.env = [(false, eval a X.env)] := by rfl) (hs' : starEach [a] X.env = (false, eval a X.env) :: starEach [] X.env := by rfl) :
    Wk X (.Tuple elts kk tpos) (.Call (.Name "enumerate" p) [a] [] pos) σ H (enu ds) := fun H1 e1 R k =>
  ⟨_, pi_enT hg hm wa_ok hs, eac ha ea0 hs' H1 e1 _ fun vs H2 e2 hv => by
    obtain ⟨v, rfl, h1⟩ := one_arg hv
    obtain ⟨q, xs, rfl, h2, h3⟩ := Im.etup h1
    have w := walk_jen (n := xs.length) (G := fun H => SqT X.K H q xs) (PV := fun i x => xs[i]? = some x)
    refine ⟨q, xs, rfl, SqT.of h2, k _ H2 (fun H3 => H3 q = some (.tup xs) ∧ Ims H3 xs ds) e2 ⟨h2, h3⟩ (fun H3 H4 g e => ⟨e _ _ g.1, g.2.ex e⟩) (fun l u hl hu hB => ?_) ?_⟩
    · have t := tu_off (l := l) (H := H2) fun ys z => hu ys (Option.some.inj ((e2 _ _ hl).symm.trans z))
      exact ⟨t _ _ h2, h3.tu t⟩
    · rw [h3.len] at w ⊢
      rw [enu_len]
      refine w.mono (fun H g => SqT.of g.1) fun i H x H' hi g y => ?_
      obtain ⟨t, v, rfl, y3, rfl, y5⟩ := y
      obtain ⟨d, d1, d2⟩ := g.2.getv y5
      exact ⟨Ex.new y3, _, enu_at d1, .tup upd_same (.cons (.int _) (.one (d2.ex (Ex.new y3))))⟩⟩
theorem wk_eS {l : List Nat} (hm : X.mg "enumerate" = none) (ha : Ev X a σ H (rS l)) (hg : Gl X "enumerate" := by rfl) (hs : starEach [a] X.env = [(false, eval a X.env)] := by rfl) (hs' : starEach [a] X.env = (false, eval a X.env) :: starEach [] X.env := by rfl) :
    Wk X (.Tuple elts kk tpos) (.Call (.Name "enumerate" p) [a] [] pos) σ H (enu (sgs l)) := fun H1 e1 R k =>
  ⟨_, pi_enS hg hm wa_ok hs, eac ha ea0 hs' H1 e1 _ fun vs H2 e2 hv => by
    obtain ⟨v, rfl, h1⟩ := one_arg hv
    refine ⟨T l, by rw [Im.estr h1], k _ H2 (fun _ => True) e2 trivial (fun _ _ _ _ => trivial) (fun _ _ _ _ _ => trivial) ?_⟩
    have w := walk_jen (n := (T l).cps.size) (G := fun _ => True) (PV := fun i x => ∃ c, (T l).cps[i]? = some c ∧ x = .str ⟨#[c]⟩)
    have el : (enu (sgs l)).length = (T l).cps.size := by simp [enu_len, sgs, T]
    rw [el]
    refine w.mono (fun H g => g) fun i H x H' hi g y => ?_
    obtain ⟨t, v, rfl, y3, rfl, c, c1, rfl⟩ := y
    have c1 : l[i]? = some c := by simpa [T] using c1
    exact ⟨Ex.new y3, _, enu_at (d := .str (T [c])) (by rw [sgs, List.getElem?_map, c1] <;> rfl), .tup upd_same (.cons (.int _) (.one (.str _)))⟩⟩
end
end Lk

set_option maxHeartbeats 1000000
/-! Promises that tell data. -/
namespace Lk
open PySem PySem.Spec PyProof.Rows L2
open Evl (Ex)
def rAll : List Rp → Rps
  | [] => r0
  | ρ :: l => rC ρ (rAll l)
theorem rAll_len : ∀ {l : List Rp} {S H : Hp} {vs : List V}, (rAll l).r S vs H → vs.length = l.length
  | [], _, _, _, h => by
    have h : _ = [] := h
    rw [h] <;> rfl
  | ρ :: l, _, _, _, h => by
    obtain ⟨v, r, rfl, _, h2⟩ := h
    simp only [List.length_cons, rAll_len h2]
/-- the arguments stand for A a, ok a holds; what is told is R a -/
def Pr {α : Type} (A : α → List Rp) (R : α → Rp) (ok : α → Prop) : Sp := fun vs H Q _ => ∃ (a : α) (S : Hp), ok a ∧ Ex S H ∧ (rAll (A a)).r S vs H ∧ Go (R a) H Q
section
variable {P : Program} {w : World} {K : Frag} {mg : Str → Option Value} {base : Heap}
theorem cal_pr (E : En w K mg base) (d : He.DefD) {x : Str} {N ps : List Str} {k : Nat} {α : Type} {A : α → List Rp} {R : α → Rp} {ok : α → Prop} (i j : Nat) (S : FnScope N ps d.scope) (hA : ∀ a, (A a).length = ps.length)
    (body : ∀ (a : α) (cdv : Value) (Ar : Around) (outer : List Env) (s : Shared) (H : Hp) (vs : List V) (Q : VK) (EE : XK) (S0 : Hp), Room k (Bx P w K mg base N d cdv Ar outer s H EE).A → ok a → Ex S0 H → (rAll (A a)).r S0 vs H → Go (R a) H Q →
      Wm (Bx P w K mg base N d cdv Ar outer s H EE) d.body { nx := fun _ H' => Q .non H', rt := Q } (start N vs) H)
    (hb : ∀ (kV doc pm : Value) (an : Option Addr) (cdv ct : Value) (us : List Value), us.length = ps.length → bindArgs (PySem.W.fnOf d.name d.qual d.params d.body d.scope .none kV doc pm an cdv ct) ⟨us, []⟩ = pure (ps.zip us))
    (hd : fnl[i]? = some d := by rfl) (hg : fas[j]? = some (.glo x) := by rfl) (hx : d.at_ = (x, none) := by rfl) (h0 : d.dfl = [] := by rfl) (h1 : d.kwd = [] := by rfl) : Cal P w K mg base x (k + 1) [] (Pr A R ok) :=
  cal_of E d i j S (fun vs H Q EE ⟨a, S0, _, _, h, _⟩ => (rAll_len h).trans (hA a)) (fun cdv Ar outer s H vs Q EE hr ⟨a, S0, h1, h2, h3, h4⟩ => body a cdv Ar outer s H vs Q EE S0 hr h1 h2 h3 h4) hb hd hg hx h0 h1
end
section
variable {X : Cx} {σ : L2.St} {H H' : Hp} {e a b c : Expr} {es : List Expr} {pos p p2 : Pos} {x : Str} {k k' : Nat}
theorem ev_pr {α : Type} {A : α → List Rp} {R : α → Rp} {ok : α → Prop} (C : Cal X.prog X.w X.K X.mg X.base x k [] (Pr A R ok)) (hr : Room k' X.A) (z : α) (hz : ok z) (ha : Ea X (e :: es) σ H (rAll (A z))) (hk : k ≤ k' := by decide) (hg : Gl X x := by rfl) (hdb : (x == ("__debug__" : Str)) = false := by decide)
    (he : starEach (e :: es) X.env = (false, eval e X.env) :: starEach es X.env := by rfl) (hpl : (backTo pos (starEach es X.env)).any (·.1) = false := by rfl) : Ev X (.Call (.Name x p) (e :: es) [] pos) σ H (R z) :=
  ev_call C hr ha (fun S vs H2 Q e1 e2 hv q => ⟨z, S, hz, e2, by rw [List.append_nil]; exact hv, q⟩) hk hg hdb he hpl
/-- the same, what is told known first -/
theorem ev_pq {α : Type} {A : α → List Rp} {R : α → Rp} {ok : α → Prop} {ρ : Rp} (C : Cal X.prog X.w X.K X.mg X.base x k [] (Pr A R ok)) (z : α) (hR : R z = ρ) (hr : Room k' X.A) (hz : ok z) (ha : Ea X (e :: es) σ H (rAll (A z))) (hk : k ≤ k' := by decide) (hg : Gl X x := by rfl) (hdb : (x == ("__debug__" : Str)) = false := by decide)
    (he : starEach (e :: es) X.env = (false, eval e X.env) :: starEach es X.env := by rfl) (hpl : (backTo pos (starEach es X.env)).any (·.1) = false := by rfl) : Ev X (.Call (.Name x p) (e :: es) [] pos) σ H ρ := by
  subst hR
  exact ev_pr C hr z hz ha hk hg hdb he hpl
/-- a call as a statement that gives None -/
theorem w_do {ρ : Rp} {rest : List Stmt} {D : Ends} (he : Ev X e σ H ρ) (k : ∀ H1, Ex H H1 → Wm X rest D σ H1) (hs : swapsWith e none pos.line X.env = pure false := by rfl) : Wm X (.Expr e pos :: rest) D σ H :=
  w_expr (he H (Ex.refl H) _ fun v H1 e1 _ => k H1 e1) hs
/-- a, b = x, y through a tuple (a name is captured) -/
theorem w_par2 {i j : Nat} {y1 y2 : Str} {px py pt pt2 : Pos} {kt k2 : Nat} {ρ1 ρ2 : Rp} {rest : List Stmt} {D : Ends} (hc : X.calm = true) (hN : X.N.Nodup) (ha : Ev X a σ H ρ1) (hb : Ev X b σ H ρ2) (k : ∀ v w H1, Ex H H1 → ρ1.r H v H1 → ρ2.r H w H1 → Wm X rest D ((σ.set i (some v)).set j (some w)) H1)
    (hi : X.N[i]? = some y1 := by rfl) (hj : X.N[j]? = some y2 := by rfl) (hx : Loc X.env.scope y1 := by first | exact .inl rfl | exact .inr rfl) (hy : Loc X.env.scope y2 := by first | exact .inl rfl | exact .inr rfl)
    (hf : X.fn y1 = true ∨ X.env.scope.names.lookup y1 = some .local := by first | exact .inl rfl | exact .inr rfl) (hf2 : X.fn y2 = true ∨ X.env.scope.names.lookup y2 = some .local := by first | exact .inl rfl | exact .inr rfl)
    (h1 : starEach [a, b] X.env = (false, eval a X.env) :: starEach [b] X.env := by rfl) (h2 : starEach [b] X.env = (false, eval b X.env) :: starEach [] X.env := by rfl)
    (hw : swappedStores [.Tuple [.Name y1 px, .Name y2 py] kt pt] (.Tuple [a, b] k2 pt2) X.env = pure none := by rfl)
    (hs : swapsWithSole [.Tuple [.Name y1 px, .Name y2 py] kt pt] (.Tuple [a, b] k2 pt2) pos.line X.env = pure false := by rfl) : Wm X (.Assign [.Tuple [.Name y1 px, .Name y2 py] kt pt] (.Tuple [a, b] k2 pt2) pos :: rest) D σ H :=
  w_cons ⟨_, ps_asg (pe_tup wa_ok) (pg_tup hc (pgs_cons (pg_name hN hi hx hf) (pgs_cons (pg_name hN hj hy hf2) pgs_nil))) hs hw, eac ha (eac hb ea0 h2) h1 H (Ex.refl H) _ fun vs H1 e1 hv => by
    obtain ⟨v, w, rfl, r1, r2⟩ := two_arg hv
    exact ⟨sz6 (by simp), fun p hp => ⟨p, _, rfl, SqT.of upd_same, rfl, v, _, rfl, w, _, rfl, rfl, k v w _ (e1.trans (Ex.new hp)) (ρ1.m (Ex.new hp) r1) (ρ2.m (Ex.new hp) r2)⟩⟩⟩
theorem wg_n {i : Nat} {x : Str} {v : V} {Q : L2.St → Hp → Prop} (hN : X.N.Nodup) (q : Q (σ.set i (some v)) H) (hi : X.N[i]? = some x := by rfl) (hx : Loc X.env.scope x := by first | exact .inl rfl | exact .inr rfl) (hf : X.fn x = true ∨ X.env.scope.names.lookup x = some .local := by first | exact .inl rfl | exact .inr rfl) :
    Wg X (.Name x pos) v σ H Q := tg_n hN hi hx hf Q q
theorem wg_t2 {i j : Nat} {x y : Str} {a : Addr} {v w : V} {kt : Nat} {Q : L2.St → Hp → Prop} (hc : X.calm = true) (hN : X.N.Nodup) (h : H a = some (.tup [v, w])) (q : Q ((σ.set i (some v)).set j (some w)) H) (hi : X.N[i]? = some x := by rfl) (hj : X.N[j]? = some y := by rfl)
    (hx : Loc X.env.scope x := by first | exact .inl rfl | exact .inr rfl) (hy : Loc X.env.scope y := by first | exact .inl rfl | exact .inr rfl)
    (hf : X.fn x = true ∨ X.env.scope.names.lookup x = some .local := by first | exact .inl rfl | exact .inr rfl) (hf2 : X.fn y = true ∨ X.env.scope.names.lookup y = some .local := by first | exact .inl rfl | exact .inr rfl) :
    Wg X (.Tuple [.Name x p, .Name y p2] kt pos) (.ref a) σ H Q := tg_t2 hc hN h hi hj hx hy hf hf2 Q q
end
end Lk

set_option maxHeartbeats 2000000
/-! sorted: lists of data (tuples may be empty), texts. -/
namespace Lk
open PySem PySem.Spec PyProof.Rows L2
open Evl (Ex)
section
open PySem.W PySem.Calls PySem.SeqAt
variable {prog : Program} {w : World} {A : Around} {E : Value → Shared → Prop} {s : Shared}
theorem call_tup_lt {Q : Value → Shared → Prop} {l b : Addr} {xs ys : Array Value} {e r : Nat → Bool} (hl : s.heap.IsTuple l xs) (hb : s.heap.IsTuple b ys)
    (he : ∀ j (h1 : j < xs.size) (h2 : j < ys.size), EqAt A.in1 s xs[j] ys[j] (e j)) (hr : ∀ j (h1 : j < xs.size) (h2 : j < ys.size), e j = false → RcLt A.in1 s xs[j] ys[j] (r j))
    (h : Q (.bool (firstLt e r (decide (xs.size < ys.size)) (List.range (min xs.size ys.size)))) s) : wpAny (model prog w) A (call (.builtin "tuple.__lt__") [.ref l, .ref b]) Q E s := by
  obtain ⟨⟨c1, d1, t1, sl⟩, ho, hc, n, hd⟩ := id hl
  obtain ⟨⟨c2, d2, t2, sl2⟩, ho2, hc2, n2, hd2⟩ := id hb
  simp only at hc hd hc2 hd2
  subst hc hd hc2 hd2
  exact call_meets F.slot_tuple_lt ⟨_, ho, rfl⟩ F.entry_tuple_lt (F.args_tuple_lt_2 _ _) (tuple_ltAt l b xs ys n n2 d1 d2 sl sl2 e r) ⟨ho, ho2, he, hr, h⟩
/-- one tuple against another, as keys of one type -/
theorem one_tup {xs ys : List PyData} {a b : Value} {as bs : List Addr} {Q : Bool → Shared → Prop} (ra : Reads s.heap a (.tuple xs) as) (rb : Reads s.heap b (.tuple ys) bs) (h : alike (.tuple xs) (.tuple ys) = true)
    (hu : A.units + min (PyData.tuple xs).depth (PyData.tuple ys).depth < cLine) (hq : Q (dataLt (.tuple xs) (.tuple ys)) s) : wpAny (model prog w) A (oneLt' true a b) Q E s := by
  have hal : alikeAll xs ys = true := by simpa [alike] using h
  cases ra with
  | @tuple l o vs n _ as₁ h1 h2 h3 h4 =>
    cases rb with
    | @tuple l' o' vs' n' _ bs₁ k1 k2 k3 k4 =>
      have n1 : vs.size = xs.length := by simpa using ReadsAll.length _ _ _ h4
      have n2 : vs'.size = ys.length := by simpa using ReadsAll.length _ _ _ k4
      rw [dataLt_tuple, ← firstLt_toks xs ys hal, ← n1, ← n2] at hq
      rw [oneLt'_eq]
      simp only [if_true]
      refine wpAny_bind (wpAny_cRoomFor (room_here hu) ?_)
      refine wpAny_bind (wpAny_callSpecialIfBound?_slot (T := "tuple") ⟨_, h1, h2⟩ F.slot_tuple_lt (call_tup_lt (e := pairEq xs ys) (r := fun j => dataLt (xs.getD j .none) (ys.getD j .none)) ⟨_, h1, h2, _, h3⟩ ⟨_, k1, k2, _, k3⟩ (fun j j1 j2 => ?_) (fun j j1 j2 hj => ?_) ?_))
      · have z := eqAt_alikeAll xs ys A.in1 s vs.toList vs'.toList _ _ h4 k4 hal (room_in hu) j (by simpa using j1) (by simpa using j2)
        simpa using z
      · have z := rcLt_alikeAll xs ys A.in1 s vs.toList vs'.toList _ _ h4 k4 hal (room_in hu) j (by simpa using j1) (by simpa using j2) hj
        simpa using z
      · exact wpAny_truthy_bool hq
/-- the first items of tuples, where there are such -/
def Fsts (h : Heap) : List Value → List (Option Value) → List PyData → Prop
  | [], [], [] => True
  | v :: vs, f :: fs, d :: ds => (∃ a o xs n, v = .ref a ∧ h.get? a = some o ∧ o.cls = .type "tuple" ∧ o.data = .seq xs n ∧ xs[0]? = f ∧ (f.isSome = true ↔ d ≠ .tuple [])) ∧ Fsts h vs fs ds
  | _, _, _ => False
theorem fsts_of {h : Heap} : ∀ {vs : List Value} {ds : List PyData}, EachIs (fun v d => ∃ as, Reads h v d as) vs ds → (∀ d, d ∈ ds → ∃ r, d = .tuple r) → ∃ fs, Fsts h vs fs ds
  | _, _, .nil, _ => ⟨[], trivial⟩
  | _, _, .cons (b := d) ⟨as, r⟩ t, ht => by
    obtain ⟨fs, h1⟩ := fsts_of t fun d hd => ht d (List.mem_cons_of_mem _ hd)
    obtain ⟨rest, rfl⟩ := ht d (List.mem_cons_self ..)
    cases r with
    | @tuple a o xs n _ _ ho hc hd hr =>
      refine ⟨xs[0]? :: fs, ⟨a, o, xs, n, rfl, ho, hc, hd, rfl, ?_⟩, h1⟩
      have hl := SeqAt.ReadsAll.length _ _ _ hr
      cases rest with
      | nil =>
        have z : xs.size = 0 := by simpa using hl
        have e : xs[0]? = none := Array.getElem?_eq_none (by omega)
        rw [e]
        simp
      | cons p r =>
        have z : 0 < xs.size := by
          have z : xs.size = r.length + 1 := by simpa using hl
          omega
        have e : xs[0]? = some xs[0] := Array.getElem?_eq_getElem z
        rw [e]
        simp
theorem fsts_map {M : Model} : ∀ {vs : List Value} {fs : List (Option Value)} {ds : List PyData} {Q : List (Option Value) → Shared → Prop}, Fsts s.heap vs fs ds → Q fs s → wpAny M A (vs.mapM firstOfTuple') Q E s
  | [], [], [], Q, _, h => by
    rw [List.mapM_nil]
    exact wpAny_pure h
  | v :: vs, f :: fs, d :: ds, Q, t, h => by
    obtain ⟨⟨a, o, xs, n, rfl, ho, hc, hd, hf, _⟩, t⟩ := t
    rw [List.mapM_cons]
    refine wpAny_bind ?_
    rw [kas_first_eq]
    refine wpAny_bind (Looks.here (show Looks M s.heap (typeOf (.ref a)) o.cls from (Looks.ld ho).andThen .now) ?_)
    rw [hc, if_neg (by first | decide | simp)]
    refine wpAny_bind (listItems_at ho hd (wpAny_pure ?_))
    rw [hf]
    exact wpAny_bind (fsts_map (Q := fun bs s' => wpAny M A (pure (f :: bs)) Q E s') t (wpAny_pure h))
  | [], _ :: _, _, _, t, _ => t.elim
  | [], [], _ :: _, _, t, _ => t.elim
  | _ :: _, [], _, _, t, _ => t.elim
  | _ :: _, _ :: _, [], _, t, _ => t.elim
theorem fsts_some {h : Heap} : ∀ {vs : List Value} {fs : List (Option Value)} {ds : List PyData}, Fsts h vs fs ds → (fs.all (·.isSome) = true → ∀ d ∈ ds, d ≠ .tuple [])
  | [], [], [], _, _ => fun d hd => absurd hd (by simp)
  | v :: vs, f :: fs, d :: ds, t, q => by
    obtain ⟨⟨_, _, _, _, _, _, _, _, _, i⟩, t⟩ := t
    rw [List.all_cons, Bool.and_eq_true] at q
    intro d' hd
    rcases List.mem_cons.mp hd with rfl | hd
    · exact i.mp q.1
    · exact fsts_some t q.2 d' hd
  | [], _ :: _, _, t, _ => t.elim
  | [], [], _ :: _, t, _ => t.elim
  | _ :: _, [], _, t, _ => t.elim
  | _ :: _, _ :: _, [], t, _ => t.elim
theorem fsts_ty {h : Heap} : ∀ {vs : List Value} {fs : List (Option Value)} {ds : List PyData}, Fsts h vs fs ds → ∀ v ∈ vs, ∀ {M : Model}, Looks M h (typeOf v) (.type "tuple")
  | [], [], [], _ => fun v hv => absurd hv (by simp)
  | v :: vs, f :: fs, d :: ds, t => by
    obtain ⟨⟨a, o, _, _, rfl, ho, hc, _⟩, t⟩ := t
    intro v' hv M
    rcases List.mem_cons.mp hv with rfl | hv
    · rw [← hc]
      exact (Looks.ld ho).andThen .now
    · exact fsts_ty t v' hv
  | [], _ :: _, _, t => t.elim
  | [], [], _ :: _, t => t.elim
  | _ :: _, [], _, t => t.elim
  | _ :: _, _ :: _, [], t => t.elim
/-- tuples, some of them empty, can be sorted -/
theorem sortsAt_tups {vs : List Value} {ds : List PyData} (e : EachIs (fun v d => ∃ as, Reads s.heap v d as) vs ds) (hal : AllAlike ds) (ht : ∀ d, d ∈ ds → ∃ r, d = .tuple r) (hu : ∀ d, d ∈ ds → A.units + d.depth < cLine) : SortsAt prog w A s (dataKind s.heap ds) vs := by
  by_cases hn : ∀ d, d ∈ ds → d ≠ .tuple []
  · refine SortsAt.data e hal (.inl fun d hd => ?_) hu
    obtain ⟨r, rfl⟩ := ht d hd
    cases r with
    | nil => exact absurd rfl (hn _ hd)
    | cons x r => exact ⟨x, r, rfl⟩
  have room : ∀ {d d' : PyData}, d ∈ ds → A.units + min d.depth d'.depth < cLine := fun {d d'} hd => Nat.lt_of_le_of_lt (Nat.add_le_add_left (Nat.min_le_left _ _) _) (hu d hd)
  obtain ⟨fs, F⟩ := fsts_of e ht
  have lt1 : ∀ b, H.LtAt prog w A s (dataKind s.heap ds) (if b = true then oneType' else general') := by
    intro b E x y p q Q ha hb hq
    obtain ⟨d, as, hd, ra, rfl⟩ := dataKind_inv ha
    obtain ⟨d', as', hd', rb, rfl⟩ := dataKind_inv hb
    obtain ⟨r1, rfl⟩ := ht d hd
    obtain ⟨r2, rfl⟩ := ht d' hd'
    cases b with
    | true =>
      rw [if_pos rfl, keyLt'_oneType]
      exact one_tup ra rb (hal _ hd _ hd') (room hd) hq
    | false =>
      rw [if_neg (by decide)]
      exact oneLt_alike (f := false) (fun z => by cases z) ra rb (hal _ hd _ hd') (by simp) (room hd) hq
  refine ⟨fun v hv => ?_, ?_⟩
  · obtain ⟨d, hd, as, r⟩ := e.left v hv
    exact ⟨_, dataKind_some hal hd r⟩
  · have nall : ¬ (fs.toArray.all fun x => x.isSome) = true := fun z => hn (fsts_some F (by simpa using z))
    refine ⟨if (!((fs.toArray[0]?.bind id).isSome)) = true then oneType' else general', lt1 _, fun h2 E Q hq => ?_⟩
    rw [kat_kind_eq, List.mapM_toArray, map_eq_pure_bind]
    refine wpAny_bind (wpAny_bind (fsts_map F (wpAny_pure ?_)))
    rw [if_neg nall]
    cases hb : (fs.toArray[0]?.bind id).isSome with
    | true =>
      rw [if_pos rfl]
      rw [hb] at hq
      exact wpAny_pure hq
    | false =>
      rw [if_neg (by decide)]
      rw [hb] at hq
      rw [oneTypeOnly'_eq, List.mapM_toArray, map_eq_pure_bind]
      refine wpAny_bind (wpAny_bind (wpAny_bind (kas_mapM (r := Value.type "tuple") _ (fun v hv Q' hq => (fsts_ty F v hv).here hq) (wpAny_pure ?_))))
      have hall : ((List.map (fun _ => Value.type "tuple") vs).toArray.all fun x => x == Value.type "tuple") = true := by
        simp only [List.all_toArray, List.all_map, List.all_eq_true]
        intro _ _
        exact beq_self_eq_true _
      have h0 : (List.map (fun _ => Value.type "tuple") vs).toArray[0]? = some (Value.type "tuple") := by
        cases vs with
        | nil => simp at h2
        | cons v vs => simp
      rw [h0]
      simp only [hall, if_true]
      exact wpAny_pure (wpAny_pure hq)
theorem sortedHeap_ne {h : Heap} {a b : Addr} {vs : List Value} {out : Array Value} {o : Obj} (hb : b ≠ a) (e : h.get? b = some o) : (sortedHeap h a vs out).get? b = some o :=
  (Heap.get?_update_other _ _ (Ne.symm hb)).trans (sortingHeap_old hb e)
theorem sortedHeap_self {h : Heap} {a : Addr} {vs : List Value} {out : Array Value} {n : Nat} (e : h.get? a = some (seqObj "list" vs.toArray n)) : ∃ m, (sortedHeap h a vs out).get? a = some (seqObj "list" out m) := by
  have hlt := Heap.lt_size e
  have e1 := Heap.get?_update_self (Obj.mapSeq fun _ => (#[] : Array Value)) e rfl
  have e2 : (((h.update a (Obj.mapSeq fun _ => #[])).push (seqObj "tuple" vs.toArray 0)).push (seqObj "list" #[] 0)).get? a = _ := Heap.get?_push_of_some _ (Heap.get?_push_of_some _ e1)
  exact ⟨_, get?_update_seq e2 fun _ => out⟩
/-- sorted(v): v's items are collected, then sorted -/
theorem sorted_col {v : Value} {Q : Value → Shared → Prop} {Wok : List Value → Prop}
    (hc : ∀ Q' : List Value → Shared → Prop, (∀ (h1 : Heap) (tk : Nat) (vs : List Value), (∀ b o, s.heap.get? b = some o → h1.get? b = some o) → Wok vs → Q' vs { s with heap := h1, toks := tk }) → wpAny (model prog w) A.in1 (collect v) Q' E s) (ha : argsOk "sorted" ⟨[v], []⟩)
    (k : ∀ (h1 : Heap) (tk : Nat) (vs : List Value), (∀ b o, s.heap.get? b = some o → h1.get? b = some o) → Wok vs → vs.length ≤ sizeLine ∧ ∃ κ : PyProof.Rows.KeyKind, SortsAt prog w A.in1.in1 { s with heap := sortingHeap (h1.push (seqObj "list" vs.toArray 0)) h1.objs.size vs, toks := tk } κ vs ∧
      Q (.ref h1.objs.size) { s with heap := sortedHeap (h1.push (seqObj "list" vs.toArray 0)) h1.objs.size vs (sortVals κ false vs vs).toArray, toks := tk }) : wpAny (model prog w) A (call (.builtin "sorted") [v]) Q E s := by
  refine call_function_entry_kw kind_sorted plain_sorted entry_sorted ha ?_
  unfold Builtin.«sorted»
  refine wpAny_bind (m := checkCount "sorted" 1 1 _) (wpAny_pure ?_)
  refine wpAny_bind (hc _ fun h1 tk vs hx hw => ?_)
  obtain ⟨hL, κ, S, hq⟩ := k h1 tk vs hx hw
  refine wpAny_bind (wpAny_newList ?_ hL)
  have hl : (h1.push (seqObj "list" vs.toArray 0)).get? h1.objs.size = some (seqObj "list" vs.toArray 0) := Heap.get?_push_size _ rfl
  refine wpAny_bind (wpAny_holding (wpAny_call_entry_kw slot_list_sort ⟨_, hl, rfl⟩ entry_list_sort ?body (args_list_sort _)))
  case body =>
    show wpAny (model prog w) A.in1.in1 (Builtin.«list.sort» ⟨[.ref h1.objs.size], []⟩) _ _ _
    exact list_sort_vals (s := { s with heap := h1.push (seqObj "list" vs.toArray 0), toks := tk }) hl S hL ⟨_, rfl, wpAny_pure ⟨_, rfl, hq⟩⟩
end
/-! ### the rules -/
section
variable {X : Cx} {σ : L2.St} {H : Hp} {a : Expr} {p pos : Pos}
/-- pairs of values -/
theorem each_of {β : Type} {R : Value → β → Prop} {R2 : V → β → Prop} (h : ∀ u b, R u b → ∃ x, RelV x u ∧ R2 x b) : ∀ {us : List Value} {bs : List β}, PySem.W.EachIs R us bs → ∃ xs, Vals xs us ∧ Paired R2 xs bs
  | _, _, .nil => ⟨[], .nil, .nil⟩
  | _, _, .cons h1 t => by
    obtain ⟨x, r1, r2⟩ := h _ _ h1
    obtain ⟨xs, q1, q2⟩ := each_of h t
    exact ⟨x :: xs, .cons r1 q1, .cons r2 q2⟩
theorem ims_of_pair {β : Type} {enc : β → PyData} {H : Hp} : ∀ {xs : List V} {bs : List β}, Paired (fun x b => Im H x (enc b)) xs bs → Ims H xs (bs.map enc)
  | _, _, .nil => .nil
  | _, _, .cons h1 t => .cons h1 (ims_of_pair t)
theorem each_im {β : Type} {enc : β → PyData} {H : Hp} : ∀ {bs : List β} {xs : List V} {us : List Value}, Ims H xs (bs.map enc) → Vals xs us → PySem.W.EachIs (fun u b => ∃ x, RelV x u ∧ Im H x (enc b)) us bs
  | [], _, _, h, r => by
    have h : Ims H _ [] := h
    cases h
    cases r
    exact .nil
  | b :: bs, _, _, h, r => by
    have h : Ims H _ (enc b :: bs.map enc) := h
    cases h with
    | cons h1 h2 =>
      cases r with
      | cons r1 r2 => exact .cons ⟨_, r1, h1⟩ (each_im h2 r2)
/-- which data can be sorted here -/
def Srt (ds : List PyData) : Prop := PySem.W.Sortable ds ∨ ∀ d, d ∈ ds → ∃ r, d = .tuple r
open PySem.W in
theorem srt_at {prog : Program} {w : World} {A : Around} {s : Shared} {vs : List Value} {ds : List PyData} (e : EachIs (fun v d => ∃ as, Reads s.heap v d as) vs ds) (hal : AllAlike ds) (hk : Srt ds) (hu : ∀ d, d ∈ ds → A.units + d.depth < cLine) : SortsAt prog w A s (dataKind s.heap ds) vs := by
  rcases hk with h | h
  · exact SortsAt.data e hal h hu
  · exact sortsAt_tups e hal h hu
open PySem.W in
/-- the end of a sort: the new list is tracked -/
theorem sort_done {β : Type} {enc : β → PyData} {bs : List β} {pins : List (Addr × Obj)} {s : Shared} {out us : List Value} {h2 : Heap} {tk : Nat} {q : Addr} {n : Nat} {Q : VK} (I : Inv X pins σ H s) (kp : ∀ b o, s.heap.get? b = some o → h2.get? b = some o) (hq : s.heap.objs.size ≤ q)
    (at_ : h2.get? q = some (seqObj "list" out.toArray n)) (e : EachIs (fun u b => ∃ x, RelV x u ∧ Im H x (enc b)) out bs) (hL : bs.length ≤ 1000000) (g : Go (rF (bs.map enc)) H Q) : EP X pins σ Q (.ref q) { s with heap := h2, toks := tk } := by
  obtain ⟨xs, r1, r2⟩ := each_of (R2 := fun x b => Im H x (enc b)) (fun u b h => h) e
  have im := ims_of_pair r2
  have hn : H q = none := I.hok.fresh hq
  have hz : xs.length ≤ sizeLine := by
    rw [im.len, List.length_map]
    exact sz6 hL
  exact ⟨.ref q, upd H q (.lst xs), I.laid kp hq ⟨hz, out, n, r1, at_⟩, rfl, g _ _ (Ex.new hn) ⟨q, xs, rfl, hn, upd_same, im.ex (Ex.new hn)⟩⟩
open PySem.W in
theorem cr_sortD {β : Type} (enc : β → PyData) (bs : List β) (hal : AllAlike (bs.map enc)) (hk : Srt (bs.map enc)) (hL : bs.length ≤ 1000000) (hd : ∀ b ∈ bs, (enc b).depth ≤ 32) (hu : X.A.units + 64 < cLine) :
    CallR X (.builtin "sorted") (fun vs H Q => ∃ q xs, vs = [.ref q] ∧ H q = some (.lst xs) ∧ Ims H xs (bs.map enc) ∧ Go (rF ((bs.mergeSort (dataLe false enc)).map enc)) H Q) := by
  intro pins s σ H vs us Q I r h
  obtain ⟨q, xs, rfl, hq, im, g⟩ := h
  obtain ⟨its, rv, hl, _⟩ := I.list (SqL.of (K := X.K) hq)
  rw [Vals.ref1 r]
  have ez := each_im im rv
  have rd : ∀ (hp : Heap), (∀ b o, s.heap.get? b = some o → hp.get? b = some o) → EachIs (fun v b => ∃ as, Reads hp v (enc b) as) its bs := fun hp kp => ez.mono fun u b ⟨x, r1, r2⟩ => by
    obtain ⟨as, z⟩ := Dp.reads I (enc b) x u (Im.dp _ r2) r1
    exact ⟨as, PyProof.Rows.Reads.keeps kp z⟩
  have er := rd (sortingHeap (copyHeap s.heap its) (s.heap.objs.size + 1) its) fun b o => sorting_copy_old
  have hlen : its.length = bs.length := ez.length
  refine sorted_vals (κ := dataKind (sortingHeap (copyHeap s.heap its) (s.heap.objs.size + 1) its) (bs.map enc)) hl.isList (srt_at (s := { s with heap := sortingHeap (copyHeap s.heap its) (s.heap.objs.size + 1) its }) (each_map (R := fun v d => ∃ as, Reads (sortingHeap (copyHeap s.heap its) (s.heap.objs.size + 1) its) v d as) enc er) hal hk fun d hd' => ?_) (by rw [hlen]; exact sz6 hL) ?_
  · obtain ⟨b, hb, rfl⟩ := List.mem_map.mp hd'
    have z := hd b hb
    show X.A.units + 1 + 1 + _ < cLine
    omega
  · obtain ⟨ep, he'⟩ := PyProof.Rows.sortedAll_at s.heap its (sortVals (dataKind (sortingHeap (copyHeap s.heap its) (s.heap.objs.size + 1) its) (bs.map enc)) false its its).toArray
    exact sort_done (tk := s.toks) (us := its) I (fun _ _ => PyProof.Rows.sortedAll_old) (Nat.le_succ _) he' (sortVals_data false ez er hal) (by rw [(List.mergeSort_perm _ _).length_eq]; exact hL) g
theorem ev_sorted {β : Type} {ds : List PyData} (bs : List β) (enc : β → PyData) (hm : X.mg "sorted" = none) (hu : X.A.units + 64 < cLine) (ha : Ev X a σ H (rL ds)) (hds : ds = bs.map enc) (hal : PySem.W.AllAlike (bs.map enc)) (hk : Srt (bs.map enc)) (hL : bs.length ≤ 1000000) (hd : ∀ b ∈ bs, (enc b).depth ≤ 32)
    (hg : Gl X "sorted" := by rfl) (he : starEach [a] X.env = (false, eval a X.env) :: starEach [] X.env := by rfl) (hpl : (backTo pos (starEach [] X.env)).any (·.1) = false := by rfl) :
    Ev X (.Call (.Name "sorted" p) [a] [] pos) σ H (rF ((bs.mergeSort (PySem.W.dataLe false enc)).map enc)) := by
  subst hds
  exact ev_cb (cr_sortD enc bs hal hk hL hd hu) hm (by decide +kernel) (eac ha ea0 he) (fun S vs H2 Q _ _ hv q => by
    obtain ⟨v, rfl, p, xs, rfl, h1, h2⟩ := one_arg hv
    exact ⟨p, xs, rfl, h1, h2, q⟩) hg (by decide) (by decide) he hpl
open PySem.W in
theorem each_signs {l : List Nat} : ∀ {acc : List Value}, acc.length = l.length → (∀ (j : Nat) (v : Value), acc[j]? = some v → ∃ c t, l[j]? = some c ∧ v = .str ⟨#[c]⟩ t) → EachIs (fun u (n : Nat) => ∃ t, u = Value.str ⟨#[n]⟩ t) acc l := by
  induction l with
  | nil =>
    intro acc h _
    cases acc with
    | nil => exact .nil
    | cons _ _ => simp at h
  | cons c l ih =>
    intro acc h q
    cases acc with
    | nil => simp at h
    | cons u acc =>
      obtain ⟨c', t, e1, e2⟩ := q 0 u rfl
      simp at e1
      subst e1
      exact .cons ⟨t, e2⟩ (ih (by simpa using h) fun j v e => by simpa using q (j + 1) v (by simpa using e))
open PySem.W in
theorem cr_sortS (hc : X.calm = true) (l : List Nat) (hL : l.length ≤ 1000000) (hu : X.A.units + 64 < cLine) :
    CallR X (.builtin "sorted") (fun vs H Q => vs = [.str (T l)] ∧ Go (rF (sgs (l.mergeSort (dataLe false fun n => .str (T [n]))))) H Q) := by
  intro pins s σ H vs us Q I r h
  obtain ⟨rfl, g⟩ := h
  obtain ⟨u, rfl, tk0, rfl⟩ : ∃ u, us = [u] ∧ RelV (.str (T l)) u := by
    cases r with
    | cons r1 r2 =>
      cases r2
      exact ⟨_, rfl, r1⟩
  have hh : X.A.handled = none := I.ok.hd hc
  have al : AllAlike (l.map fun n => PyData.str (T [n])) := .of fun _ _ => by simp [alike]
  refine sorted_col (Wok := fun vs => EachIs (fun u (n : Nat) => ∃ t, u = Value.str ⟨#[n]⟩ t) vs l) (fun Q' k => ?_) (args_sorted1 _) fun h1 tk vs kp ez => ?_
  · refine PySem.wpAny_collect_str (A := X.A.in1) hh (T l) tk0 (fun s' acc kp g1 g2 g3 it => ?_) (by have z := T_len l; show (T l).length ≤ _; rw [z]; exact sz6 hL)
    obtain ⟨h', g', d', t', o'⟩ := s'
    simp only at g1 g2 g3
    subst g1 g2 g3
    refine k h' t' acc.toList kp (each_signs ?_ fun j v e => ?_)
    · rw [Array.length_toList, it.1]
      simp [T]
    · obtain ⟨c, t, c1, c2⟩ := it.2 j v (by rw [← Array.getElem?_toList]; exact e)
      exact ⟨c, t, by simpa [T] using c1, c2⟩
  · have hlen : vs.length = l.length := ez.length
    have rd : ∀ hp : Heap, EachIs (fun v (n : Nat) => ∃ as, Reads hp v (.str (T [n])) as) vs l := fun hp => ez.mono fun u n ⟨t, e⟩ => ⟨[], by subst e; exact Reads.str _ _⟩
    have hl : (h1.push (seqObj "list" vs.toArray 0)).get? h1.objs.size = some (seqObj "list" vs.toArray 0) := Heap.get?_push_size _ rfl
    refine ⟨by rw [hlen]; exact sz6 hL, dataKind (sortingHeap (h1.push (seqObj "list" vs.toArray 0)) h1.objs.size vs) (l.map fun n => .str (T [n])), SortsAt.data (s := { s with heap := sortingHeap (h1.push (seqObj "list" vs.toArray 0)) h1.objs.size vs, toks := tk }) (each_map (R := fun v d => ∃ as, Reads (sortingHeap (h1.push (seqObj "list" vs.toArray 0)) h1.objs.size vs) v d as) _ (rd _)) al (.others fun n => ⟨by simp, by simp⟩) (fun d hd => ?_), ?_⟩
    · obtain ⟨n, _, rfl⟩ := List.mem_map.mp hd
      show X.A.units + 1 + 1 + 0 < cLine
      omega
    · obtain ⟨m, hm⟩ := sortedHeap_self (out := (sortVals (dataKind (sortingHeap (h1.push (seqObj "list" vs.toArray 0)) h1.objs.size vs) (l.map fun n => .str (T [n]))) false vs vs).toArray) hl
      have kp2 : ∀ b o, h1.get? b = some o → (sortedHeap (h1.push (seqObj "list" vs.toArray 0)) h1.objs.size vs (sortVals (dataKind (sortingHeap (h1.push (seqObj "list" vs.toArray 0)) h1.objs.size vs) (l.map fun n => .str (T [n]))) false vs vs).toArray).get? b = some o := fun b o e =>
        sortedHeap_ne (Nat.ne_of_lt (Heap.lt_size e)) (Heap.get?_push_of_some _ e)
      have I1 : Inv X pins σ H { s with heap := h1, toks := tk } := I.kept kp
      exact sort_done (s := { s with heap := h1, toks := tk }) (enc := fun n => .str (T [n])) (tk := tk) (us := vs) I1 kp2 (Nat.le_refl _) hm (sortVals_data (h' := sortingHeap (h1.push (seqObj "list" vs.toArray 0)) h1.objs.size vs) (R := fun u n => ∃ x, RelV x u ∧ Im H x (.str (T [n]))) false (ez.mono fun u n ⟨t, e⟩ => ⟨.str (T [n]), ⟨t, e⟩, .str _⟩) (rd _) al) (by rw [(List.mergeSort_perm _ _).length_eq]; exact hL) g
/-- the signs of a text, sorted -/
def srtS (l : List Nat) : List Nat := l.mergeSort (PySem.W.dataLe false fun n => .str (T [n]))
theorem srtS_perm (l : List Nat) : (srtS l).Perm l := List.mergeSort_perm _ _
theorem ev_sortedS {l : List Nat} (hc : X.calm = true) (hm : X.mg "sorted" = none) (hu : X.A.units + 64 < cLine) (ha : Ev X a σ H (rS l)) (hL : l.length ≤ 1000000)
    (hg : Gl X "sorted" := by rfl) (he : starEach [a] X.env = (false, eval a X.env) :: starEach [] X.env := by rfl) (hpl : (backTo pos (starEach [] X.env)).any (·.1) = false := by rfl) :
    Ev X (.Call (.Name "sorted" p) [a] [] pos) σ H (rF (sgs (srtS l))) :=
  ev_cb (cr_sortS hc l hL hu) hm (by decide +kernel) (eac ha ea0 he) (fun S vs H2 Q _ _ hv q => by
    obtain ⟨v, rfl, h1⟩ := one_arg hv
    exact ⟨by rw [Im.estr h1], q⟩) hg (by decide) (by decide) he hpl
end
end Lk

set_option maxHeartbeats 1000000
/-! Dicts: made, written, walked under a lock; dict comprehensions; stores to lists. -/
namespace Lk
open PySem PySem.Spec PyProof.Rows L2
open Evl (Ex)
/-- a new dict -/
def rFM (ks : Kd) : Rp := ⟨fun S v H => ∃ a kvs, v = .ref a ∧ S a = none ∧ H a = some (.dK kvs) ∧ DkR H kvs ks, fun e ⟨a, kvs, h1, h0, h2, h3⟩ => ⟨a, kvs, h1, h0, e _ _ h2, h3.ex (tu_ex e)⟩, fun e ⟨a, kvs, h1, h0, h2, h3⟩ => ⟨a, kvs, h1, Evl.fresh_back e h0, h2, h3⟩⟩
/-- k, with d -/
def pK (ks : Kd) (k : Key) (d : PyData) : Kd := if (ks.any fun p => decide (p.1 = k)) = true then ks.map (fun p => if p.1 = k then (p.1, d) else p) else ks ++ [(k, d)]
theorem DkR.any {H : Hp} {k : Key} : ∀ {kvs : List (Key × V)} {ks : Kd}, DkR H kvs ks → (kvs.any fun p => decide (p.1 = k)) = ks.any fun p => decide (p.1 = k)
  | _, _, .nil => rfl
  | _, _, .cons ⟨h1, _⟩ t => by rw [List.any_cons, List.any_cons, DkR.any t, h1]
theorem DkR.app {H : Hp} : ∀ {kvs : List (Key × V)} {ks : Kd} {k : Key} {v : V} {d : PyData}, DkR H kvs ks → Im H v d → DkR H (kvs ++ [(k, v)]) (ks ++ [(k, d)])
  | _, _, _, _, _, .nil, h => .cons ⟨rfl, h⟩ .nil
  | _, _, _, _, _, .cons a t, h => .cons a (DkR.app t h)
theorem DkR.repl {H : Hp} {k : Key} {v : V} {d : PyData} (h : Im H v d) : ∀ {kvs : List (Key × V)} {ks : Kd}, DkR H kvs ks → DkR H (kvs.map fun kv => if kv.1 = k then (kv.1, v) else kv) (ks.map fun p => if p.1 = k then (p.1, d) else p)
  | _, _, .nil => .nil
  | p :: kvs, q :: ks, .cons ⟨h1, h2⟩ t => by
    refine .cons ?_ (DkR.repl h t)
    show (if p.1 = k then (p.1, v) else p).1 = (if q.1 = k then (q.1, d) else q).1 ∧ Im H (if p.1 = k then (p.1, v) else p).2 (if q.1 = k then (q.1, d) else q).2
    by_cases e : q.1 = k
    · rw [if_pos (h1.trans e), if_pos e]
      exact ⟨h1, h⟩
    · rw [if_neg (fun z => e (h1.symm.trans z)), if_neg e]
      exact ⟨h1, h2⟩
theorem DkR.put {H : Hp} {k : Key} {v : V} {d : PyData} {kvs : List (Key × V)} {ks : Kd} (r : DkR H kvs ks) (h : Im H v d) : DkR H (putK kvs k v) (pK ks k d) := by
  unfold putK pK
  rw [r.any]
  split
  · exact DkR.repl h r
  · exact r.app h
theorem pK_new {ks : Kd} {k : Key} {d : PyData} (h : lookK ks k = none) : pK ks k d = ks ++ [(k, d)] := by
  unfold pK
  rw [if_neg]
  intro z
  obtain ⟨p, hp, e⟩ := List.any_eq_true.mp z
  have q : ks.find? (fun p => decide (p.1 = k)) = none := by
    unfold lookK at h
    simpa using h
  have q2 := List.find?_eq_none.mp q p hp
  exact q2 e
theorem pK_len (ks : Kd) (k : Key) (d : PyData) : (pK ks k d).length ≤ ks.length + 1 := by
  unfold pK
  split
  · rw [List.length_map]
    omega
  · rw [List.length_append]
    exact Nat.le_refl _
section
variable {X : Cx} {σ : L2.St} {H H' : Hp} {e a b c : Expr} {es : List Expr} {pos p p2 : Pos} {ρ ρ1 ρ2 ρ3 : Rp} {D : Ends} {rest : List Stmt}
theorem ev_mk {ks : Kd} (h : Ev X e σ H (rFM ks)) : Ev X e σ H (rM ks) := h.imp fun _ _ _ _ _ ⟨a, kvs, h1, _, h2, h3⟩ => ⟨a, kvs, h1, .inl h2, h3⟩
theorem ev_d0 : Ev X (.Dict [] [] pos) σ H (rFM []) := fun H1 e1 Q q => ⟨_, pe_dnewK, fun p hp => q _ _ (Ex.new hp) ⟨p, [], rfl, hp, upd_same, .nil⟩⟩
/-- d[k] = v at a dict that may change -/
theorem w_dput {o i : Expr} {pos' : Pos} {a : Addr} {kvs : List (Key × V)} {k : Key} (hu : X.A.units + 1 < cLine) (he : Ev X e σ H ρ) (ho : Ev X o σ H (rV (.ref a))) (hi : Ev X i σ H (rV (kV k))) (ha : H a = some (.dK kvs)) (hz : kvs.length ≤ 100000)
    (q : ∀ v H1, Ex H H1 → ρ.r H v H1 → Wm X rest D σ (upd H1 a (.dK (putK kvs k v)))) (hs : swapsWith e (some (.Subscript o i pos')) pos.line X.env = pure false := by rfl) : Wm X (.Assign [.Subscript o i pos'] e pos :: rest) D σ H :=
  w_cons ⟨_, ps_dput hu we_ok we_ok we_ok hs, he H (Ex.refl H) _ fun v H1 e1 h1 => ho H1 e1 _ fun x H2 e2 h2 => hi H2 (e1.trans e2) _ fun y H3 e3 h3 => by
    have h2 : x = .ref a := h2
    have h3 : y = kV k := h3
    subst h2 h3
    exact ⟨a, _, rfl, DPut.k (((e1.trans e2).trans e3) _ _ ha) (Nat.lt_of_le_of_lt hz (by rw [sizeLine_eq]; decide)), q v H3 ((e1.trans e2).trans e3) (ρ.m (e2.trans e3) h1)⟩⟩
/-- l[i] = v at a list that may change -/
theorem w_lput {o i : Expr} {pos' : Pos} {a : Addr} {xs : List V} {n : Int} {j : Nat} (he : Ev X e σ H ρ) (ho : Ev X o σ H (rV (.ref a))) (hi : Ev X i σ H (rI n)) (ha : H a = some (.lst xs)) (hj : ixN xs.length n = some j)
    (q : ∀ v H1, Ex H H1 → ρ.r H v H1 → Wm X rest D σ (upd H1 a (.lst (xs.set j v)))) (hs : swapsWithSole [.Subscript o i pos'] e pos.line X.env = pure false := by rfl) (hw : swappedStores [.Subscript o i pos'] e X.env = pure none := by rfl) (hg : PG X (.Subscript o i pos') (gSub (We X o) (We X i) rSetL) := by exact pg_sub we_ok we_ok set_list) : Wm X (.Assign [.Subscript o i pos'] e pos :: rest) D σ H :=
  w_cons ⟨_, ps_asg we_ok hg hs hw, he H (Ex.refl H) _ fun v H1 e1 h1 => ho H1 e1 _ fun x H2 e2 h2 => hi H2 (e1.trans e2) _ fun y H3 e3 h3 => by
    have h2 : x = .ref a := h2
    subst h2
    exact ⟨a, xs, n, j, rfl, Im.eint h3, ((e1.trans e2).trans e3) _ _ ha, hj, q v H3 ((e1.trans e2).trans e3) (ρ.m (e2.trans e3) h1)⟩⟩
/-- l.append(v) at a list that may change -/
theorem w_app {o : Expr} {apos cpos : Pos} {a : Addr} {xs : List V} (ho : Ev X o σ H (rV (.ref a))) (he : Ev X e σ H ρ) (ha : H a = some (.lst xs)) (hz : xs.length ≤ 100000) (q : ∀ v H1, Ex H H1 → ρ.r H v H1 → Wm X rest D σ (upd H1 a (.lst (xs ++ [v]))))
    (hb : PE X (.Call (.Attribute o "append" apos) [e] [] cpos) (tBM X.K "list" rAppend (We X o) (Wa X [e])) := by exact pe_bm PySem.F.plainAttrs_list PySem.F.slot_list_append PySem.F.type_list_append mt_append we_ok wa_ok)
    (hs : swapsWith (.Call (.Attribute o "append" apos) [e] [] cpos) none pos.line X.env = pure false := by rfl) (hse : starEach [e] X.env = (false, eval e X.env) :: starEach [] X.env := by rfl) :
    Wm X (.Expr (.Call (.Attribute o "append" apos) [e] [] cpos) pos :: rest) D σ H :=
  w_expr ⟨_, hb, ho H (Ex.refl H) _ fun x H1 e1 h1 => by
    have h1 : x = .ref a := h1
    subst h1
    exact ⟨.inl ⟨rfl, xs, SqL.of (e1 _ _ ha)⟩, eac he ea0 hse H1 e1 _ fun vs H2 e2 h2 => by
      obtain ⟨v, rfl, h3⟩ := one_arg h2
      exact ⟨a, xs, v, rfl, rfl, (e1.trans e2) _ _ ha, Nat.lt_of_le_of_lt hz (by rw [sizeLine_eq]; decide), q v H2 (e1.trans e2) (ρ.n e1 h3)⟩⟩⟩ hs
/-- an expression while a dict is walked -/
theorem ev_lock {d : Addr} {kvs : List (Key × V)} {ds : List PyData} (hd : H d = some (.dK kvs)) (h : ∀ od, Ev X e σ (upd H d (.frz od (.dK kvs))) (rF ds)) : Ev X e σ H (rF ds) := fun H1 e1 Q q =>
  ⟨_, pe_lock we_ok, d, .dK kvs, e1 _ _ hd, trivial, fun od => by
    have e2 : Ex (upd H d (.frz od (.dK kvs))) (upd H1 d (.frz od (.dK kvs))) := fun b u z => by
      by_cases n : b = d
      · rw [n, upd_same] at z
        rw [n, upd_same]
        exact z
      · rw [upd_ne n] at z ⊢
        exact e1 _ _ z
    refine h od _ e2 _ fun v H2 e3 ⟨p, xs, h1, h0, h2, h3⟩ => ?_
    subst h1
    have nd : p ≠ d := fun z => by rw [z, upd_same] at h0; cases h0
    have hd2 : H2 d = some (.frz od (.dK kvs)) := e3 _ _ upd_same
    refine ⟨hd2, q _ _ (fun b u z => ?_) ⟨p, xs, rfl, by rw [upd_ne nd] at h0; exact h0, by rw [upd_ne nd]; exact h2, h3.tu fun b ys z => ?_⟩⟩
    · by_cases n : b = d
      · subst n
        rw [e1 _ _ hd] at z
        cases z
        exact upd_same
      · rw [upd_ne n]
        exact e3 _ _ (by rw [upd_ne n]; exact z)
    · have n : b ≠ d := fun w => by rw [w, hd2] at z; cases z
      rw [upd_ne n]
      exact z⟩
theorem nodup_ixA {α : Type} {N : List α} (hN : N.Nodup) {i j : Nat} {x : α} (a : N[i]? = some x) (b : N[j]? = some x) : i = j := by
  obtain ⟨h1, e1⟩ := List.getElem?_eq_some_iff.mp a
  obtain ⟨h2, e2⟩ := List.getElem?_eq_some_iff.mp b
  exact (List.getElem_inj hN).mp (e1.trans e2.symm)
def kD : Key → PyData
  | .inl i => .int i
  | .inr x => .str x
theorem im_k (H : Hp) (k : Key) : Im H (kV k) (kD k) := by
  rcases k with k | k
  · exact .int _
  · exact .str _
/-- the keys of a locked dict -/
theorem wk_k {tg : Expr} {d : Addr} {od : Obj} {kvs : List (Key × V)} (ha : Ev X e σ H (rV (.ref d))) (hd : H d = some (.frz od (.dK kvs))) : Wk X tg e σ H (kvs.map fun p => kD p.1) := fun H1 e1 R k =>
  ⟨_, pi_keys we_ok, ha H1 e1 _ fun v H2 e2 h1 => by
    have h1 : v = .ref d := h1
    subst h1
    have hd2 := (e1.trans e2) _ _ hd
    refine ⟨d, od, rfl, .inl ⟨kvs, hd2, k _ H2 (fun H3 => H3 d = some (.frz od (.dK kvs))) e2 hd2 (fun H3 H4 g e => e _ _ g) (fun l u hl hu hB => ?_) ?_⟩⟩
    · exact ex_off (e1.trans e2) hB _ _ hd
    · have w := walk_keys (d := d) (o := od) (kvs := kvs)
      rw [List.length_map]
      exact w.mono (fun H g => g) fun i H x H' hi g y => by
        obtain ⟨y1, k, v, y2, y3⟩ := y
        subst y1
        subst y3
        exact ⟨Ex.refl _, kD k, by rw [List.getElem?_map, y2] <;> rfl, im_k _ _⟩⟩
/-! ### {k: v for ..} -/
/-- one turn: the key, the value -/
def Td (X : Cx) (tg : Expr) (kx vx : Expr) (scope : Scope) (vs : List Nat) (σ : L2.St) (B : Hp) (d : PyData) (k : Key) (g : PyData) : Prop :=
  ∀ x H, Ex B H → Im H x d → ∃ σ2, Bk X scope (fun Y => Tg Y tg x (wipe σ vs) H σ2) ∧ wipe σ2 vs = wipe σ vs ∧ (Bk X scope fun Y => Ev Y kx σ2 H (rV (kV k))) ∧ (Bk X scope fun Y => Ev Y vx σ2 H (rD g))
theorem ev_dc {α : Type} {tg it kx vx : Expr} {scope : Scope} {ds : List PyData} (own : List (Str × Nat)) (xs : List α) (enc : α → PyData) (key : α → Key) (g : α → PyData) (hc : X.calm = true) (hN : X.N.Nodup) (w : Wk X tg it σ H ds) (hd : ds = xs.map enc) (hz : xs.length ≤ 100000)
    (nd : (xs.map key).Nodup) (h : ∀ z, z ∈ xs → Td X tg kx vx scope (own.map (·.2)) σ H (enc z) (key z) (g z)) (ok : blkC X.N X.env.scope scope own = true := by rfl) (hs : ∀ x, foldedSetIterable it X.env x = pure x := by intro _; rfl) :
    Ev X (.DictComp kx vx [⟨tg, it, [], 0⟩] scope pos) σ H (rFM (xs.map fun z => (key z, g z))) := fun H1 e1 Q q => by
  subst hd
  refine ⟨_, pe_dc (g := cG X scope tg) (tt := tYes) (tk := cE X scope kx) (tv := cE X scope vx) hc hN wi_ok (blkOk_by ok) cg_ok (fun _ _ _ _ _ => pts_nil) ce_ok ce_ok hs, ?_⟩
  refine w H1 e1 _ fun J H2 G e2 g1 g2 g3 wk Dl hD => ?_
  have P0 : Ex H2 (upd H2 Dl (.dK [])) := Ex.new hD
  refine ⟨fun i m H' => m = xs.length - i ∧ i ≤ xs.length ∧ Ex H2 H' ∧ ∃ kvs, H' Dl = some (.dK kvs) ∧ DkR H' kvs ((xs.take i).map fun z => (key z, g z)), ⟨xs.length, by simp, Nat.zero_le _, P0, [], upd_same, .nil⟩, ?_⟩
  rintro i m H' ⟨rfl, hi, p1, kvs, p2, p3⟩
  have gg := g2 _ _ g1 p1
  rw [List.length_map] at wk
  by_cases hlt : i < xs.length
  · refine .inr ⟨wk.goes i H' hlt gg, fun H'' => i + 1 ≤ xs.length ∧ Ex H2 H'' ∧ ∃ kvs, H'' Dl = some (.dK kvs) ∧ DkR H'' kvs ((xs.take (i + 1)).map fun z => (key z, g z)), fun H'' p => ⟨xs.length - (i + 1), by omega, rfl, p.1, p.2⟩, fun x H3 y => ?_⟩
    obtain ⟨e3, d, hd, im⟩ := wk.yields i H' x H3 hlt gg y
    rw [List.getElem?_map, List.getElem?_eq_getElem hlt, Option.map_some] at hd
    cases hd
    obtain ⟨σ2, t1, t2, t3, t4⟩ := h xs[i] (List.getElem_mem hlt) x H3 (((e1.trans e2).trans p1).trans e3) im
    refine fun s H0 C cl fp => t1 s H0 C cl fp _ ⟨t2, ?_⟩
    simp only [tYes, ↓reduceIte]
    refine fun s H0 C cl fp => t3 s H0 C cl fp H3 (Ex.refl _) _ fun y H4 e4 hy => ?_
    have hy : y = kV (key xs[i]) := hy
    refine fun s H0 C cl fp => t4 s H0 C cl fp H4 e4 _ fun v H5 e5 hv => ?_
    have dl5 := e5 _ _ (e4 _ _ (e3 _ _ p2))
    have tu : Tu H5 (upd H5 Dl (.dK (putK kvs (key xs[i]) v))) := fun b ys z => by
      have n : b ≠ Dl := fun w => by rw [w, dl5] at z; cases z
      rw [upd_ne n]
      exact z
    have tk : xs.take (i + 1) = xs.take i ++ [xs[i]] := by rw [List.take_succ, List.getElem?_eq_getElem hlt] <;> rfl
    have ln : lookK ((xs.take i).map fun z => (key z, g z)) (key xs[i]) = none := by
      unfold lookK
      rw [Option.map_eq_none_iff, List.find?_eq_none]
      intro p hp
      obtain ⟨z, hz, rfl⟩ := List.mem_map.mp hp
      rw [decide_eq_true_eq]
      intro e
      have e : key z = key xs[i] := e
      obtain ⟨j, hj, ej⟩ := List.getElem_of_mem hz
      have hj' : j < i := by
        rw [List.length_take] at hj
        omega
      rw [List.getElem_take] at ej
      have q1 : (xs.map key)[j]? = some (key z) := by rw [List.getElem?_map, List.getElem?_eq_getElem (by omega), Option.map_some, ej]
      have q2 : (xs.map key)[i]? = some (key z) := by rw [List.getElem?_map, List.getElem?_eq_getElem hlt, Option.map_some, e]
      have := nodup_ixA nd q1 q2
      omega
    refine ⟨kvs, key xs[i], hy, dl5, ?_, hlt, fun b u z => ?_, _, upd_same, ?_⟩
    · rw [p3.len, List.length_map, List.length_take, sizeLine_eq]
      omega
    · rw [upd_ne (ne_of_none z hD)]
      exact e5 _ _ (e4 _ _ (e3 _ _ (p1 _ _ z)))
    · rw [tk, List.map_append, List.map_singleton, ← pK_new ln]
      exact ((p3.ex (tu_ex ((e3.trans e4).trans e5))).put hv).ex tu
  · have e : i = xs.length := by omega
    subst e
    rw [List.take_length] at p3
    exact .inl ⟨wk.stops H' gg, q _ H' (e2.trans p1) ⟨Dl, kvs, rfl, Evl.fresh_back e2 hD, p2, p3⟩⟩
end
end Lk

set_option maxHeartbeats 1000000
/-! The defs of tables. -/
namespace Lk
open PySem PySem.Spec PyProof.Rows L2
open Evl (Ex)
/-! ### units, signs, entries -/
abbrev U := Int × Int × Int
def eU (u : U) : PyData := .tuple [.int u.1, .int u.2.1, .int u.2.2]
def eUs (us : List U) : PyData := .tuple (us.map eU)
structure OkU (u : U) : Prop where
  a : 1 ≤ u.1 ∧ u.1 ≤ 999
  b : 0 ≤ u.2.1 ∧ u.2.1 ≤ 99
  c : 0 ≤ u.2.2 ∧ u.2.2 ≤ 99
def OkUs (us : List U) : Prop := us.length ≤ 3 ∧ ∀ u ∈ us, OkU u
def OkC (c : Nat) : Prop := 33 ≤ c ∧ c ≤ 126 ∧ c ≠ 37
structure OkSg (sg : List Nat) : Prop where
  one : 1 ≤ sg.length
  most : sg.length ≤ 12
  nd : sg.Nodup
  ok : ∀ c ∈ sg, OkC c
structure OkSq (sg k : List Nat) : Prop where
  one : 1 ≤ k.length
  most : k.length ≤ 3
  ok : ∀ c ∈ k, c ∈ sg
abbrev En1 := List Nat × List U
def eE (e : En1) : PyData := .tuple [.str (T e.1), eUs e.2]
structure OkEs (sg : List Nat) (es : List En1) : Prop where
  most : es.length ≤ 30
  ok : ∀ e ∈ es, OkSq sg e.1 ∧ OkUs e.2
  nd : (es.map (·.1)).Nodup
  all : ∀ c ∈ sg, [c] ∈ es.map (·.1)
section
variable {P : Program} {w : World} {K : Frag} {mg : Str → Option Value} {base : Heap}
abbrev p_is_whole : Sp := Pr (fun n : Int => [rI n]) (fun _ => rB true) (fun _ => True)
theorem mk_is_whole (E : En w K mg base) : Cal P w K mg base "is_whole" 1 [] p_is_whole :=
  cal_pr E D_is_whole 0 12 sc_is_whole (fun _ => rfl) (fun n cdv Ar outer s H vs Q EE S0 hr _ _ hv q => by
    obtain ⟨v, rfl, h1⟩ := one_arg hv
    have x0 : ∀ S, (rI n).r S v H := fun _ => h1
    exact w_ret (ev_and (ev_isInt E (ev_v (i := 0) rfl x0)) fun _ => ev_one (ev_not (ev_isBool E (ev_v (i := 0) rfl x0)))) q) (fun _ _ _ _ _ _ us hl => match us, hl with | [_], _ => rfl)
abbrev p_is_among : Sp := Pr (fun n : Int × Int × Int => [rI n.1, rI n.2.1, rI n.2.2]) (fun n => rB (decide (n.2.1 ≤ n.1) && decide (n.1 ≤ n.2.2))) (fun _ => True)
theorem mk_is_among (E : En w K mg base) : Cal P w K mg base "is_among" 2 [] p_is_among :=
  cal_pr E D_is_among 1 13 sc_is_among (fun _ => rfl) (fun n cdv Ar outer s H vs Q EE S0 hr _ _ hv q => by
    obtain ⟨v, lo, hi, rfl, h1, h2, h3⟩ := three_arg hv
    have x0 : ∀ S, (rI n.1).r S v H := fun _ => h1
    have x1 : ∀ S, (rI n.2.1).r S lo H := fun _ => h2
    have x2 : ∀ S, (rI n.2.2).r S hi H := fun _ => h3
    exact w_ret (ev_and (ev_pr (mk_is_whole E) hr n.1 trivial (eac (ev_v (i := 0) rfl x0) ea0)) fun _ => ev_one (ev_chain op_le op_le (ev_v (i := 1) rfl x1) (ev_v (i := 0) rfl x0) (ev_v (i := 2) rfl x2) r_le r_le)) q) (fun _ _ _ _ _ _ us hl => match us, hl with | [_, _, _], _ => rfl)
theorem ev_among {X : Cx} {σ : L2.St} {H : Hp} {a b c : Expr} {p pos : Pos} {k : Nat} {v lo hi : Int} (E : En X.w X.K X.mg X.base) (hr : Room k X.A) (ha : Ev X a σ H (rI v)) (hb : Ev X b σ H (rI lo)) (hc : Ev X c σ H (rI hi)) (h : lo ≤ v ∧ v ≤ hi) (hk : 2 ≤ k := by decide) (hg : Gl X "is_among" := by rfl)
    (h1 : starEach [a, b, c] X.env = (false, eval a X.env) :: starEach [b, c] X.env := by rfl) (h2 : starEach [b, c] X.env = (false, eval b X.env) :: starEach [c] X.env := by rfl) (h3 : starEach [c] X.env = (false, eval c X.env) :: starEach [] X.env := by rfl)
    (hpl : (backTo pos (starEach [b, c] X.env)).any (·.1) = false := by rfl) : Ev X (.Call (.Name "is_among" p) [a, b, c] [] pos) σ H (rB true) :=
  ev_d (ev_pr (mk_is_among E) hr (v, lo, hi) trivial (eac ha (eac hb (eac hc ea0 h3) h2) h1) hk hg (by decide) h1 hpl) (by rw [decide_eq_true h.1, decide_eq_true h.2] <;> rfl)
/-! a sign -/
theorem r_les {X : Cx} {H : Hp} {i j : List Nat} (S : Hp) (x y : V) (H2 : Hp) (Q : VK) (_ : Ex H S) (_ : Ex S H2) (hx : (rS i).r S x H2) (hy : (rS j).r S y H2) (q : Go (rB (!decide (j < i))) H2 Q) :
    (fun x y H Q => ∃ i j : Str, x = V.str i ∧ y = V.str j ∧ Q (.bl (!decide (j.cps.toList < i.cps.toList))) H : R2) x y H2 Q := ⟨T i, T j, Im.estr hx, Im.estr hy, q.at (.bl _)⟩
theorem lt_one {a b : Nat} : ([a] < [b]) ↔ a < b := by
  constructor
  · intro h
    cases h with
    | rel h => exact h
    | cons h => cases h
  · intro h
    exact List.Lex.rel h
abbrev p_is_sign : Sp := Pr (fun c : Nat => [rS [c]]) (fun _ => rB true) OkC
theorem mk_is_sign (E : En w K mg base) : Cal P w K mg base "is_sign" 1 [] p_is_sign :=
  cal_pr E D_is_sign 3 15 sc_is_sign (fun _ => rfl) (fun c cdv Ar outer s H vs Q EE S0 hr ok _ hv q => by
    obtain ⟨v, rfl, h1⟩ := one_arg hv
    have x0 : ∀ S, (rS [c]).r S v H := fun _ => h1
    refine w_ret (ev_d (d' := .bool true) (ev_and (ev_chain op_le_str op_le_str (ev_str (x := T [33])) (ev_v (i := 0) rfl x0) (ev_str (x := T [126])) (r_les (X := Bx P w K mg base N_is_sign D_is_sign cdv Ar outer s H EE)) (r_les (X := Bx P w K mg base N_is_sign D_is_sign cdv Ar outer s H EE))) fun _ => ev_one (ev_cmp op_ne (ev_ord E.ord (ev_v (i := 0) rfl x0)) (ev_gi (E.num 90)) r_nei (nomark _))) ?_) q
    obtain ⟨o1, o2, o3⟩ := ok
    congr 1
    rw [decide_eq_false (fun z => by have := lt_one.mp z; omega), decide_eq_false (fun z => by have := lt_one.mp z; omega), decide_eq_false (show ¬ (c : Int) = 37 by omega)] <;> rfl) (fun _ _ _ _ _ _ us hl => match us, hl with | [_], _ => rfl)
abbrev p_is_unit : Sp := Pr (fun u : U => [rD (eU u)]) (fun _ => rB true) OkU
theorem mk_is_unit (E : En w K mg base) : Cal P w K mg base "is_unit" 3 [] p_is_unit :=
  cal_pr E D_is_unit 5 17 sc_is_unit (fun _ => rfl) (fun u cdv Ar outer s H vs Q EE S0 hr ok _ hv q => by
    obtain ⟨v, rfl, h1⟩ := one_arg hv
    have x0 : ∀ S, (rT [.int u.1, .int u.2.1, .int u.2.2]).r S v H := fun _ => h1
    refine w_no (et_b (et_or (et_not (et_v (ev_isTup E (ev_v (i := 0) rfl x0)))) fun _ => ew_or (et_cmp op_ne (ev_len E.len (ev_qt (ev_v (i := 0) rfl x0))) ev_int r_nei (nomark _)) fun _ =>
      ew_or1 (et_not (et_v (ev_among E hr (ev_ixt (ev_v (i := 0) rfl x0) ev_int rfl) ev_int (ev_gi (E.num 88)) ok.a)))) rfl) fun H1 e1 => ?_
    have x1 : ∀ S, (rT [.int u.1, .int u.2.1, .int u.2.2]).r S v H1 := fun _ => h1.ex e1
    exact w_ret (ev_and (ev_among E hr (ev_ixt (ev_v (i := 0) rfl x1) ev_int rfl) ev_int (ev_gi (E.num 89)) ok.b) fun _ => ev_one (ev_among E hr (ev_ixt (ev_v (i := 0) rfl x1) ev_int rfl) ev_int (ev_gi (E.num 89)) ok.c)) (q.mono e1))
    (fun _ _ _ _ _ _ us hl => match us, hl with | [_], _ => rfl)
/-- all([.. for ..]) where each is true -/
theorem all_true {α : Type} (xs : List α) : (xs.map fun _ => true).all id = true := by
  rw [List.all_map, List.all_eq_true]
  exact fun _ _ => rfl
abbrev p_is_sequence : Sp := Pr (fun z : List Nat × List Nat => [rS z.1, rS z.2]) (fun _ => rB true) (fun z => OkSq z.1 z.2 ∧ z.1.length ≤ 12)
theorem mk_is_sequence (E : En w K mg base) : Cal P w K mg base "is_sequence" 1 [] p_is_sequence :=
  cal_pr E D_is_sequence 6 18 sc_is_sequence (fun _ => rfl) (fun z cdv Ar outer s H vs Q EE S0 hr ok _ hv q => by
    obtain ⟨v1, v2, rfl, h1, h2⟩ := two_arg hv
    obtain ⟨ok, lz⟩ := ok
    have x0 : ∀ S, (rS z.1).r S v1 H := fun _ => h1
    have x1 : ∀ S, (rS z.2).r S v2 H := fun _ => h2
    refine w_no (et_b (et_or (et_not (et_v (ev_isStr E (ev_v (i := 1) rfl x1)))) fun _ => ew_or1 (et_not (et_chain op_le op_le ev_int (ev_lens E.len (ev_v (i := 1) rfl x1) (by have := ok.most; omega)) (ev_gi (E.num 86)) r_le r_le)))
      (by have h1 := ok.one; have h2 := ok.most; rw [decide_eq_true (show (1 : Int) ≤ (z.2.length : Int) by omega), decide_eq_true (show (z.2.length : Int) ≤ 3 by omega)] <;> rfl)) fun H1 e1 => ?_
    refine w_ret (ev_d (ev_all rfl E.all (ev_l (ev_f (ev_lc (own := [("sign", 2)]) (lc_all z.2 (fun n => .str (T [n])) (fun _ => .bool true) (wk_s (ev_v (i := 1) rfl fun S => (x1 S).ex e1)) rfl (by have := ok.most; omega)
      fun c hc => tn_0 (j := 2) sc_is_sequence.nd fun x H2 e2 hx s H0 C cl fp => ev_d (ev_cmp op_in_sign (ev_v (i := 2) rfl fun _ => hx) (ev_v (i := 0) rfl fun S => (x0 S).ex (e1.trans e2)) r_ins rfl) (by rw [decide_eq_true (ok.ok c hc)])) rfl sc_is_sequence.nd) (ds' := (z.2.map fun _ => true).map .bool) (by rw [List.map_map] <;> rfl)))) (by rw [all_true])) (q.mono e1)) (fun _ _ _ _ _ _ us hl => match us, hl with | [_, _], _ => rfl)
abbrev p_are_units : Sp := Pr (fun us : List U => [rD (eUs us)]) (fun _ => rB true) OkUs
theorem mk_are_units (E : En w K mg base) : Cal P w K mg base "are_units" 4 [] p_are_units :=
  cal_pr E D_are_units 7 19 sc_are_units (fun _ => rfl) (fun us cdv Ar outer s H vs Q EE S0 hr ok _ hv q => by
    obtain ⟨v, rfl, h1⟩ := one_arg hv
    have x0 : ∀ S, (rT (us.map eU)).r S v H := fun _ => h1
    refine w_ret (ev_d (ev_and (ev_isTup E (ev_v (i := 0) rfl x0)) fun _ => ev_and (ev_cmp op_le (ev_len E.len (ev_qt (ev_v (i := 0) rfl x0))) (ev_gi (E.num 87)) r_le (nomark _)) fun _ =>
      ev_one (ev_all rfl E.all (ev_l (ev_f (ev_lc (own := [("unit", 1)]) (lc_all us eU (fun _ => .bool true) (wk_t (ev_v (i := 0) rfl x0)) rfl (by have := ok.1; omega)
        fun u hu => tn_0 (j := 1) sc_are_units.nd fun x H2 e2 hx s H0 C cl fp => ev_pr (mk_is_unit E) hr u (ok.2 u hu) (eac (ev_v (i := 1) rfl fun _ => hx) ea0)) rfl sc_are_units.nd) (ds' := (us.map fun _ => true).map .bool) (by rw [List.map_map] <;> rfl))))) ?_) q
    rw [all_true, decide_eq_true (show ((us.map eU).length : Int) ≤ 3 by rw [List.length_map]; have := ok.1; omega)]
    rfl) (fun _ _ _ _ _ _ us hl => match us, hl with | [_], _ => rfl)
abbrev p_is_entry : Sp := Pr (fun z : List Nat × En1 => [rS z.1, rD (eE z.2)]) (fun _ => rB true) (fun z => (OkSq z.1 z.2.1 ∧ OkUs z.2.2) ∧ z.1.length ≤ 12)
theorem mk_is_entry (E : En w K mg base) : Cal P w K mg base "is_entry" 5 [] p_is_entry :=
  cal_pr E D_is_entry 8 20 sc_is_entry (fun _ => rfl) (fun z cdv Ar outer s H vs Q EE S0 hr ok _ hv q => by
    obtain ⟨v1, v2, rfl, h1, h2⟩ := two_arg hv
    obtain ⟨⟨o1, o2⟩, lz⟩ := ok
    have x0 : ∀ S, (rS z.1).r S v1 H := fun _ => h1
    have x1 : ∀ S, (rT [.str (T z.2.1), eUs z.2.2]).r S v2 H := fun _ => h2
    refine w_no (et_or (et_not (et_v (ev_isTup E (ev_v (i := 1) rfl x1)))) fun _ => ew_or1 (et_cmp op_ne (ev_len E.len (ev_qt (ev_v (i := 1) rfl x1))) ev_int r_nei (nomark _))) fun H1 e1 => ?_
    have y0 : ∀ S, (rS z.1).r S v1 H1 := fun _ => h1.ex e1
    have y1 : ∀ S, (rT [.str (T z.2.1), eUs z.2.2]).r S v2 H1 := fun _ => h2.ex e1
    exact w_ret (ev_and (ev_pr (mk_is_sequence E) hr (z.1, z.2.1) ⟨o1, lz⟩ (eac (ev_v (i := 0) rfl y0) (eac (ev_ixt (ev_v (i := 1) rfl y1) ev_int rfl) ea0))) fun _ => ev_one (ev_pr (mk_are_units E) hr z.2.2 o2 (eac (ev_ixt (ev_v (i := 1) rfl y1) ev_int rfl) ea0))) (q.mono e1))
    (fun _ _ _ _ _ _ us hl => match us, hl with | [_, _], _ => rfl)
/-! pairs -/
theorem im2 {H : Hp} {x : V} {d1 d2 : PyData} (h : Im H x (.tuple [d1, d2])) : ∃ q v w, x = .ref q ∧ H q = some (.tup [v, w]) ∧ Im H v d1 ∧ Im H w d2 := by
  obtain ⟨q, xs, rfl, h2, h3⟩ := Im.etup h
  cases h3 with
  | cons m1 h3 =>
    cases h3 with
    | cons m2 h3 =>
      cases h3
      exact ⟨q, _, _, rfl, h2, m1, m2⟩
theorem enu_inv {ds : List PyData} {i : Nat} {d : PyData} (h : (enu ds)[i]? = some d) : ∃ d', ds[i]? = some d' ∧ d = .tuple [.int (i : Int), d'] := by
  have hi : i < ds.length := by
    rw [← enu_len]
    exact (List.getElem?_eq_some_iff.mp h).1
  rw [enu_at (List.getElem?_eq_getElem hi)] at h
  cases h
  exact ⟨_, List.getElem?_eq_getElem hi, rfl⟩
theorem sgs_inv {l : List Nat} {i : Nat} {d : PyData} (h : (sgs l)[i]? = some d) : ∃ c, l[i]? = some c ∧ d = .str (T [c]) := by
  rw [sgs, List.getElem?_map] at h
  cases e : l[i]? with
  | none => rw [e] at h; cases h
  | some c =>
    rw [e] at h
    cases h
    exact ⟨c, rfl, rfl⟩
theorem nodup_take {l : List Nat} (nd : l.Nodup) {i c : Nat} (h : l[i]? = some c) : c ∉ l.take i := by
  intro z
  obtain ⟨j, hj, e⟩ := List.getElem_of_mem z
  have hj' : j < i ∧ j < l.length := by
    rw [List.length_take] at hj
    omega
  rw [List.getElem_take] at e
  have q1 : l[j]? = some c := by rw [List.getElem?_eq_getElem hj'.2, e]
  have := nodup_ixA nd q1 h
  omega
abbrev p_need_signs : Sp := Pr (fun l : List Nat => [rS l]) (fun _ => rN) OkSg
theorem mk_need_signs (E : En w K mg base) : Cal P w K mg base "need_signs" 2 [] p_need_signs :=
  cal_pr E D_need_signs 4 16 sc_need_signs (fun _ => rfl) (fun l cdv Ar outer s H vs Q EE S0 hr ok _ hv q => by
    obtain ⟨v, rfl, h1⟩ := one_arg hv
    have x0 : ∀ S, (rS l).r S v H := fun _ => h1
    have hz : l.length ≤ 1000000 := by have := ok.most; omega
    refine w_no (et_b (et_or (et_not (et_v (ev_isStr E (ev_v (i := 0) rfl x0)))) fun _ => ew_or1 (et_not (et_chain op_le op_le ev_int (ev_lens E.len (ev_v (i := 0) rfl x0) hz) (ev_gi (E.num 84)) r_le r_le)))
      (by have h1 := ok.one; have h2 := ok.most; rw [decide_eq_true (show (1 : Int) ≤ (l.length : Int) by omega), decide_eq_true (show (l.length : Int) ≤ 12 by omega)] <;> rfl)) fun H1 e1 => ?_
    have y0 : ∀ S, (rS l).r S v H1 := fun _ => h1.ex e1
    refine w_for rfl (wk_eS E.enum (ev_v (i := 0) rfl y0)) (Ex.refl _) fun H2 G e2 g1 g2 g3 => ⟨fun i σ' H' => Ex H1 H' ∧ Ex H2 H' ∧ ∃ a b, σ' = [some v, a, b], ⟨e2, Ex.refl _, _, _, rfl⟩, fun i σ' H' _ p => g2 _ _ g1 p.2.1, fun i d σ' H' x H3 hd p e3 im => ?_, fun σ' H' p => w_end (q _ _ (e1.trans p.1) .non)⟩
    obtain ⟨p1, p2, a, b, rfl⟩ := p
    obtain ⟨d', hd', rfl⟩ := enu_inv hd
    obtain ⟨c, hc, rfl⟩ := sgs_inv hd'
    obtain ⟨t, v1, v2, rfl, ht, m1, m2⟩ := im2 im
    refine wg_t2 (i := 1) (j := 2) rfl sc_need_signs.nd ht ?_
    have z0 : ∀ S, (rS l).r S v H3 := fun _ => h1.ex ((e1.trans p1).trans e3)
    have z1 : ∀ S, (rI (i : Int)).r S v1 H3 := fun _ => m1
    have z2 : ∀ S, (rS [c]).r S v2 H3 := fun _ => m2
    refine w_no (et_b (et_or (et_not (et_v (ev_pr (mk_is_sign E) hr c (ok.ok c (List.mem_of_getElem? hc)) (eac (ev_v (i := 2) rfl z2) ea0)))) fun _ => ew_or1 (et_cmp op_in_sign (ev_v (i := 2) rfl z2) (ev_sls (ev_v (i := 0) rfl z0) ep0 (ep1 (ev_v (i := 1) rfl z1)) hz) r_ins rfl)) ?_) fun H4 e4 => w_end ⟨(p1.trans e3).trans e4, (p2.trans e3).trans e4, _, _, rfl⟩
    rw [cutL_hi, decide_eq_false (nodup_take ok.nd hc)]
    rfl) (fun _ _ _ _ _ _ us hl => match us, hl with | [_], _ => rfl)
end
end Lk

set_option maxHeartbeats 1000000
/-! Tables as objects; reading texts; keys. -/
namespace Lk
open PySem PySem.Spec PyProof.Rows L2
open Evl (Ex)
/-! ### what a table tells, plainly -/
abbrev Fn := List Nat → Option (List U)
def kS (k : List Nat) : Key := .inr (T k)
def HasF (ks : Kd) (f : Fn) : Prop := ∀ k, lookK ks (kS k) = (f k).map eUs
/-- the sequence that is read first -/
def pc (f : Fn) (t : List Nat) : List Nat := (([1, 2, 3].map fun n => t.take n).filter fun p => (f p).isSome).getLast?.getD []
def cutN (f : Fn) : Nat → List Nat → List (List Nat)
  | 0, _ => []
  | n + 1, t => if t = [] then [] else pc f t :: cutN f n (t.drop (pc f t).length)
def cuts (f : Fn) (t : List Nat) : List (List Nat) := cutN f t.length t
def unitsOf (f : Fn) (ps : List (List Nat)) : List U := ps.flatMap fun p => (f p).getD []
def rowF (f : Fn) (t : List Nat) : List U := unitsOf f (cuts f t)
def keyU (us : List U) (s : Int) : List Int := us.map (·.1) ++ (if 2 ≤ s then 0 :: us.map fun u => u.2.1 + 1 else []) ++ (if 3 ≤ s then 0 :: us.map fun u => u.2.2 + 1 else [])
def keyF (f : Fn) (s : Int) (t : List Nat) : List Int := keyU (rowF f t) s
structure OkF (sg : List Nat) (f : Fn) : Prop where
  sn : OkSg sg
  one : ∀ c ∈ sg, (f [c]).isSome = true
  sq : ∀ k us, f k = some us → OkSq sg k ∧ OkUs us
structure OkT (sg t : List Nat) : Prop where
  ok : ∀ c ∈ t, c ∈ sg
  most : t.length ≤ 200
theorem pc_take {f : Fn} {t : List Nat} {sg : List Nat} (o : OkF sg f) (h : ∀ c ∈ t, c ∈ sg) (ne : t ≠ []) : (f (pc f t)).isSome = true ∧ pc f t = t.take (pc f t).length ∧ 1 ≤ (pc f t).length ∧ (pc f t).length ≤ 3 ∧ (pc f t).length ≤ t.length := by
  cases t with
  | nil => exact absurd rfl ne
  | cons c r =>
    have hm : ([1, 2, 3].map fun n => (c :: r).take n).filter (fun p => (f p).isSome) ≠ [] := by
      intro z
      have q : [c] ∈ ([1, 2, 3].map fun n => (c :: r).take n).filter fun p => (f p).isSome := List.mem_filter.mpr ⟨by simp, o.one c (h c (List.mem_cons_self ..))⟩
      rw [z] at q
      cases q
    have e : pc f (c :: r) = (([1, 2, 3].map fun n => (c :: r).take n).filter fun p => (f p).isSome).getLast hm := by
      unfold pc
      rw [List.getLast?_eq_some_getLast hm] <;> rfl
    have m := List.getLast_mem hm
    rw [← e] at m
    obtain ⟨m1, m2⟩ := List.mem_filter.mp m
    have m1 : pc f (c :: r) = (c :: r).take 1 ∨ pc f (c :: r) = (c :: r).take 2 ∨ pc f (c :: r) = (c :: r).take 3 := by simpa using m1
    refine ⟨m2, ?_, ?_, ?_, ?_⟩
    · rcases m1 with z | z | z <;> (rw [z, List.length_take]; rw [List.take_eq_take_iff]; omega)
    · rcases m1 with z | z | z <;> (rw [z, List.length_take]; simp; try omega)
    · rcases m1 with z | z | z <;> (rw [z, List.length_take]; omega)
    · rcases m1 with z | z | z <;> (rw [z, List.length_take]; omega)
theorem drop_ok {sg t : List Nat} {n : Nat} (h : ∀ c ∈ t, c ∈ sg) : ∀ c ∈ t.drop n, c ∈ sg := fun c hc => h c (List.mem_of_mem_drop hc)
theorem cutN_ge {f : Fn} {sg : List Nat} (o : OkF sg f) : ∀ (n m : Nat) (t : List Nat), (∀ c ∈ t, c ∈ sg) → t.length ≤ n → t.length ≤ m → cutN f n t = cutN f m t
  | 0, 0, _, _, _, _ => rfl
  | 0, m + 1, t, _, h1, _ => by
    have e : t = [] := List.length_eq_zero_iff.mp (by omega)
    subst e
    rfl
  | n + 1, 0, t, _, _, h2 => by
    have e : t = [] := List.length_eq_zero_iff.mp (by omega)
    subst e
    rfl
  | n + 1, m + 1, t, h, h1, h2 => by
    unfold cutN
    by_cases e : t = []
    · rw [if_pos e, if_pos e]
    · rw [if_neg e, if_neg e]
      obtain ⟨_, _, q1, _, q2⟩ := pc_take o h e
      rw [cutN_ge o n m _ (drop_ok h) (by rw [List.length_drop]; omega) (by rw [List.length_drop]; omega)]
theorem cuts_cons {f : Fn} {sg t : List Nat} (o : OkF sg f) (h : ∀ c ∈ t, c ∈ sg) (ne : t ≠ []) : cuts f t = pc f t :: cuts f (t.drop (pc f t).length) := by
  obtain ⟨_, _, q1, _, q2⟩ := pc_take o h ne
  unfold cuts
  cases e : t.length with
  | zero => exact absurd (List.length_eq_zero_iff.mp e) ne
  | succ n =>
    show (if t = [] then [] else _) = _
    rw [if_neg ne, cutN_ge o n (t.drop (pc f t).length).length _ (drop_ok h) (by rw [List.length_drop]; omega) (Nat.le_refl _)]
theorem cuts_nil {f : Fn} : cuts f [] = [] := rfl
theorem cuts_len {f : Fn} {sg : List Nat} (o : OkF sg f) : ∀ (n : Nat) (t : List Nat), t.length ≤ n → (∀ c ∈ t, c ∈ sg) → (cuts f t).length ≤ t.length ∧ ∀ p ∈ cuts f t, (f p).isSome = true
  | 0, t, hn, _ => by
    have e : t = [] := List.length_eq_zero_iff.mp (by omega)
    subst e
    exact ⟨Nat.le_refl _, fun p hp => absurd hp (by simp [cuts_nil])⟩
  | n + 1, t, hn, h => by
    by_cases e : t = []
    · subst e
      exact ⟨Nat.le_refl _, fun p hp => absurd hp (by simp [cuts_nil])⟩
    · obtain ⟨q0, _, q1, _, q2⟩ := pc_take o h e
      obtain ⟨i1, i2⟩ := cuts_len o n (t.drop (pc f t).length) (by rw [List.length_drop]; omega) (drop_ok h)
      rw [cuts_cons o h e]
      rw [List.length_drop] at i1
      refine ⟨by rw [List.length_cons]; omega, fun p hp => ?_⟩
      rcases List.mem_cons.mp hp with rfl | hp
      · exact q0
      · exact i2 p hp
theorem rowF_len {f : Fn} {sg t : List Nat} (o : OkF sg f) (h : ∀ c ∈ t, c ∈ sg) : (rowF f t).length ≤ 3 * t.length ∧ ∀ u ∈ rowF f t, OkU u := by
  obtain ⟨c1, c2⟩ := cuts_len o t.length t (Nat.le_refl _) h
  have go : ∀ ps : List (List Nat), (∀ p ∈ ps, (f p).isSome = true) → (unitsOf f ps).length ≤ 3 * ps.length ∧ ∀ u ∈ unitsOf f ps, OkU u := by
    intro ps
    induction ps with
    | nil => exact fun _ => ⟨Nat.le_refl _, fun u hu => absurd hu (by simp [unitsOf])⟩
    | cons p ps ih =>
      intro hp
      obtain ⟨i1, i2⟩ := ih fun q hq => hp q (List.mem_cons_of_mem _ hq)
      have e : unitsOf f (p :: ps) = (f p).getD [] ++ unitsOf f ps := by simp [unitsOf]
      obtain ⟨us, hus⟩ := Option.isSome_iff_exists.mp (hp p (List.mem_cons_self ..))
      obtain ⟨_, o1, o2⟩ := o.sq p us hus
      rw [e, hus]
      refine ⟨by rw [List.length_append, List.length_cons]; show us.length + _ ≤ _; omega, fun u hu => ?_⟩
      rcases List.mem_append.mp hu with hu | hu
      · exact o2 u hu
      · exact i2 u hu
  obtain ⟨g1, g2⟩ := go (cuts f t) c2
  exact ⟨by have : (rowF f t).length ≤ 3 * (cuts f t).length := g1; omega, g2⟩
/-! ### dicts and tables as objects -/
def rKf (f : Fn) : Rp := ⟨fun _ v H => ∃ a kvs ks, v = .ref a ∧ Rd H a (.dK kvs) ∧ DkR H kvs ks ∧ HasF ks f, fun e ⟨a, kvs, ks, h1, h2, h3, h4⟩ => ⟨a, kvs, ks, h1, Evl.ex_rd e h2, h3.ex (tu_ex e), h4⟩, fun _ h => h⟩
def NdK (ks : Kd) : Prop := (ks.map (·.1)).Nodup ∧ ∀ p ∈ ks, ∃ us, p.2 = eUs us
/-- a table: its signs, what it knows -/
def rTb (K : Frag) (sg : List Nat) (f : Fn) : Rp := ⟨fun _ v H => ∃ (a dx : Addr) (vs : List (Option V)) (w : Addr) (kvs : List (Key × V)) (ks : Kd), v = .ref a ∧ H a = some (SlX.SlO a (He.ga K "Table") dx vs) ∧ H dx = some (.xd []) ∧ vs[2]? = some (some (.str (T (srtS sg)))) ∧ vs[1]? = some (some (.ref w)) ∧ H w = some (.dK kvs) ∧ DkR H kvs ks ∧ HasF ks f ∧ NdK ks,
  fun e ⟨a, dx, vs, w, kvs, ks, h1, h2, h3, h4, h5, h6, h7, h8⟩ => ⟨a, dx, vs, w, kvs, ks, h1, e _ _ h2, e _ _ h3, h4, h5, e _ _ h6, h7.ex (tu_ex e), h8⟩, fun _ h => h⟩
section
variable {K : Frag} {w : World} {mg : Str → Option Value} {base : Heap}
theorem En.exi (E : En w K mg base) (i : Nat) {b : Bool} (e : (exs K)[i]? = some b := by rfl) : b = true := exB_at E.ex i e
theorem En.slSigns (E : En w K mg base) : SlX.Slot1 K (He.ga K "Table") "signs" (prA K "Table" "signs") 2 := slotB_ok (E.exi 3) (by decide)
theorem En.slKnown (E : En w K mg base) : SlX.Slot1 K (He.ga K "Table") "known" (prA K "Table" "known") 1 := slotB_ok (E.exi 4) (by decide)
theorem En.slBegun (E : En w K mg base) : SlX.Slot1 K (He.ga K "Table") "begun" (prA K "Table" "begun") 0 := slotB_ok (E.exi 5) (by decide)
theorem En.scls (E : En w K mg base) : SlX.SCls K (He.ga K "Table") := sclsB_ok (E.exi 6)
end
section
variable {X : Cx} {σ : L2.St} {H H' : Hp} {e a b c : Expr} {es : List Expr} {pos p p2 : Pos} {ρ ρ1 ρ2 ρ3 : Rp} {w : World} {sg : List Nat} {f : Fn}
theorem ev_signs (E : En w X.K X.mg X.base) (ha : Ev X a σ H (rTb X.K sg f)) (hb : attributeBase a "signs" X.env (eval a X.env) = eval a X.env := by rfl) : Ev X (.Attribute a "signs" pos) σ H (rS (srtS sg)) := fun H1 e1 Q q =>
  ⟨_, SlX.pe_sl we_ok hb, ha H1 e1 _ fun v H2 e2 ⟨x, dx, vs, w, _, _, h1, h2, h3, h4, _⟩ => ⟨x, _, dx, _, vs, 2, _, h1, .inr ⟨h2, h3⟩, E.scls, E.slSigns, h4, q _ H2 e2 (.str _)⟩⟩
theorem ev_known (E : En w X.K X.mg X.base) (ha : Ev X a σ H (rTb X.K sg f)) (hb : attributeBase a "known" X.env (eval a X.env) = eval a X.env := by rfl) : Ev X (.Attribute a "known" pos) σ H (rKf f) := fun H1 e1 Q q =>
  ⟨_, SlX.pe_sl we_ok hb, ha H1 e1 _ fun v H2 e2 ⟨x, dx, vs, w, kvs, ks, h1, h2, h3, h4, h5, h6, h7, h8, _⟩ => ⟨x, _, dx, _, vs, 1, _, h1, .inr ⟨h2, h3⟩, E.scls, E.slKnown, h5, q _ H2 e2 ⟨w, kvs, ks, rfl, .inl h6, h7, h8⟩⟩⟩
/-- known[k] -/
theorem ev_ixf {k : List Nat} {us : List U} (hu : X.A.units + 1 < cLine) (ha : Ev X a σ H (rKf f)) (hb : Ev X b σ H (rS k)) (h : f k = some us) (hs : NoSl b := by exact fun _ _ => rfl) : Ev X (.Subscript a b pos) σ H (rD (eUs us)) := fun H1 e1 Q q =>
  ⟨_, pe_dget hu we_ok we_ok hs, ha H1 e1 _ fun x H2 e2 h2 => hb H2 (e1.trans e2) _ fun y H3 e3 h3 => by
    obtain ⟨p, kvs, ks, rfl, h4, h5, h6⟩ := (rKf f).m e3 h2
    have h3 := Im.estr h3
    subst h3
    obtain ⟨v, v1, v2⟩ := (h5.get (k := kS k)).1 (eUs us) (by rw [h6 k, h] <;> rfl)
    exact ⟨p, v, rfl, by rw [← v1]; exact dget_rd (k := kS k) h4, q v H3 (e2.trans e3) v2⟩⟩
/-- k in known -/
theorem et_inf {k : List Nat} (hu : X.A.units + 1 < cLine) (ha : Ev X a σ H (rS k)) (hb : Ev X b σ H (rKf f)) (hm : behindInMarks .In b = false := by rfl) : Et X (.Compare a [.In] [b] pos) σ H (f k).isSome := fun H1 e1 Q q =>
  ⟨_, pt_cmp (pc_din hu we_ok we_ok) hm, ha H1 e1 _ fun x H2 e2 h2 => hb H2 (e1.trans e2) _ fun y H3 e3 h3 => by
    obtain ⟨p, kvs, ks, rfl, h4, h5, h6⟩ := h3
    have h2 := Im.estr h2
    subst h2
    refine ⟨p, valV kvs (kS k), rfl, dget_rd (k := kS k) h4, ?_⟩
    have e : (valV kvs (kS k)).isSome = (f k).isSome := by
      cases z : f k with
      | none => rw [h5.get.2 (by rw [h6 k, z] <;> rfl)] <;> rfl
      | some us =>
        obtain ⟨v, v1, v2⟩ := (h5.get (k := kS k)).1 (eUs us) (by rw [h6 k, z] <;> rfl)
        rw [v1] <;> rfl
    rw [e]
    exact ⟨_, rfl, q H3 (e2.trans e3)⟩⟩
end
section
variable {P : Program} {w : World} {K : Frag} {mg : Str → Option Value} {base : Heap}
structure Tt where
  sg : List Nat
  f : Fn
  t : List Nat
abbrev p_need_text : Sp := Pr (fun z : Tt => [rTb K z.sg z.f, rS z.t]) (fun _ => rN) (fun z => OkT z.sg z.t ∧ z.sg.length ≤ 12)
theorem mk_need_text (E : En w K mg base) : Cal P w K mg base "need_text" 1 [] (p_need_text (K := K)) :=
  cal_pr E D_need_text 12 23 sc_need_text (fun _ => rfl) (fun z cdv Ar outer s H vs Q EE S0 hr ok _ hv q => by
    obtain ⟨v1, v2, rfl, h1, h2⟩ := two_arg hv
    obtain ⟨ok, lz⟩ := ok
    have x0 : ∀ S, (rTb K z.sg z.f).r S v1 H := fun _ => h1
    have x1 : ∀ S, (rS z.t).r S v2 H := fun _ => h2
    have hz : z.t.length ≤ 1000000 := by have := ok.most; omega
    refine w_no (et_b (et_or (et_not (et_v (ev_isStr E (ev_v (i := 1) rfl x1)))) fun _ => ew_or (et_cmp op_gt (ev_lens E.len (ev_v (i := 1) rfl x1) hz) (ev_gi (E.num 91)) r_gt (nomark _)) fun _ =>
      ew_or1 (et_not (et_v (ev_all rfl E.all (ev_l (ev_f (ev_lc (own := [("sign", 2)]) (lc_all z.t (fun n => .str (T [n])) (fun _ => .bool true) (wk_s (ev_v (i := 1) rfl x1)) rfl hz
      fun c hc => tn_0 (j := 2) sc_need_text.nd fun x H2 e2 hx s H0 C cl fp => ev_d (ev_cmp op_in_sign (ev_v (i := 2) rfl fun _ => hx) (ev_signs E (ev_v (i := 0) rfl fun S => (rTb K z.sg z.f).m e2 (x0 S))) r_ins rfl) (by rw [decide_eq_true ((srtS_perm z.sg).mem_iff.mpr (ok.ok c hc))])) rfl sc_need_text.nd) (ds' := (z.t.map fun _ => true).map .bool) (by rw [List.map_map] <;> rfl))))))) ?_) fun H1 e1 => w_end (q _ _ e1 .non)
    rw [all_true, decide_eq_false (show ¬ (200 : Int) < (z.t.length : Int) by have := ok.most; omega)]
    rfl) (fun _ _ _ _ _ _ us hl => match us, hl with | [_, _], _ => rfl)
end
end Lk

set_option maxHeartbeats 2000000
/-! [e for a in x for b in y] -/
namespace Lk
open PySem PySem.Spec PyProof.Rows L2
open Evl (Ex)
section
variable {X : Cx} {σ : L2.St} {H H' : Hp} {pos : Pos}
/-- one turn of the outer walk: the inner walk's data and what each turn of it gives -/
def Tn2 (X : Cx) (tg tg1 it1 : Expr) (elt : Expr) (scope : Scope) (vs vs1 : List Nat) (σ : L2.St) (B : Hp) (d : PyData) (outs : List PyData) : Prop :=
  ∀ x H, Ex B H → Im H x d → ∃ σ2 es, (∀ H', Ex H H' → Bk X scope fun Y => Tg Y tg x (wipe σ vs) H' σ2) ∧ wipe σ2 vs = wipe σ vs ∧ (Bk X scope fun Y => Wk Y tg1 it1 σ2 H es) ∧ es.length = outs.length ∧
    ∀ (j : Nat) (e o : PyData), es[j]? = some e → outs[j]? = some o → ∀ y H', Ex H H' → Im H' y e → ∃ σ3, (Bk X scope fun Y => Tg Y tg1 y (wipe σ2 vs1) H' σ3) ∧ wipe σ3 vs1 = wipe σ2 vs1 ∧ Bk X scope fun Y => Ev Y elt σ3 H' (rD o)
def cI (X : Cx) (scope : Scope) (tg it : Expr) : TI := fun σ H R => Bk X scope fun Y => Wi Y tg it σ H R
theorem ci_ok {scope : Scope} {tg it : Expr} (s : Shared) (H0 : Hp) (C : Addr) (cl : List (Str × Addr)) (fp : List Addr) : PI (X.blk s H0 scope (compEnvC scope cl C X.env) fp) tg it (cI X scope tg it) := ⟨fun pins s' σ H R I z => wi_ok.run pins s' σ H R I (z s H0 C cl fp)⟩
theorem take_snoc {α : Type} {l : List α} {i : Nat} {x : α} (h : l[i]? = some x) : l.take (i + 1) = l.take i ++ [x] := by
  rw [List.take_succ, h] <;> rfl
theorem flat_take {α : Type} {l : List (List α)} {i : Nat} {x : List α} (h : l[i]? = some x) : (l.take (i + 1)).flatten = (l.take i).flatten ++ x := by
  rw [take_snoc h, List.flatten_append, List.flatten_cons, List.flatten_nil, List.append_nil]
theorem flat_le {α : Type} : ∀ (l : List (List α)) (i : Nat) (x : List α) (j : Nat), l[i]? = some x → ((l.take i).flatten ++ x.take j).length ≤ l.flatten.length
  | [], i, x, j, h => by simp at h
  | y :: l, 0, x, j, h => by
    simp at h
    subst h
    simp only [List.take_zero, List.flatten_nil, List.nil_append, List.flatten_cons, List.length_append, List.length_take]
    omega
  | y :: l, i + 1, x, j, h => by
    have ih := flat_le l i x j (by simpa using h)
    simp only [List.take_succ_cons, List.flatten_cons, List.append_assoc, List.length_append] at ih ⊢
    omega
theorem lc2_go {tg it tg1 it1 elt : Expr} {scope : Scope} {own : List (Str × Nat)} (vs1 : List Nat) {ds : List PyData} (outs : List (List PyData)) (w : Wk X tg it σ H ds) (hl : outs.length = ds.length) (hz : outs.flatten.length ≤ 1000000)
    (h : ∀ (i : Nat) (d : PyData) (o : List PyData), ds[i]? = some d → outs[i]? = some o → Tn2 X tg tg1 it1 elt scope (own.map (·.2)) vs1 σ H d o) :
    ∀ H1, Ex H H1 → ∀ Q : VK, Go (rF outs.flatten) H1 Q → tLc2 (Wi X tg it) (cG X scope tg) tYes (cI X scope tg1 it1) (cG X scope tg1) tYes (cE X scope elt) (own.map (·.2)) vs1 σ H1 Q := fun H1 e1 Q q => by
  refine w H1 e1 _ fun J H2 G e2 g1 g2 g3 wk Dl hD => ?_
  refine ⟨fun i m H' => m = ds.length - i ∧ i ≤ ds.length ∧ Ex H2 H' ∧ ∃ xs, H' Dl = some (.lst xs) ∧ Ims H' xs (outs.take i).flatten, ⟨ds.length, by simp, Nat.zero_le _, Ex.new hD, [], upd_same, .nil⟩, ?_⟩
  rintro i m H' ⟨rfl, hi, p1, xs, p2, p3⟩
  have gg := g2 _ _ g1 p1
  by_cases hlt : i < ds.length
  · refine .inr ⟨wk.goes i H' hlt gg, fun H'' => i + 1 ≤ ds.length ∧ Ex H2 H'' ∧ ∃ xs, H'' Dl = some (.lst xs) ∧ Ims H'' xs (outs.take (i + 1)).flatten, fun H'' p => ⟨ds.length - (i + 1), by omega, rfl, p.1, p.2⟩, fun x H3 y => ?_⟩
    obtain ⟨e3, d, hd, im⟩ := wk.yields i H' x H3 hlt gg y
    have ho : outs[i]? = some outs[i] := List.getElem?_eq_getElem (by omega)
    have dl3 := e3 _ _ p2
    have bN : H Dl = none := Evl.fresh_back (e1.trans e2) hD
    have tuo : Tu H3 (off Dl H3) := tu_off fun ys z => by rw [dl3] at z; cases z
    have eb : Ex H (off Dl H3) := ex_off (((e1.trans e2).trans p1).trans e3) bN
    obtain ⟨σ2, es, t1, t2, t3, t4, t5⟩ := h i d _ hd ho x (off Dl H3) eb (im.tu tuo)
    refine fun s H0 C cl fp => t1 H3 off_ex s H0 C cl fp _ ⟨t2, ?_⟩
    simp only [tYes, ↓reduceIte]
    refine fun s H0 C cl fp => t3 s H0 C cl fp H3 off_ex _ fun J1 H4 G1 e4 k1 k2 k3 wk1 => ?_
    have dl4 := e4 _ _ dl3
    have gOff : G1 (off Dl H4) := k3 Dl _ dl3 (fun ys z => by cases z) off_at
    have Q0 : Ex (off Dl H4) H4 := off_ex
    refine ⟨fun j n H5 => n = es.length - j ∧ j ≤ es.length ∧ Ex H2 H5 ∧ Ex (off Dl H4) H5 ∧ ∃ xs, H5 Dl = some (.lst xs) ∧ Ims H5 xs ((outs.take i).flatten ++ outs[i].take j), ⟨es.length, by simp, Nat.zero_le _, (p1.trans e3).trans e4, off_ex, xs, dl4, by rw [List.take_zero, List.append_nil]; exact p3.ex (e3.trans e4)⟩, ?_⟩
    rintro j n H5 ⟨rfl, hj, r1, r2, xs5, r3, r4⟩
    have gg1 := k2 _ _ gOff r2
    by_cases hjl : j < es.length
    · refine .inr ⟨wk1.goes j H5 hjl gg1, fun H6 => j + 1 ≤ es.length ∧ Ex H2 H6 ∧ Ex (off Dl H4) H6 ∧ ∃ xs, H6 Dl = some (.lst xs) ∧ Ims H6 xs ((outs.take i).flatten ++ outs[i].take (j + 1)), fun H6 p => ⟨es.length - (j + 1), by omega, rfl, p⟩, fun yv H6 yy => ?_⟩
      obtain ⟨e6, ed, hed, im6⟩ := wk1.yields j H5 yv H6 hjl gg1 yy
      have hoj : outs[i][j]? = some outs[i][j] := List.getElem?_eq_getElem (by omega)
      have dl6 := e6 _ _ r3
      have e36 : Ex (off Dl H3) H6 := ((off_mono e4).trans r2).trans e6
      obtain ⟨σ3, u1, u2, u3⟩ := t5 j ed _ hed hoj yv H6 e36 im6
      refine fun s H0 C cl fp => u1 s H0 C cl fp _ ⟨u2, ?_⟩
      simp only [tYes, ↓reduceIte]
      refine fun s H0 C cl fp => u3 s H0 C cl fp H6 (Ex.refl _) _ fun v H7 e7 hv7 => ?_
      have dl7 := e7 _ _ dl6
      have tu7 : Tu H7 (upd H7 Dl (.lst (xs5 ++ [v]))) := fun b ys z => by
        have nb : b ≠ Dl := fun q => by rw [q, dl7] at z; cases z
        rw [upd_ne nb]
        exact z
      have fl := flat_le outs i outs[i] j ho
      refine ⟨xs5, dl7, ?_, hjl, fun b u z => ?_, ex_updl ((r2.trans e6).trans e7), _, upd_same, ?_⟩
      · rw [r4.len, sizeLine_eq]
        omega
      · rw [upd_ne (ne_of_none z hD)]
        exact e7 _ _ (e6 _ _ (r1 _ _ z))
      · rw [take_snoc hoj, ← List.append_assoc]
        exact ((r4.ex (e6.trans e7)).snoc hv7).tu tu7
    · have ej : j = es.length := by omega
      subst ej
      refine .inl ⟨wk1.stops H5 gg1, hlt, r1, xs5, r3, ?_⟩
      rw [flat_take ho]
      rw [t4, List.take_length] at r4
      exact r4
  · have e : i = ds.length := by omega
    subst e
    rw [← hl, List.take_length] at p3
    exact .inl ⟨wk.stops H' gg, q _ H' (e2.trans p1) ⟨Dl, xs, rfl, Evl.fresh_back e2 hD, p2, p3⟩⟩
theorem ev_lc2 {tg it tg1 it1 elt : Expr} {scope : Scope} {own : List (Str × Nat)} (vs1 : List Nat) {ds : List PyData} (outs : List (List PyData)) (hc : X.calm = true) (hN : X.N.Nodup) (w : Wk X tg it σ H ds) (hl : outs.length = ds.length) (hz : outs.flatten.length ≤ 1000000)
    (h : ∀ (i : Nat) (d : PyData) (o : List PyData), ds[i]? = some d → outs[i]? = some o → Tn2 X tg tg1 it1 elt scope (own.map (·.2)) vs1 σ H d o) (ok : blkC X.N X.env.scope scope own = true := by rfl) (hv : ∀ i ∈ vs1, i ∈ own.map (·.2) := by decide)
    (hs : ∀ x, foldedSetIterable it X.env x = pure x := by intro _; rfl) (hs1 : ∀ env x, foldedSetIterable it1 env x = pure x := by intro _ _; rfl) :
    Ev X (.ListComp elt [⟨tg, it, [], 0⟩, ⟨tg1, it1, [], 0⟩] scope pos) σ H (rF outs.flatten) := fun H1 e1 Q q =>
  ⟨_, pe_lc2 (g := cG X scope tg) (tt := tYes) (wi1 := cI X scope tg1 it1) (g1 := cG X scope tg1) (tt1 := tYes) (te := cE X scope elt) hc hN wi_ok (blkOk_by ok) hv cg_ok (fun _ _ _ _ _ => pts_nil) ci_ok cg_ok (fun _ _ _ _ _ => pts_nil) ce_ok hs hs1, lc2_go vs1 outs w hl hz h H1 e1 Q q⟩
/-- name = [.. for a in d for b in ..], d a dict -/
theorem w_lc2L {i : Nat} {y : Str} {py spos : Pos} {tg it tg1 it1 elt : Expr} {scope : Scope} {own : List (Str × Nat)} (vs1 : List Nat) {ds : List PyData} (outs : List (List PyData)) {d : Addr} {kvs : List (Key × V)} {D : Ends} {rest : List Stmt} (hc : X.calm = true) (hN : X.N.Nodup) (hd : H d = some (.dK kvs))
    (w : ∀ od, Wk X tg it σ (upd H d (.frz od (.dK kvs))) ds) (hl : outs.length = ds.length) (hz : outs.flatten.length ≤ 1000000) (h : ∀ (od : Obj) (i : Nat) (e : PyData) (o : List PyData), ds[i]? = some e → outs[i]? = some o → Tn2 X tg tg1 it1 elt scope (own.map (·.2)) vs1 σ (upd H d (.frz od (.dK kvs))) e o)
    (k : ∀ v H1, Ex H H1 → (rF outs.flatten).r H v H1 → Wm X rest D (σ.set i (some v)) H1) (ok : blkC X.N X.env.scope scope own = true := by rfl) (hv : ∀ i ∈ vs1, i ∈ own.map (·.2) := by decide) (hi : X.N[i]? = some y := by rfl) (hyl : X.env.scope.names.lookup y = some .local := by rfl)
    (hsw : swapsWith (.ListComp elt [⟨tg, it, [], 0⟩, ⟨tg1, it1, [], 0⟩] scope pos) (some (.Name y py)) spos.line X.env = pure true := by exact sw_true rfl rfl rfl rfl)
    (hs : ∀ x, foldedSetIterable it X.env x = pure x := by intro _; rfl) (hs1 : ∀ env x, foldedSetIterable it1 env x = pure x := by intro _ _; rfl) :
    Wm X (.Assign [.Name y py] (.ListComp elt [⟨tg, it, [], 0⟩, ⟨tg1, it1, [], 0⟩] scope pos) spos :: rest) D σ H :=
  w_cons ⟨_, ps_lock (ps_setLc2 (g := cG X scope tg) (tt := tYes) (wi1 := cI X scope tg1 it1) (g1 := cG X scope tg1) (tt1 := tYes) (te := cE X scope elt) hc hN hi hyl hsw wi_ok (blkOk_by ok) hv cg_ok (fun _ _ _ _ _ => pts_nil) ci_ok cg_ok (fun _ _ _ _ _ => pts_nil) ce_ok hs hs1), d, .dK kvs, hd, trivial, fun od => by
    refine lc2_go vs1 outs (w od) hl hz (h od) _ (Ex.refl _) _ fun v H2 e3 ⟨p, xs, h1, h0, h2, h3⟩ => ?_
    subst h1
    have nd : p ≠ d := fun z => by rw [z, upd_same] at h0; cases h0
    have hd2 : H2 d = some (.frz od (.dK kvs)) := e3 _ _ upd_same
    refine ⟨hd2, k _ _ (fun b u z => ?_) ⟨p, xs, rfl, by rw [upd_ne nd] at h0; exact h0, by rw [upd_ne nd]; exact h2, h3.tu fun b ys z => ?_⟩⟩
    · by_cases n : b = d
      · subst n
        rw [hd] at z
        cases z
        exact upd_same
      · rw [upd_ne n]
        exact e3 _ _ (by rw [upd_ne n]; exact z)
    · have n : b ≠ d := fun w => by rw [w, hd2] at z; cases z
      rw [upd_ne n]
      exact z⟩
end
end Lk

set_option maxHeartbeats 1000000
/-! Reading and keys: first_piece, cut_all, units_of, need_strength, key_of, key_by. -/
namespace Lk
open PySem PySem.Spec PyProof.Rows L2
open Evl (Ex)
theorem atI_end {α : Type} {xs : List α} (h : xs ≠ []) : atI xs (-1) = some (xs.getLast h) := by
  obtain ⟨ys, y, rfl⟩ : ∃ ys y, xs = ys ++ [y] := ⟨xs.dropLast, xs.getLast h, (List.dropLast_concat_getLast h).symm⟩
  rw [atI_last]
  simp
theorem rng_map (lo : Int) (n : Nat) : rng lo n = (List.range n).map fun (k : Nat) => PyData.int (lo + (k : Int)) := rfl
theorem pc_list (f : Fn) (t : List Nat) : ((List.range 3).filter fun k => (f (t.take (k + 1))).isSome).map (fun k => PyData.str (T (t.take (k + 1)))) = (([1, 2, 3].map fun n => t.take n).filter fun p => (f p).isSome).map fun p => .str (T p) := by
  show ([0, 1, 2].filter fun k => (f (t.take (k + 1))).isSome).map (fun k => PyData.str (T (t.take (k + 1)))) = _
  simp only [List.map_cons, List.map_nil]
  cases h1 : (f (t.take 1)).isSome <;> cases h2 : (f (t.take 2)).isSome <;> cases h3 : (f (t.take 3)).isSome <;> simp [List.filter, h1, h2, h3]
section
variable {P : Program} {w : World} {K : Frag} {mg : Str → Option Value} {base : Heap}
abbrev p_first_piece : Sp := Pr (fun z : Tt => [rTb K z.sg z.f, rS z.t]) (fun z => rS (pc z.f z.t)) (fun z => OkF z.sg z.f ∧ OkT z.sg z.t ∧ z.t ≠ [])
theorem mk_first_piece (E : En w K mg base) : Cal P w K mg base "first_piece" 1 [] (p_first_piece (K := K)) :=
  cal_pr E D_first_piece 13 24 sc_first_piece (fun _ => rfl) (fun z cdv Ar outer s H vs Q EE S0 hr ok _ hv q => by
    obtain ⟨v1, v2, rfl, h1, h2⟩ := two_arg hv
    obtain ⟨o, ok, ne⟩ := ok
    have x0 : ∀ S, (rTb K z.sg z.f).r S v1 H := fun _ => h1
    have x1 : ∀ S, (rS z.t).r S v2 H := fun _ => h2
    have hz : z.t.length ≤ 1000000 := by have := ok.most; omega
    have hm : (([1, 2, 3].map fun n => z.t.take n).filter fun p => (z.f p).isSome) ≠ [] := fun e => by
      obtain ⟨_, _, q1, _⟩ := pc_take o ok.ok ne
      unfold pc at q1
      rw [e] at q1
      exact absurd q1 (by decide)
    have ep : pc z.f z.t = (([1, 2, 3].map fun n => z.t.take n).filter fun p => (z.f p).isSome).getLast hm := by
      unfold pc
      rw [List.getLast?_eq_some_getLast hm] <;> rfl
    refine w_ret (ev_ixl (ev_ll (ev_l (ev_lc (own := [("many", 2)]) (lc_if (List.range 3) (fun (k : Nat) => .int (1 + (k : Int))) (fun k => (z.f (z.t.take (k + 1))).isSome) (fun k => .str (T (z.t.take (k + 1)))) (wk_r2 (lo := 1) (n := 4) E.rng ev_int (ev_d (ev_add (ev_gi (E.num 86)) ev_int) rfl) (by decide) (by decide) (by decide) (by decide)) rfl (by decide)
      fun k hk => tn_n (j := 2) sc_first_piece.nd fun x H2 e2 hx => ⟨fun s H0 C cl fp => ?_, fun _ s H0 C cl fp => ?_⟩) rfl sc_first_piece.nd)) (pc_list z.f z.t)) (ev_neg ev_int) (d := .str (T (pc z.f z.t))) ?_) q
    · have e : (1 : Int) + (k : Int) = ((k + 1 : Nat) : Int) := by omega
      rw [e] at hx
      exact ets1 (et_b (et_inf (hu_of hr) (ev_sls (ev_v (i := 1) rfl fun S => Im.ex h2 e2) ep0 (ep1 (ev_v (i := 2) rfl fun _ => hx)) hz) (ev_known E (ev_v (i := 0) rfl fun S => (rTb K z.sg z.f).m e2 (x0 S)))) (by rw [cutL_hi]))
    · have e : (1 : Int) + (k : Int) = ((k + 1 : Nat) : Int) := by omega
      rw [e] at hx
      exact ev_d (ev_sls (ev_v (i := 1) rfl fun S => Im.ex h2 e2) ep0 (ep1 (ev_v (i := 2) rfl fun _ => hx)) hz) (by rw [cutL_hi])
    · have hm2 : ((([1, 2, 3].map fun n => z.t.take n).filter fun p => (z.f p).isSome).map fun p => PyData.str (T p)) ≠ [] := by simpa using hm
      rw [atI_end hm2, List.getLast_map, ep]) (fun _ _ _ _ _ _ us hl => match us, hl with | [_, _], _ => rfl)
def eS (p : List Nat) : PyData := .str (T p)
theorem tu_upd {H : Hp} {l : Addr} {u o : HO} (h : H l = some o) (n : ∀ xs, o ≠ .tup xs) : Tu H (upd H l u) := fun a xs z => by
  have e : a ≠ l := fun q => by rw [q, h] at z; exact n xs (Option.some.inj z)
  rw [upd_ne e]
  exact z
def slen : Option (Option V) → Nat
  | some (some (.str z)) => z.length
  | _ => 0
abbrev p_cut_all : Sp := Pr (fun z : Tt => [rTb K z.sg z.f, rS z.t]) (fun z => rF ((cuts z.f z.t).map eS)) (fun z => OkF z.sg z.f ∧ OkT z.sg z.t)
theorem mk_cut_all (E : En w K mg base) : Cal P w K mg base "cut_all" 2 [] (p_cut_all (K := K)) :=
  cal_pr E D_cut_all 14 25 sc_cut_all (fun _ => rfl) (fun z cdv Ar outer s H vs Q EE S0 hr ok _ hv q => by
    obtain ⟨v1, v2, rfl, h1, h2⟩ := two_arg hv
    obtain ⟨o, ok⟩ := ok
    have x0 : ∀ S, (rTb K z.sg z.f).r S v1 H := fun _ => h1
    have e2 := Im.estr h2
    subst e2
    refine w_set (i := 2) sc_cut_all.nd ev_nil fun v H1 e1 ⟨l, xs0, ev, hl, hl1, im0⟩ => ?_
    subst ev
    refine w_while (fun σ _ => slen (σ[1]?)) (fun σ' H' => ∃ t acc xs, σ' = [some v1, some (.str (T t)), some (.ref l)] ∧ Ex H H' ∧ H' l = some (.lst xs) ∧ Ims H' xs (acc.map eS) ∧ acc ++ cuts z.f t = cuts z.f z.t ∧ (∀ c ∈ t, c ∈ z.sg) ∧ t.length ≤ 200 ∧ acc.length ≤ 1000) ⟨z.t, [], xs0, rfl, e1, hl1, im0, rfl, ok.ok, ok.most, by simp⟩ fun σ' H' p => ?_
    obtain ⟨t, acc, xs, rfl, p1, p2, p3, p4, p5, p6, p7⟩ := p
    have y1 : ∀ H2 S, (rS t).r S (.str (T t)) H2 := fun _ _ => .str _
    refine ⟨_, et_cmp op_ne (ev_v (i := 1) (ρ := rS t) rfl (y1 H')) (ev_str (x := T [])) (r_nes (j := [])) (nomark _), fun hb H2 e2 => ?_, fun hb H2 e2 => ?_⟩
    · have ne : t ≠ [] := by
        intro e
        subst e
        cases hb
      obtain ⟨_, _, q1, _, q2⟩ := pc_take o p5 ne
      refine w_app (a := l) (xs := xs) (ev_v (i := 2) rfl fun _ => rfl) (ev_pr (mk_first_piece E) hr ⟨z.sg, z.f, t⟩ ⟨o, ⟨p5, p6⟩, ne⟩ (eac (ev_v (i := 0) rfl fun S => (rTb K z.sg z.f).m (p1.trans e2) (x0 S)) (eac (ev_v (i := 1) rfl (y1 _)) ea0))) (e2 _ _ p2) (by rw [p3.len, List.length_map]; omega) fun v H3 e3 hv => ?_
      have l3 := e3 _ _ (e2 _ _ p2)
      have tu3 := tu_upd (u := .lst (xs ++ [v])) l3 (fun ys z => by cases z)
      have im3 : Ims (upd H3 l (.lst (xs ++ [v]))) (xs ++ [v]) ((acc ++ [pc z.f t]).map eS) := by
        rw [List.map_append, List.map_singleton]
        exact ((p3.ex (e2.trans e3)).snoc hv).tu tu3
      have ex3 : Ex H (upd H3 l (.lst (xs ++ [v]))) := Ex.mut ((p1.trans e2).trans e3) hl
      refine w_set (i := 1) sc_cut_all.nd (ev_sls (ev_v (i := 1) rfl (y1 _)) (ep1 (ev_lens (l := pc z.f t) E.len (ev_ixl (ev_v (i := 2) (ρ := rL ((acc ++ [pc z.f t]).map eS)) rfl fun _ => ⟨l, _, rfl, upd_same, im3⟩) (ev_neg ev_int) (by rw [List.map_append, List.map_singleton, atI_last] <;> rfl)) (by omega))) ep0 (by omega)) fun v H4 e4 h4 => ?_
      have h4 := Im.estr h4
      subst h4
      rw [cutL_lo]
      refine w_end ⟨?_, t.drop (pc z.f t).length, acc ++ [pc z.f t], xs ++ [v], rfl, ex3.trans e4, e4 _ _ upd_same, im3.ex e4, ?_, drop_ok p5, by rw [List.length_drop]; omega, ?_⟩
      · show (T (t.drop (pc z.f t).length)).length < (T t).length
        rw [T_len, T_len, List.length_drop]
        omega
      · rw [← p4, cuts_cons o p5 ne, List.append_assoc] <;> rfl
      · have c1 := (cuts_len o z.t.length z.t (Nat.le_refl _) ok.ok).1
        have c2 := congrArg List.length p4
        rw [cuts_cons o p5 ne, List.length_append, List.length_cons] at c2
        have := ok.most
        rw [List.length_append, List.length_singleton]
        omega
    · have e : t = [] := by simpa using hb
      subst e
      rw [cuts_nil, List.append_nil] at p4
      subst p4
      exact w_ret (ev_v (i := 2) (ρ := rV (.ref l)) rfl fun _ => rfl) fun v H3 e3 hv => by
        have hv : v = .ref l := hv
        subst hv
        exact q _ _ ((p1.trans e2).trans e3) ⟨l, xs, rfl, hl, (e2.trans e3) _ _ p2, p3.ex (e2.trans e3)⟩) (fun _ _ _ _ _ _ us hl => match us, hl with | [_, _], _ => rfl)
theorem units_flat (f : Fn) (ps : List (List Nat)) : (ps.map fun p => ((f p).getD []).map eU).flatten = (unitsOf f ps).map eU := by
  unfold unitsOf
  rw [List.flatMap_def, List.map_flatten, List.map_map] <;> rfl
structure Tp where
  sg : List Nat
  f : Fn
  ps : List (List Nat)
abbrev p_units_of : Sp := Pr (fun z : Tp => [rTb K z.sg z.f, rL (z.ps.map eS)]) (fun z => rT ((unitsOf z.f z.ps).map eU)) (fun z => OkF z.sg z.f ∧ (∀ p ∈ z.ps, (z.f p).isSome = true) ∧ z.ps.length ≤ 1000)
theorem unitsOf_len {f : Fn} {sg : List Nat} (o : OkF sg f) : ∀ ps : List (List Nat), (∀ p ∈ ps, (f p).isSome = true) → (unitsOf f ps).length ≤ 3 * ps.length
  | [], _ => Nat.le_refl _
  | p :: ps, hp => by
    have ih := unitsOf_len o ps fun q hq => hp q (List.mem_cons_of_mem _ hq)
    have e : unitsOf f (p :: ps) = (f p).getD [] ++ unitsOf f ps := by simp [unitsOf]
    obtain ⟨us, hus⟩ := Option.isSome_iff_exists.mp (hp p (List.mem_cons_self ..))
    obtain ⟨_, o1, _⟩ := o.sq p us hus
    rw [e, hus, List.length_append, List.length_cons]
    show us.length + _ ≤ _
    omega
theorem mk_units_of (E : En w K mg base) : Cal P w K mg base "units_of" 1 [] (p_units_of (K := K)) :=
  cal_pr E D_units_of 15 26 sc_units_of (fun _ => rfl) (fun z cdv Ar outer s H vs Q EE S0 hr ok _ hv q => by
    obtain ⟨v1, v2, rfl, h1, l, xs, rfl, hl, im⟩ := two_arg hv
    obtain ⟨o, ok, oz⟩ := ok
    have x0 : ∀ S, (rTb K z.sg z.f).r S v1 H := fun _ => h1
    refine w_ret (ev_tuple E.tup (ev_qf (ev_f (ev_lc2 (own := [("sequence", 2), ("unit", 3)]) [3] (z.ps.map fun p => ((z.f p).getD []).map eU) rfl sc_units_of.nd (wk_v (ev_v (i := 1) rfl fun _ => rfl) hl im) (by rw [List.length_map, List.length_map]) ?_ fun i d os hd ho x H2 e2 hx => ?_) (units_flat z.f z.ps)))) q
    · rw [units_flat, List.length_map]
      have := unitsOf_len o z.ps ok
      omega
    · rw [List.getElem?_map] at hd ho
      cases hp : z.ps[i]? with
      | none => rw [hp] at hd; cases hd
      | some p =>
        rw [hp] at hd ho
        cases hd
        cases ho
        obtain ⟨us, hus⟩ := Option.isSome_iff_exists.mp (ok p (List.mem_of_getElem? hp))
        refine ⟨(wipe [some v1, some (.ref l), none, none] [2, 3]).set 2 (some x), us.map eU, fun H3 e3 s H0 C cl fp => tg_n sc_units_of.nd, rfl, fun s H0 C cl fp => wk_t (ev_ixf (hu_of hr) (ev_known E (ev_v (i := 0) (ρ := rTb K z.sg z.f) rfl fun S => (rTb K z.sg z.f).m e2 (x0 S))) (ev_v (i := 2) (ρ := rS p) rfl fun _ => hx) hus), by show (us.map eU).length = (((z.f p).getD []).map eU).length; rw [hus] <;> rfl, fun j e' o' he' ho' y H3 e3 hy => ⟨_, fun s H0 C cl fp => tg_n (i := 3) sc_units_of.nd, rfl, fun s H0 C cl fp => ev_v (i := 3) rfl fun _ => ?_⟩⟩
        have ho' : (((z.f p).getD []).map eU)[j]? = some o' := ho'
        rw [hus] at ho'
        have ho' : (us.map eU)[j]? = some o' := ho'
        rw [he'] at ho'
        cases ho'
        exact hy) (fun _ _ _ _ _ _ us hl => match us, hl with | [_, _], _ => rfl)
abbrev p_need_strength : Sp := Pr (fun s : Int => [rI s]) (fun _ => rN) (fun s => 1 ≤ s ∧ s ≤ 3)
theorem mk_need_strength (E : En w K mg base) : Cal P w K mg base "need_strength" 3 [] p_need_strength :=
  cal_pr E D_need_strength 16 27 sc_need_strength (fun _ => rfl) (fun n cdv Ar outer s H vs Q EE S0 hr ok _ hv q => by
    obtain ⟨v, rfl, h1⟩ := one_arg hv
    exact w_no (et_not (et_v (ev_among E hr (ev_v (i := 0) (ρ := rI n) rfl fun _ => h1) ev_int ev_int ok))) fun H1 e1 => w_end (q _ _ e1 .non)) (fun _ _ _ _ _ _ us hl => match us, hl with | [_], _ => rfl)
/-- a unit's weight at a level -/
def cmpU (u : U) : Nat → Int
  | 1 => u.2.1
  | _ => u.2.2
def levU (us : List U) : Nat → List Int
  | 0 => us.map (·.1)
  | n + 1 => levU us n ++ 0 :: us.map fun u => cmpU u (n + 1) + 1
theorem levU_len (us : List U) : ∀ n, (levU us n).length = us.length + n * (us.length + 1)
  | 0 => by simp [levU]
  | n + 1 => by
    simp only [levU, List.length_append, List.length_cons, List.length_map, levU_len us n]
    rw [Nat.add_mul]
    omega
theorem keyU_lev (us : List U) {s : Int} (h : 1 ≤ s ∧ s ≤ 3) : keyU us s = levU us (s - 1).toNat := by
  have c : s = 1 ∨ s = 2 ∨ s = 3 := by omega
  rcases c with rfl | rfl | rfl
  · simp [keyU, levU]
  · simp [keyU, levU, cmpU]
  · simp [keyU, levU, cmpU]
abbrev p_key_of : Sp := Pr (fun z : List U × Int => [rT (z.1.map eU), rI z.2]) (fun z => rT ((keyU z.1 z.2).map .int)) (fun z => (1 ≤ z.2 ∧ z.2 ≤ 3) ∧ z.1.length ≤ 10000)
theorem mk_key_of (E : En w K mg base) : Cal P w K mg base "key_of" 1 [] p_key_of :=
  cal_pr E D_key_of 17 28 sc_key_of (fun _ => rfl) (fun z cdv Ar outer s H vs Q EE S0 hr ok _ hv q => by
    obtain ⟨v1, v2, rfl, h1, h2⟩ := two_arg hv
    obtain ⟨us, st⟩ := z
    obtain ⟨ok, oz⟩ := ok
    have ok : 1 ≤ st ∧ st ≤ 3 := ok
    have oz : us.length ≤ 10000 := oz
    have x0 : ∀ S, (rT (us.map eU)).r S v1 H := fun _ => h1
    refine w_lc (i := 2) (own := [("unit", 3)]) (lc_all us eU (fun u => .int u.1) (wk_t (ev_v (i := 0) rfl x0)) rfl (by omega) fun u hu => tn_0 (j := 3) sc_key_of.nd fun x H2 e2 hx s H0 C cl fp => ev_ixt (ev_v (i := 3) (ρ := rT [.int u.1, .int u.2.1, .int u.2.2]) rfl fun _ => hx) ev_int rfl) rfl sc_key_of.nd fun v H1 e1 ⟨l, xs, ev, _, hl, im⟩ => ?_
    subst ev
    have y1 : ∀ S, (rI st).r S v2 H1 := fun _ => Im.ex h2 e1
    refine w_for rfl (wk_r2 (lo := 1) (n := st) E.rng ev_int (ev_v (i := 1) rfl y1) (by omega) (by omega) (by decide) (by decide)) (Ex.refl _) fun H2 G e2 g1 g2 g3 => ⟨fun i σ' H' => Ex H1 H' ∧ Ex H2 H' ∧ ∃ l a b xs, σ' = [some v1, some v2, some (.ref l), a, b] ∧ H' l = some (.lst xs) ∧ Ims H' xs ((levU us i).map .int),
      ⟨e2, Ex.refl _, l, _, _, xs, rfl, e2 _ _ hl, by rw [show (levU us 0).map PyData.int = us.map fun u => .int u.1 by rw [levU, List.map_map] <;> rfl]; exact im.ex e2⟩, fun i σ' H' _ p => g2 _ _ g1 p.2.1, fun i d σ' H' x H3 hd p e3 hx => ?_, fun σ' H' p => ?_⟩
    · obtain ⟨p1, p2, l, a, b, xs, rfl, p3, p4⟩ := p
      have hi : i < (st - 1).toNat := by
        have := (List.getElem?_eq_some_iff.mp hd).1
        simpa [rng] using this
      rw [rng_map, List.getElem?_map, List.getElem?_range hi] at hd
      cases hd
      refine wg_n (i := 4) sc_key_of.nd ?_
      have ll := levU_len us i
      have bd : i * (us.length + 1) ≤ 1 * (us.length + 1) := Nat.mul_le_mul_right _ (by omega)
      have z0 : ∀ S, (rT (us.map eU)).r S v1 H3 := fun _ => Im.ex h1 ((e1.trans p1).trans e3)
      refine w_set (i := 2) sc_key_of.nd (ev_addl (ev_l (ev_addl (ev_v (i := 2) (ρ := rL ((levU us i).map .int)) rfl fun _ => ⟨l, xs, rfl, e3 _ _ p3, p4.ex e3⟩) (ev_l (ev_l1 ev_int)) (by rw [List.length_map, List.length_singleton]; omega)))
        (ev_l (ev_lc (own := [("unit", 3)]) (lc_all us eU (fun u => .int (cmpU u (i + 1) + 1)) (wk_t (ev_v (i := 0) rfl z0)) rfl (by omega) fun u hu => tn_0 (j := 3) sc_key_of.nd fun y H4 e4 hy s H0 C cl fp => ev_add (ev_ixt (ev_v (i := 3) (ρ := rT [.int u.1, .int u.2.1, .int u.2.2]) rfl fun _ => hy) (ev_v (i := 4) rfl fun _ => hx.ex e4) (d := .int (cmpU u (i + 1))) ?_) ev_int) rfl sc_key_of.nd)) (by rw [List.length_append, List.length_map, List.length_singleton, List.length_map]; omega)) fun v H4 e4 ⟨l2, xs2, ev2, _, hl2, im2⟩ => ?_
      · have c : i = 0 ∨ i = 1 := by omega
        rcases c with rfl | rfl <;> rfl
      · subst ev2
        refine w_end ⟨(p1.trans e3).trans e4, (p2.trans e3).trans e4, l2, a, some x, xs2, rfl, hl2, ?_⟩
        have e : (levU us (i + 1)).map PyData.int = (levU us i).map .int ++ [.int 0] ++ us.map fun u => .int (cmpU u (i + 1) + 1) := by
          rw [levU, List.map_append, List.map_cons, List.map_map, List.append_assoc] <;> rfl
        rw [e]
        exact im2
    · obtain ⟨p1, p2, l, a, b, xs, rfl, p3, p4⟩ := p
      rw [rng_map, List.length_map, List.length_range, ← keyU_lev us ok] at p4
      exact w_ret (ev_tuple E.tup (ev_ql (ev_v (i := 2) (ρ := rL ((keyU us st).map .int)) rfl fun _ => ⟨l, xs, rfl, p3, p4⟩))) (q.mono (e1.trans p1))) (fun _ _ _ _ _ _ us hl => match us, hl with | [_, _], _ => rfl)
end
end Lk

set_option maxHeartbeats 1000000
/-! Tuples whose object is known to have no dict (so their methods can be called). -/
namespace Lk
open PySem PySem.Spec PyProof.Rows L2
open Evl (Ex)
def TupN (H : Hp) (q : Addr) (xs : List V) : Prop := (H q = some (.tup xs) ∧ xs = []) ∨ ∃ o : Obj, H q = some (.frz o (.tup xs)) ∧ o.dict = none
theorem TupN.sq {K : Frag} {H : Hp} {q : Addr} {xs : List V} (h : TupN H q xs) : SqT K H q xs := by
  rcases h with ⟨h, _⟩ | ⟨o, h, _⟩
  · exact .inl (.inl h)
  · exact .inl (.inr ⟨o, h⟩)
theorem TupN.ex {H H' : Hp} {q : Addr} {xs : List V} (h : TupN H q xs) (e : Ex H H') : TupN H' q xs := by
  rcases h with ⟨h, z⟩ | ⟨o, h, z⟩
  · exact .inl ⟨e _ _ h, z⟩
  · exact .inr ⟨o, e _ _ h, z⟩
def rTN (ds : List PyData) : Rp := ⟨fun _ v H => ∃ q xs, v = .ref q ∧ TupN H q xs ∧ Ims H xs ds, fun e ⟨q, xs, h1, h2, h3⟩ => ⟨q, xs, h1, h2.ex e, h3.ex e⟩, fun _ h => h⟩
/-! making them -/
def tTupN (t : TA) : TE := fun σ H Q => t σ H fun xs H1 => xs.length ≤ sizeLine ∧ ∀ p (o : Obj), H1 p = none → o.dict = none → Q (.ref p) (upd H1 p (.frz o (.tup xs)))
section
variable {X : Cx} {σ : L2.St} {H H' : Hp} {e a b c o : Expr} {es : List Expr} {pos pos' p p2 apos cpos : Pos} {D : Ends} {rest : List Stmt} {kk : Nat} {ρ : Rp}
theorem pe_tupN {t : TA} (h : PA X es t) : PE X (.Tuple es kk pos) (tTupN t) := by
  refine ⟨fun pins s σ H Q I hq => ?_⟩
  refine wpAny_Tuple_spliced (thn (h.run pos pins s σ H _ I hq) fun us s1 ⟨xs, H1, I1, r, z, q⟩ => ⟨by rw [← r.length]; exact z, ?_⟩)
  have hn : H1 s1.heap.objs.size = none := I1.hok.fresh (Nat.le_refl _)
  refine ⟨.ref s1.heap.objs.size, upd H1 s1.heap.objs.size (.frz { cls := .type "tuple", data := .seq us.toArray } (.tup xs)), I1.laid (t' := s1.toks) (fun b u e => Heap.get?_push_of_some _ e) (Nat.le_refl _) ?_, rfl, q _ _ hn rfl⟩
  exact ⟨Heap.get?_push_size _ rfl, z, us, r, ⟨_, Heap.get?_push_size _ rfl, rfl, _, rfl⟩⟩
/-- tuple(a list) -/
theorem call_tupleN : CallR X (.type "tuple") (fun xs H Q => ∃ p ys, xs = [.ref p] ∧ SqL X.K H p ys ∧ ∀ l (o : Obj), H l = none → o.dict = none → Q (.ref l) (upd H l (.frz o (.tup ys)))) := by
  intro pins s σ H xs us Q I r h
  obtain ⟨p, ys, rfl, hq, q⟩ := h
  obtain ⟨u, rfl, rx⟩ := vals1 r
  cases rx
  obtain ⟨its, r', pl, hz⟩ := I.list hq
  have hlen := r'.length
  refine call_tuple_list pl.isList (fun h' kp => ?_) (by simp only [List.size_toArray] <;> omega)
  have J1 : Inv X pins σ H { s with heap := h' } := I.kept (t' := s.toks) kp
  have J2 : Inv X pins σ (upd H h'.objs.size (.frz { cls := .type "tuple", data := .seq its.toArray } (.tup ys))) { s with heap := h'.push { cls := .type "tuple", data := .seq its.toArray } } :=
    J1.laid (t' := s.toks) (fun b o e => Heap.get?_push_of_some _ e) (Nat.le_refl _) (show ObjOk X.prog X.w _ _ _ (.frz _ (.tup ys)) from ⟨Heap.get?_push_size _ rfl, hz, its, r', IsTup.new _ _⟩)
  exact ⟨.ref h'.objs.size, _, J2, rfl, q _ _ (J1.hok.fresh (Nat.le_refl _)) rfl⟩
def rCatN (K : Frag) : R2 := fun x y H Q => ∃ a b xs ys, x = .ref a ∧ y = .ref b ∧ SqT K H a xs ∧ SqT K H b ys ∧ xs.length + ys.length ≤ sizeLine ∧
  (xs = [] → Q (.ref b) H) ∧ (xs ≠ [] → ys = [] → Q (.ref a) H) ∧ (xs ≠ [] → ys ≠ [] → ∀ p (o : Obj), H p = none → o.dict = none → Q (.ref p) (upd H p (.frz o (.tup (xs ++ ys)))))
theorem op_catN : OpR X (binaryOp .Add) (rCatN X.K) := by
  intro pins s σ H x y v u Q I rx ry h
  obtain ⟨a, b, xs, ys, rfl, rfl, ha, hb, hz, q0, q1, q2⟩ := h
  cases rx
  cases ry
  obtain ⟨its, r1, p1, _⟩ := I.tuple ha
  obtain ⟨its2, r2, p2, _⟩ := I.tuple hb
  by_cases hx : xs = []
  · subst hx
    cases r1
    exact cat_tup0 p1 p2 ⟨.ref b, H, I, rfl, q0 rfl⟩
  · refine HT.cat_tup p1 p2 (fun z => hx (r1.nil_iff.mp z)) (fun z => ⟨.ref a, H, I, rfl, q1 hx (r2.nil_iff.mp z)⟩) (fun z => ?_) (by rw [← r1.length, ← r2.length]; exact hz)
    refine ⟨.ref s.heap.objs.size, _, I.laid (t' := s.toks) (o := .frz { cls := .type "tuple", data := .seq (its ++ its2).toArray } (.tup (xs ++ ys))) (fun b ob q => Heap.get?_push_of_some _ q) (Nat.le_refl _) ?_, rfl, q2 hx (fun w => z (r2.nil_iff.mpr w)) _ _ (I.hok.fresh (Nat.le_refl _)) rfl⟩
    exact ⟨Heap.get?_push_size _ rfl, by rw [List.length_append]; exact hz, _, r1.append r2, IsTup.new _ _⟩
def rSlN (K : Frag) : V → Option Int → Option Int → Hp → VK → Prop := fun x lo hi H Q => ∃ a xs, x = .ref a ∧ SqT K H a xs ∧ (HT.sIx xs.length 0 lo = 0 ∧ HT.sIx xs.length xs.length hi = xs.length → Q (.ref a) H) ∧
  (¬ (HT.sIx xs.length 0 lo = 0 ∧ HT.sIx xs.length xs.length hi = xs.length) → ∀ p (o : Obj), H p = none → o.dict = none → Q (.ref p) (upd H p (.frz o (.tup (cutV xs lo hi)))))
theorem sl_tupN : SlR X (rSlN X.K) := by
  intro pins s σ H x v vl vu lo hi sl Q I rx hs pl pu h
  obtain ⟨a, xs, rfl, hx, q1, q2⟩ := h
  cases rx
  obtain ⟨its, r, ht, hz⟩ := I.tuple hx
  have hlen : its.toArray.size = xs.length := by rw [List.size_toArray]; exact r.length.symm
  refine ⟨"tuple", _, PyProof.Rows.slot_tuple_getitem.lookup, ht.typeIs, ?_⟩
  by_cases hw : HT.sIx xs.length 0 lo = 0 ∧ HT.sIx xs.length xs.length hi = xs.length
  · exact getItem_tuple_whole ht hs pl pu (by rw [hlen]; exact hw) ⟨.ref a, H, I, rfl, q1 hw⟩
  · refine HT.getItem_tuple_cut ht hs pl pu (by rw [hlen]; exact hw) ?_ (by rw [hlen]; exact hz)
    rw [hlen]
    refine ⟨.ref s.heap.objs.size, _, I.laid (t' := s.toks) (o := .frz { cls := .type "tuple", data := .seq (List.take (HT.sIx xs.length xs.length hi - HT.sIx xs.length 0 lo) (List.drop (HT.sIx xs.length 0 lo) its.toArray.toList)).toArray } (.tup (cutV xs lo hi))) (fun b ob q => Heap.get?_push_of_some _ q) (Nat.le_refl _) ?_, rfl, q2 hw _ _ (I.hok.fresh (Nat.le_refl _)) rfl⟩
    exact ⟨Heap.get?_push_size _ rfl, Nat.le_trans (cutV_length xs lo hi) hz, _, (r.drop (HT.sIx xs.length 0 lo)).take (HT.sIx xs.length xs.length hi - HT.sIx xs.length 0 lo), IsTup.new _ _⟩
/-- t.index(x) of such a tuple -/
theorem pe_idxN (ho : PE X o (We X o)) (ha : PA X [e] (Wa X [e])) (hbase : attributeBase o "index" X.env (eval o X.env) = eval o X.env := by rfl)
    (hfew : ((backTo cpos (starEach [e] X.env)).all (fun x => !x.1) && (backToKw cpos (keywordEach [] X.env)).all (fun x => x.1.isSome) && decide (([e] : List Expr).length + ([] : List Keyword).length + (if ([] : List Keyword).isEmpty then 0 else 1) < 30)) = true := by rfl)
    (hline : (apos.endLine == cpos.line) = true := by rfl) (hs : starEach [e] X.env = (false, eval e X.env) :: starEach [] X.env := by rfl) (hplain : (backTo cpos (starEach [] X.env)).any (·.1) = false := by rfl) :
    PE X (.Call (.Attribute o "index" apos) [e] [] cpos) (fun σ H Q => We X o σ H fun x H1 => (∃ (q : Addr) (ob : Obj) (xs : List V), x = .ref q ∧ H1 q = some (.frz ob (.tup xs)) ∧ ob.dict = none) ∧ Wa X [e] σ H1 fun vs H2 => ∃ p, ∃ ys : List Str, ∃ z j, x = .ref p ∧ vs = [.str z] ∧ SqT X.K H2 p (ys.map V.str) ∧ ys[j]? = some z ∧ (∀ m, m < j → ys[m]? ≠ some z) ∧ Q (.int (j : Nat)) H2) := by
  refine ⟨fun pins s σ H Q I h => ?_⟩
  refine wpAny_Call_method_late hbase hfew hline rfl (thn (ho.run pins s σ H _ I h) fun v s1 ⟨x, H1, I1, r1, ty, q1⟩ => ?_)
  obtain ⟨q, ob, xs, rfl, hq, hd⟩ := ty
  obtain ⟨g1, g2⟩ := (show ObjOk X.prog X.w H1 s1.heap q (.frz ob (.tup xs)) from I1.hok q _ hq)
  have rv : v = Value.ref q := r1
  subst rv
  obtain ⟨_, its, _, ob2, g3, g4, _⟩ := (show ObjOk X.prog X.w H1 s1.heap q (.tup xs) from g2)
  rw [g1] at g3
  cases g3
  refine ⟨"tuple", _, PySem.F.plainAttrs_tuple, PySem.F.slot_tuple_index, PySem.F.type_tuple_index, ⟨ob, g1, g4⟩, fun a z => by cases z; exact ⟨ob, g1, hd⟩, ?_⟩
  have hA := ha.run cpos pins s1 σ H1 _ I1 q1
  rw [hs] at hA ⊢
  refine Calls.callWith_builtin (by show (false || (backTo cpos (starEach [] X.env)).any (·.1)) = false; rw [hplain] <;> rfl) (Calls.evalArgs_plain ?_)
  exact thn hA fun us s2 ⟨vs, H2, I2, r2, q2⟩ => mt_tup_index pins s2 σ H2 (.ref q) vs _ us Q I2 rfl r2 q2
/-! rules -/
theorem wk_nV {tg : Expr} {ds : List PyData} {q : Addr} {xs : List V} (ha : Ev X a σ H (rV (.ref q))) (h2 : SqT X.K H q xs) (h3 : Ims H xs ds) : Wk X tg a σ H ds := fun H1 e1 R k =>
  ⟨_, pi_tup we_ok, ha H1 e1 _ fun v H2 e2 h1 => by
    have h1 : v = .ref q := h1
    subst h1
    refine ⟨q, rfl, ⟨xs, Evl.ex_t (e1.trans e2) h2⟩, k _ H2 (fun H3 => SqT X.K H3 q xs ∧ Ims H3 xs ds) e2 ⟨Evl.ex_t (e1.trans e2) h2, h3.ex (e1.trans e2)⟩ (fun H3 H4 g e => ⟨Evl.ex_t e g.1, g.2.ex e⟩) (fun l u hl hu hB => ?_) ?_⟩
    · have e := ex_off (e1.trans e2) hB
      exact ⟨Evl.ex_t e h2, h3.ex e⟩
    · have w := walk_tup (K := X.K) (a := q) (xs := xs)
      rw [h3.len] at w
      exact w.mono (fun H g => g.1) fun i H x H' hi g y => by
        obtain ⟨y1, y2⟩ := y
        subst y1
        exact ⟨Ex.refl _, g.2.getv y2⟩⟩
theorem ev_lenN {ds : List PyData} (hm : X.mg "len" = none) (ha : Ev X a σ H (rTN ds)) (hg : Gl X "len" := by rfl) (he : starEach [a] X.env = (false, eval a X.env) :: starEach [] X.env := by rfl) (hpl : (backTo pos (starEach [] X.env)).any (·.1) = false := by rfl) :
    Ev X (.Call (.Name "len" p) [a] [] pos) σ H (rI (ds.length : Int)) := ev_cb call_len_seq hm boot_len (eac ha ea0 he) (fun S vs H2 Q _ _ hv q => by
  obtain ⟨v, rfl, p, xs, rfl, h1, h2⟩ := one_arg hv
  exact ⟨p, xs, rfl, .inr h1.sq, by rw [h2.len]; exact q.at (.int _)⟩) hg (by decide) (by decide) he hpl
theorem ev_ixN {ds : List PyData} {i : Int} {d : PyData} (ha : Ev X a σ H (rTN ds)) (hb : Ev X b σ H (rI i)) (h : atI ds i = some d) (hs : PlainIx b := by exact fun _ _ => rfl) : Ev X (.Subscript a b pos) σ H (rD d) := fun H1 e1 Q q =>
  ⟨_, pe_ix ix_tup we_ok we_ok hs, ha H1 e1 _ fun x H2 e2 h2 => hb H2 (e1.trans e2) _ fun y H3 e3 h3 => by
    obtain ⟨p, xs, rfl, h4, h5⟩ := (rTN ds).m e3 h2
    have h3 := Im.eint h3
    subst h3
    obtain ⟨j, j1, j2, _, _, _⟩ := atI_get h
    obtain ⟨v, v1, v2⟩ := h5.get j2
    refine ⟨p, xs, i, v, rfl, rfl, h4.sq, ?_, q v H3 (e2.trans e3) v2⟩
    unfold atI at h ⊢
    rw [h5.len]
    cases z : ixN ds.length i with
    | none => rw [z] at h; cases h
    | some k =>
      rw [z] at h
      have e : k = j := by
        obtain ⟨k1, _⟩ := ixN_seq z
        rw [k1] at j1
        exact Option.some.inj j1
      subst e
      exact v1⟩
theorem ev_slN {ds : List PyData} {lo hi : Option Expr} {i j : Option Int} (ha : Ev X a σ H (rTN ds)) (hl : Ep X lo σ H i) (hh : Ep X hi σ H j) : Ev X (.Subscript a (.Slice lo hi none p2) pos) σ H (rTN (cutL ds i j)) := fun H1 e1 Q q =>
  ⟨_, pe_slice sl_tupN we_ok wp_ok wp_ok, ha H1 e1 _ fun x H2 e2 h2 => hl H2 (e1.trans e2) _ fun H3 e3 => hh H3 ((e1.trans e2).trans e3) _ fun H4 e4 => by
    obtain ⟨p, xs, rfl, h4, h5⟩ := (rTN ds).m (e3.trans e4) h2
    refine ⟨p, xs, rfl, h4.sq, fun z => q _ H4 ((e2.trans e3).trans e4) ⟨p, xs, rfl, h4, ?_⟩, fun _ r ob hr hd => q _ _ (((e2.trans e3).trans e4).trans (Ex.new hr)) ⟨r, _, rfl, .inr ⟨ob, upd_same, hd⟩, (h5.cut i j).ex (Ex.new hr)⟩⟩
    have e : cutL ds i j = ds := by
      unfold cutL
      rw [← h5.len, z.1, z.2, List.drop_zero, Nat.sub_zero, h5.len, List.take_length]
    rw [e]
    exact h5⟩
theorem ev_addN {ds es : List PyData} (ha : Ev X a σ H (rTN ds)) (hb : Ev X b σ H (rTN es)) (hz : ds.length + es.length ≤ 1000000) : Ev X (.BinOp a .Add b pos) σ H (rTN (ds ++ es)) := ev_op op_catN ha hb fun _ x y H2 Q _ e2 hx hy q => by
  obtain ⟨p, xs, rfl, hp, ix⟩ := hx
  obtain ⟨p', ys, rfl, hp', iy⟩ := hy
  refine ⟨p, p', xs, ys, rfl, rfl, hp.sq, hp'.sq, by rw [ix.len, iy.len, sizeLine_eq]; omega, fun z => ?_, fun _ z => ?_, fun _ _ r ob hr hd => q _ _ (Ex.new hr) ⟨r, _, rfl, .inr ⟨ob, upd_same, hd⟩, (ix.app iy).ex (Ex.new hr)⟩⟩
  · subst z
    cases ix
    exact q.at ⟨p', ys, rfl, hp', iy⟩
  · subst z
    cases iy
    rw [List.append_nil] at q
    exact q.at ⟨p, xs, rfl, hp, ix⟩
theorem ev_unitN : Ev X (.Tuple [] kk pos) σ H (rTN []) := fun H1 e1 Q q =>
  ⟨_, pe_tup wa_ok, ea0 H1 e1 _ fun vs H2 e2 hv => by
    have hv : vs = [] := hv
    subst hv
    exact ⟨sz6 (by simp), fun p hp => q _ _ (e2.trans (Ex.new hp)) ⟨p, [], rfl, .inl ⟨upd_same, rfl⟩, .nil⟩⟩⟩
/-- tuple(a list) -/
theorem ev_tupleN {ds : List PyData} (hm : X.mg "tuple" = none) (ha : Ev X a σ H (rL ds)) (hg : Gl X "tuple" := by rfl) (he : starEach [a] X.env = (false, eval a X.env) :: starEach [] X.env := by rfl) (hpl : (backTo pos (starEach [] X.env)).any (·.1) = false := by rfl) :
    Ev X (.Call (.Name "tuple" p) [a] [] pos) σ H (rTN ds) := ev_ct call_tupleN hm (by decide +kernel) (eac ha ea0 he) (fun S vs H2 Q _ _ hv q => by
  obtain ⟨v, rfl, p, xs, rfl, h1, h2⟩ := one_arg hv
  exact ⟨p, xs, rfl, SqL.of h1, fun l ob hl hd => q _ _ (Ex.new hl) ⟨l, xs, rfl, .inr ⟨ob, upd_same, hd⟩, h2.ex (Ex.new hl)⟩⟩) hg (by decide) (by decide) he hpl
end
end Lk

set_option maxHeartbeats 1000000
/-! key_by, order_by, turns_of. -/
namespace Lk
open PySem PySem.Spec PyProof.Rows L2
open Evl (Ex)
def eK (k : List Int) : PyData := .tuple (k.map .int)
/-- a key and a number -/
def eP (p : List Int × Nat) : PyData := .tuple [eK p.1, .int (p.2 : Int)]
def leP : List Int × Nat → List Int × Nat → Bool := PySem.W.dataLe false eP
/-- the numbers by their keys -/
def orderF (ks : List (List Int)) : List Nat := (ks.zipIdx.mergeSort leP).map (·.2)
def eN (n : Nat) : PyData := .int (n : Int)
theorem orderF_len (ks : List (List Int)) : (orderF ks).length = ks.length := by
  rw [orderF, List.length_map, (List.mergeSort_perm _ _).length_eq, List.length_zipIdx]
theorem orderF_perm (ks : List (List Int)) : (orderF ks).Perm (List.range ks.length) := by
  have h := ((List.mergeSort_perm ks.zipIdx leP).map (·.2))
  have e : ks.zipIdx.map (·.2) = List.range ks.length := by
    rw [List.zipIdx_map_snd, List.range_eq_range']
  rw [e] at h
  exact h
theorem orderF_lt {ks : List (List Int)} {n : Nat} (h : n ∈ orderF ks) : n < ks.length := by
  have := (orderF_perm ks).mem_iff.mp h
  exact List.mem_range.mp this
theorem alike_eK (a b : List Int) : PySem.W.alike (eK a) (eK b) = true := by
  show PySem.W.alike (.tuple (a.map .int)) (.tuple (b.map .int)) = true
  rw [PySem.W.alike]
  exact PySem.W.alike_ints a b
theorem alike_eP (a b : List Int × Nat) : PySem.W.alike (eP a) (eP b) = true := by
  show PySem.W.alike (.tuple [eK a.1, .int a.2]) (.tuple [eK b.1, .int b.2]) = true
  simp [PySem.W.alike, PySem.W.alikeAll, alike_eK]
theorem depth_eK (a : List Int) : (eK a).depth = 1 := by
  show (PyData.tuple (a.map .int)).depth = 1
  rw [PyData.depth, PySem.W.depth_ints]
theorem depth_eP (a : List Int × Nat) : (eP a).depth ≤ 32 := by
  show (PyData.tuple [eK a.1, .int a.2]).depth ≤ 32
  simp [PyData.depth, PyData.depthAll, depth_eK]
theorem enu_map {α : Type} (g : α → PyData) (xs : List α) : enu (xs.map g) = xs.zipIdx.map fun p => .tuple [.int (p.2 : Int), g p.1] := by
  rw [enu, List.zipIdx_map, List.map_map] <;> rfl
section
variable {X : Cx} {σ : L2.St} {H H' : Hp} {a e : Expr} {p pos tpos : Pos} {elts : List Expr} {kk : Nat} {ρ : Rp} {D : Ends} {rest : List Stmt}
theorem wk_eV {ds : List PyData} {q : Addr} {xs : List V} (hm : X.mg "enumerate" = none) (ha : Ev X a σ H (rV (.ref q))) (h2 : H q = some (.lst xs)) (h3 : Ims H xs ds) (hg : Gl X "enumerate" := by rfl) (hs : starEach [a] X.env = [(false, eval a X.env)] := by rfl) (hs' : starEach [a] X.env = (false, eval a X.env) :: starEach [] X.env := by rfl) :
    Wk X (.Tuple elts kk tpos) (.Call (.Name "enumerate" p) [a] [] pos) σ H (enu ds) := fun H1 e1 R k =>
  ⟨_, pi_enum hg hm wa_ok hs, eac ha ea0 hs' H1 e1 _ fun vs H2 e2 hv => by
    obtain ⟨v, rfl, h1⟩ := one_arg hv
    have h1 : v = .ref q := h1
    subst h1
    refine ⟨q, xs, rfl, SqL.of ((e1.trans e2) _ _ h2), k _ H2 (fun H3 => H3 q = some (.lst xs) ∧ Ims H3 xs ds) e2 ⟨(e1.trans e2) _ _ h2, h3.ex (e1.trans e2)⟩ (fun H3 H4 g e => ⟨e _ _ g.1, g.2.ex e⟩) (fun l u hl hu hB => ?_) ?_⟩
    · have e := ex_off (e1.trans e2) hB
      exact ⟨e _ _ h2, h3.ex e⟩
    · have w := walk_enum (K := X.K) (a := q) (xs := xs)
      have el : xs.length = (enu ds).length := by rw [h3.len, enu_len]
      rw [el] at w
      exact w.mono (fun H g => SqL.of g.1) fun i H x H' hi g y => by
        obtain ⟨t, y1, y2, rfl, y3, rfl, y4, y5⟩ := y
        cases y4
        obtain ⟨d, d1, d2⟩ := g.2.getv y5
        exact ⟨Ex.new y3, _, enu_at d1, .tup upd_same (.cons (.int _) (.one (d2.ex (Ex.new y3))))⟩⟩
/-- l.extend(a new list) -/
theorem w_ext {o : Expr} {apos cpos : Pos} {l : Addr} {xs : List V} {ds : List PyData} (ho : Ev X o σ H (rV (.ref l))) (he : Ev X e σ H (rF ds)) (ha : H l = some (.lst xs)) (hz : xs.length + ds.length ≤ 100000) (q : ∀ ys H1, Ex H H1 → Ims H1 ys ds → Wm X rest D σ (upd H1 l (.lst (xs ++ ys))))
    (hb : PE X (.Call (.Attribute o "extend" apos) [e] [] cpos) (tBM X.K "list" rExtend (We X o) (Wa X [e])) := by exact pe_bm PySem.F.plainAttrs_list PySem.F.slot_list_extend PySem.F.type_list_extend mt_extend we_ok wa_ok)
    (hs : swapsWith (.Call (.Attribute o "extend" apos) [e] [] cpos) none pos.line X.env = pure false := by rfl) (hse : starEach [e] X.env = (false, eval e X.env) :: starEach [] X.env := by rfl) :
    Wm X (.Expr (.Call (.Attribute o "extend" apos) [e] [] cpos) pos :: rest) D σ H :=
  w_expr ⟨_, hb, ho H (Ex.refl H) _ fun x H1 e1 h1 => by
    have h1 : x = .ref l := h1
    subst h1
    exact ⟨.inl ⟨rfl, xs, SqL.of (e1 _ _ ha)⟩, eac he ea0 hse H1 e1 _ fun vs H2 e2 h2 => by
      obtain ⟨v, rfl, b, ys, rfl, h4, h5, h6⟩ := one_arg h2
      exact ⟨l, b, xs, ys, rfl, rfl, (e1.trans e2) _ _ ha, h5, by rw [h6.len, sizeLine_eq]; omega, q ys H2 (e1.trans e2) h6⟩⟩⟩ hs
end
section
variable {P : Program} {w : World} {K : Frag} {mg : Str → Option Value} {base : Heap}
structure Tk where
  sg : List Nat
  f : Fn
  s : Int
  t : List Nat
abbrev OkS (s : Int) : Prop := 1 ≤ s ∧ s ≤ 3
abbrev p_key_by : Sp := Pr (fun z : Tk => [rTb K z.sg z.f, rI z.s, rS z.t]) (fun z => rD (eK (keyF z.f z.s z.t))) (fun z => OkF z.sg z.f ∧ OkS z.s ∧ OkT z.sg z.t)
theorem mk_key_by (E : En w K mg base) : Cal P w K mg base "key_by" 3 [] (p_key_by (K := K)) :=
  cal_pr E D_key_by 18 29 sc_key_by (fun _ => rfl) (fun z cdv Ar outer s H vs Q EE S0 hr ok _ hv q => by
    obtain ⟨v1, v2, v3, rfl, h1, h2, h3⟩ := three_arg hv
    obtain ⟨o, os, ok⟩ := ok
    have x0 : ∀ S, (rTb K z.sg z.f).r S v1 H := fun _ => h1
    obtain ⟨c1, c2⟩ := cuts_len o z.t.length z.t (Nat.le_refl _) ok.ok
    have om := ok.most
    have rl := (rowF_len o ok.ok).1
    exact w_ret (ev_pr (mk_key_of E) hr (rowF z.f z.t, z.s) ⟨os, by show (rowF z.f z.t).length ≤ _; omega⟩ (eac (ev_pr (mk_units_of E) hr ⟨z.sg, z.f, cuts z.f z.t⟩ ⟨o, c2, by show (cuts z.f z.t).length ≤ _; omega⟩ (eac (ev_v (i := 0) rfl x0) (eac (ev_l (ev_pr (mk_cut_all E) hr ⟨z.sg, z.f, z.t⟩ ⟨o, ok⟩ (eac (ev_v (i := 0) rfl x0) (eac (ev_v (i := 2) (ρ := rS z.t) rfl fun _ => h3) ea0)))) ea0))) (eac (ev_v (i := 1) (ρ := rI z.s) rfl fun _ => h2) ea0))) q)
    (fun _ _ _ _ _ _ us hl => match us, hl with | [_, _, _], _ => rfl)
structure To where
  sg : List Nat
  f : Fn
  s : Int
  ts : List (List Nat)
def keysF (f : Fn) (s : Int) (ts : List (List Nat)) : List (List Int) := ts.map (keyF f s)
abbrev p_order_by : Sp := Pr (fun z : To => [rTb K z.sg z.f, rI z.s, rTN (z.ts.map eS)]) (fun z => rF ((orderF (keysF z.f z.s z.ts)).map eN)) (fun z => OkF z.sg z.f ∧ OkS z.s ∧ (∀ t ∈ z.ts, OkT z.sg t) ∧ z.ts.length ≤ 1000)
theorem mk_order_by (E : En w K mg base) : Cal P w K mg base "order_by" 4 [] (p_order_by (K := K)) :=
  cal_pr E D_order_by 19 30 sc_order_by (fun _ => rfl) (fun z cdv Ar outer s H vs Q EE S0 hr ok _ hv q => by
    obtain ⟨v1, v2, v3, rfl, h1, h2, h3⟩ := three_arg hv
    obtain ⟨o, os, ok, oz⟩ := ok
    obtain ⟨q3, xs3, rfl, hq3, hi3⟩ := h3
    have x0 : ∀ S, (rTb K z.sg z.f).r S v1 H := fun _ => h1
    refine w_lc (i := 3) (own := [("text", 4)]) (lc_all z.ts eS (fun t => eK (keyF z.f z.s t)) (wk_nV (ev_v (i := 2) rfl fun _ => rfl) hq3.sq hi3) rfl (by omega) fun t ht => tn_0 (j := 4) sc_order_by.nd fun x H2 e2 hx s H0 C cl fp =>
      ev_pq (mk_key_by E) ⟨z.sg, z.f, z.s, t⟩ rfl hr ⟨o, os, ok t ht⟩ (eac (ev_v (i := 0) rfl fun S => (rTb K z.sg z.f).m e2 (x0 S)) (eac (ev_v (i := 1) (ρ := rI z.s) rfl fun _ => Im.ex h2 e2) (eac (ev_v (i := 4) (ρ := rS t) rfl fun _ => hx) ea0)))) rfl sc_order_by.nd fun v H1 e1 ⟨l, xs, ev, _, hl, im⟩ => ?_
    subst ev
    have ek : (z.ts.map fun t => eK (keyF z.f z.s t)) = (keysF z.f z.s z.ts).map eK := by rw [keysF, List.map_map] <;> rfl
    rw [ek] at im
    have kl : (keysF z.f z.s z.ts).zipIdx.length ≤ 1000 := by rw [List.length_zipIdx, keysF, List.length_map]; exact oz
    have sl : ((keysF z.f z.s z.ts).zipIdx.mergeSort leP).length ≤ 1000 := by rw [(List.mergeSort_perm _ _).length_eq]; exact kl
    refine w_ret (ev_f (ev_lc (own := [("key", 5), ("number", 6)]) (lc_all ((keysF z.f z.s z.ts).zipIdx.mergeSort leP) eP (fun p => .int (p.2 : Int))
      (wk_l (ev_sorted (keysF z.f z.s z.ts).zipIdx eP E.srt hr.units (ev_l (ev_lc (own := [("number", 6), ("key", 5)]) (lc_all (keysF z.f z.s z.ts).zipIdx (fun p => .tuple [.int (p.2 : Int), eK p.1]) eP (wk_eV E.enum (ev_v (i := 3) rfl fun _ => rfl) hl im) (enu_map eK _) (by omega) fun p hp => tn_20 (i := 6) (j := 5) rfl sc_order_by.nd fun v w H2 e2 hv hw s H0 C cl fp =>
        ev_t2 (ev_v (i := 5) (ρ := rD (eK p.1)) rfl fun _ => hw) (ev_v (i := 6) (ρ := rI (p.2 : Int)) rfl fun _ => hv)) rfl sc_order_by.nd)) rfl (.of alike_eP) (.inl (.tuples fun b => ⟨_, _, rfl⟩)) (by omega) fun b _ => depth_eP b)) rfl (by omega)
      fun p hp => tn_20 (i := 5) (j := 6) rfl sc_order_by.nd fun v w H2 e2 hv hw s H0 C cl fp => ev_v (i := 6) (ρ := rI (p.2 : Int)) rfl fun _ => hw) rfl sc_order_by.nd) (by rw [orderF, List.map_map] <;> rfl)) (q.mono e1)) (fun _ _ _ _ _ _ us hl => match us, hl with | [_, _, _], _ => rfl)
/-- the pairs that turn over, from a place on -/
def tl (ps : List Int) (low : Nat) : List (Nat × Nat) := ((List.range (ps.length - (low + 1))).filter fun k => decide (ps.getD (low + 1 + k) 0 < ps.getD low 0)).map fun k => (low, low + 1 + k)
def turnsF (ps : List Int) : List (Nat × Nat) := (List.range ps.length).flatMap (tl ps)
def eNN (p : Nat × Nat) : PyData := .tuple [.int (p.1 : Int), .int (p.2 : Int)]
theorem tl_len (ps : List Int) (low : Nat) : (tl ps low).length ≤ ps.length := by
  rw [tl, List.length_map]
  have := List.length_filter_le (fun k => decide (ps.getD (low + 1 + k) 0 < ps.getD low 0)) (List.range (ps.length - (low + 1)))
  rw [List.length_range] at this
  omega
theorem flat_len {α : Type} (g : Nat → List α) (m : Nat) (h : ∀ k, (g k).length ≤ m) : ∀ n, ((List.range n).flatMap g).length ≤ n * m
  | 0 => by simp
  | n + 1 => by
    rw [List.range_succ, List.flatMap_append, List.length_append, Nat.add_mul]
    have ih := flat_len g m h n
    have := h n
    simp only [List.flatMap_cons, List.flatMap_nil, List.append_nil, Nat.one_mul]
    omega
theorem flat_succ {α : Type} (g : Nat → List α) (n : Nat) : (List.range (n + 1)).flatMap g = (List.range n).flatMap g ++ g n := by
  rw [List.range_succ, List.flatMap_append]
  simp
theorem getD_at {ps : List Int} {i : Nat} (h : i < ps.length) : ps[i]? = some (ps.getD i 0) := by
  rw [List.getD_eq_getElem?_getD, List.getElem?_eq_getElem h] <;> rfl
theorem atI_int {ps : List Int} {i : Nat} (h : i < ps.length) : atI (ps.map PyData.int) (i : Int) = some (.int (ps.getD i 0)) := by
  apply atI_nat
  rw [List.getElem?_map, getD_at h] <;> rfl
abbrev p_turns_of : Sp := Pr (fun ps : List Int => [rL (ps.map .int)]) (fun ps => rF ((turnsF ps).map eNN)) (fun ps => ps.length ≤ 200)
theorem mk_turns_of (E : En w K mg base) : Cal P w K mg base "turns_of" 1 [] p_turns_of :=
  cal_pr E D_turns_of 20 31 sc_turns_of (fun _ => rfl) (fun ps cdv Ar outer s H vs Q EE S0 hr ok _ hv q => by
    obtain ⟨v, rfl, pl, xs, rfl, hp, im⟩ := one_arg hv
    refine w_set (i := 1) sc_turns_of.nd ev_nil fun v H1 e1 ⟨l, xs0, ev, hl, hl1, im0⟩ => ?_
    subst ev
    refine w_for (B := H) rfl (wk_eV E.enum (ev_v (i := 0) rfl fun _ => rfl) hp im) e1 fun H2 G e2 g1 g2 g3 => ⟨fun i σ' H' => Ex H H' ∧ Ex (off l H2) H' ∧ ∃ a b c ys, σ' = [some (.ref pl), some (.ref l), a, b, c] ∧ H' l = some (.lst ys) ∧ Ims H' ys (((List.range i).flatMap (tl ps)).map eNN),
      ⟨e1.trans e2, off_ex, _, _, _, xs0, rfl, e2 _ _ hl1, im0.ex e2⟩, fun i σ' H' _ p => g2 _ _ (g3 l _ hl1 (fun ys z => by cases z) hl) p.2.1, fun i d σ' H' x H3 hd p e3 hx => ?_, fun σ' H' p => ?_⟩
    · obtain ⟨p1, p2, a, b, c, ys, rfl, p3, p4⟩ := p
      obtain ⟨d', hd', rfl⟩ := enu_inv hd
      rw [List.getElem?_map] at hd'
      have hi : i < ps.length := by
        cases z : ps[i]? with
        | none => rw [z] at hd'; cases hd'
        | some n => exact (List.getElem?_eq_some_iff.mp z).1
      rw [getD_at hi] at hd'
      cases hd'
      obtain ⟨t, v1, v2, rfl, ht, m1, m2⟩ := im2 hx
      refine wg_t2 (i := 2) (j := 3) rfl sc_turns_of.nd ht ?_
      have ok : ps.length ≤ 200 := ok
      have b1 := flat_len (tl ps) ps.length (tl_len ps) i
      have b2 : i * ps.length ≤ 200 * 200 := Nat.mul_le_mul (by omega) ok
      have b3 := tl_len ps i
      have pv : ∀ {H4 : Hp}, Ex H3 H4 → ∀ S, (rL (ps.map .int)).r S (.ref pl) H4 := fun {H4} e4 S => ⟨pl, xs, rfl, ((p1.trans e3).trans e4) _ _ hp, im.ex ((p1.trans e3).trans e4)⟩
      refine w_ext (l := l) (xs := ys) (ev_v (i := 1) rfl fun _ => rfl) (ev_lc (own := [("high", 4)]) (lc_if (List.range (ps.length - (i + 1))) (fun (k : Nat) => .int ((i : Int) + 1 + (k : Int))) (fun k => decide (ps.getD (i + 1 + k) 0 < ps.getD i 0)) (fun k => eNN (i, i + 1 + k))
        (wk_r2 E.rng (ev_add (ev_v (i := 2) rfl fun _ => m1) ev_int) (ev_len E.len (ev_ql (ev_v (i := 0) rfl (pv (Ex.refl _))))) (by rw [List.length_map]; omega) (by omega) (by omega) (by omega)) (by rw [rng_map, List.length_map]; congr 2; omega) (by rw [List.length_range]; omega)
        fun k hk => tn_n (j := 4) sc_turns_of.nd fun y H4 e4 hy => ?_) rfl sc_turns_of.nd) (e3 _ _ p3) (by rw [p4.len, List.length_map, List.length_map]; have := List.length_filter_le (fun k => decide (ps.getD (i + 1 + k) 0 < ps.getD i 0)) (List.range (ps.length - (i + 1))); rw [List.length_range] at this; omega) fun zs H4 e4 hz => ?_
      · have hk := List.mem_range.mp hk
        have hy : Im H4 y (.int ((i + 1 + k : Nat) : Int)) := by
          rw [show ((i + 1 + k : Nat) : Int) = (i : Int) + 1 + (k : Int) by omega]
          exact hy
        refine ⟨fun s H0 C cl fp => ets1 (et_cmp op_lt (ev_ixl (ev_v (i := 0) rfl (pv e4)) (ev_v (i := 4) (ρ := rI ((i + 1 + k : Nat) : Int)) rfl fun _ => hy) (atI_int (by omega))) (ev_v (i := 3) (ρ := rI (ps.getD i 0)) rfl fun _ => m2.ex e4) r_lt (nomark _)), fun _ s H0 C cl fp =>
          ev_t2 (ev_v (i := 2) (ρ := rI (i : Int)) rfl fun _ => m1.ex e4) (ev_v (i := 4) (ρ := rI ((i + 1 + k : Nat) : Int)) rfl fun _ => hy)⟩
      · have l4 := e4 _ _ (e3 _ _ p3)
        have tu4 := tu_upd (u := .lst (ys ++ zs)) l4 (fun ys z => by cases z)
        refine w_end ⟨Ex.mut ((p1.trans e3).trans e4) hl, ex_updl ((p2.trans e3).trans e4), _, _, _, _, rfl, upd_same, ?_⟩
        rw [flat_succ, List.map_append]
        refine ((p4.ex (e3.trans e4)).app ?_).tu tu4
        rw [tl, List.map_map]
        exact hz
    · obtain ⟨p1, p2, a, b, c, ys, rfl, p3, p4⟩ := p
      rw [enu_len, List.length_map] at p4
      exact w_ret (ev_v (i := 1) (ρ := rV (.ref l)) rfl fun _ => rfl) fun v H3 e3 hv => by
        have hv : v = .ref l := hv
        subst hv
        exact q _ _ (p1.trans e3) ⟨l, ys, rfl, hl, e3 _ _ p3, p4.ex e3⟩) (fun _ _ _ _ _ _ us hl => match us, hl with | [_], _ => rfl)
end
end Lk

set_option maxHeartbeats 1000000
/-! The law's own reading, keys, lines, turns. -/
namespace Lk
open PySem PySem.Spec PyProof.Rows L2
open Evl (Ex)
theorem pc_eq (f : Fn) (t : List Nat) : pc f t = if (f (t.take 3)).isSome = true then t.take 3 else if (f (t.take 2)).isSome = true then t.take 2 else if (f (t.take 1)).isSome = true then t.take 1 else [] := by
  unfold pc
  simp only [List.map_cons, List.map_nil]
  cases h1 : (f (t.take 1)).isSome <;> cases h2 : (f (t.take 2)).isSome <;> cases h3 : (f (t.take 3)).isSome <;> simp [List.filter, h1, h2, h3]
theorem pc_max {f : Fn} {t : List Nat} {n : Nat} (h : (f (t.take n)).isSome = true) (hn : n = 1 ∨ n = 2 ∨ n = 3) (hl : n ≤ t.length) : n ≤ (pc f t).length := by
  rw [pc_eq]
  rcases hn with rfl | rfl | rfl <;> simp only [h, if_true]
  · split
    · rw [List.length_take]; omega
    · split
      · rw [List.length_take]; omega
      · rw [List.length_take]; omega
  · split
    · rw [List.length_take]; omega
    · rw [List.length_take]; omega
  · rw [List.length_take]; omega
section
variable {P : Program} {w : World} {K : Frag} {mg : Str → Option Value} {base : Heap}
abbrev p_law_pieces : Sp := Pr (fun z : Tt => [rKf z.f, rS z.t]) (fun z => rF ((cuts z.f z.t).map eS)) (fun z => OkF z.sg z.f ∧ OkT z.sg z.t)
theorem mk_law_pieces (E : En w K mg base) : Cal P w K mg base "_law_pieces" 1 [] p_law_pieces :=
  cal_pr E D__law_pieces 48 45 sc__law_pieces (fun _ => rfl) (fun z cdv Ar outer s H vs Q EE S0 hr ok _ hv q => by
    obtain ⟨v1, v2, rfl, h1, h2⟩ := two_arg hv
    obtain ⟨o, ok⟩ := ok
    have x0 : ∀ S, (rKf z.f).r S v1 H := fun _ => h1
    have om := ok.most
    refine w_par2 (i := 2) (j := 3) rfl sc__law_pieces.nd ev_nil ev_int fun v v' H1 e1 ⟨l, xs0, ev, hl, hl1, im0⟩ hv' => ?_
    subst ev
    have hv' := Im.eint hv'
    subst hv'
    refine w_while (fun σ _ => match σ[3]? with
      | some (some (V.int n)) => z.t.length - n.toNat
      | _ => 0) (fun σ' H' => ∃ (n : Nat) (a b : Option V) (acc : List (List Nat)) (xs : List V), σ' = [some v1, some v2, some (.ref l), some (.int (n : Int)), a, b] ∧ Ex H H' ∧ H' l = some (.lst xs) ∧ Ims H' xs (acc.map eS) ∧ acc ++ cuts z.f (z.t.drop n) = cuts z.f z.t ∧ n ≤ z.t.length) ⟨0, _, _, [], xs0, rfl, e1, hl1, im0, rfl, Nat.zero_le _⟩ fun σ' H' p => ?_
    obtain ⟨n, a, b, acc, xs, rfl, p1, p2, p3, p4, p5⟩ := p
    have x1 : ∀ {H2 : Hp}, Ex H' H2 → ∀ S, (rS z.t).r S v2 H2 := fun e2 _ => Im.ex h2 (p1.trans e2)
    have xn : ∀ {H2 : Hp} S, (rI (n : Int)).r S (.int (n : Int)) H2 := fun _ => .int _
    refine ⟨_, et_cmp op_lt (ev_v (i := 3) (ρ := rI (n : Int)) rfl xn) (ev_lens (l := z.t) E.len (ev_v (i := 1) rfl (x1 (Ex.refl _))) (by omega)) r_lt (nomark _), fun hb H2 e2 => ?_, fun hb H2 e2 => ?_⟩
    · have hn : n < z.t.length := by have := of_decide_eq_true hb; omega
      have ne : z.t.drop n ≠ [] := fun e => by have := congrArg List.length e; rw [List.length_drop, List.length_nil] at this; omega
      have okd := drop_ok (n := n) ok.ok
      obtain ⟨q0, qt, q1, q3, q2⟩ := pc_take o okd ne
      rw [List.length_drop] at q2
      have cc := (cuts_len o z.t.length z.t (Nat.le_refl _) ok.ok).1
      have c2 := congrArg List.length p4
      rw [cuts_cons o okd ne, List.length_append, List.length_cons] at c2
      refine w_set (i := 4) sc__law_pieces.nd (ev_maxl (m := ((pc z.f (z.t.drop n)).length : Int)) (ns := (((List.range 3).filter fun k => (z.f ((z.t.drop n).take (k + 1))).isSome && decide (n + (k + 1) ≤ z.t.length))).map fun k => ((k + 1 : Nat) : Int)) rfl E.max (ev_ll (ev_l (ev_lc (own := [("_law_many", 5)])
        (lc_if (List.range 3) (fun (k : Nat) => .int ((k + 1 : Nat) : Int)) (fun k => (z.f ((z.t.drop n).take (k + 1))).isSome && decide (n + (k + 1) ≤ z.t.length)) (fun k => .int ((k + 1 : Nat) : Int)) (wk_t (ev_t3 ev_int ev_int ev_int)) rfl (by decide) fun k hk => tn_n (j := 5) sc__law_pieces.nd fun x H3 e3 hx => ⟨fun s H0 C cl fp => ?_, fun _ s H0 C cl fp => ev_v (i := 5) rfl fun _ => hx⟩) rfl sc__law_pieces.nd)) (by rw [List.map_map] <;> rfl)) ?_ ?_) fun v H3 e3 hv => ?_
      · refine ets1 (et_b (et_and (et_inf (hu_of hr) (ev_sls (l := z.t) (ev_v (i := 1) rfl (x1 (e2.trans e3))) (ep1 (ev_v (i := 3) (ρ := rI (n : Int)) rfl xn)) (ep1 (ev_add (ev_v (i := 3) (ρ := rI (n : Int)) rfl xn) (ev_v (i := 5) rfl fun _ => hx))) (by omega)) (ev_v (i := 0) rfl fun S => (rKf z.f).m ((p1.trans e2).trans e3) (x0 S)))
          fun _ => ew_and1 (et_cmp op_le (ev_add (ev_v (i := 3) (ρ := rI (n : Int)) rfl xn) (ev_v (i := 5) rfl fun _ => hx)) (ev_lens (l := z.t) E.len (ev_v (i := 1) rfl (x1 (e2.trans e3))) (by omega)) r_le (nomark _))) ?_)
        have e1 : (n : Int) + ((k + 1 : Nat) : Int) = ((n + (k + 1) : Nat) : Int) := by omega
        have e2 : decide (((n + (k + 1) : Nat) : Int) ≤ (z.t.length : Int)) = decide (n + (k + 1) ≤ z.t.length) := by rw [Bool.eq_iff_iff, decide_eq_true_eq, decide_eq_true_eq]; omega
        rw [e1, cutL_lohi, e2, Nat.add_sub_cancel_left]
      · refine List.mem_map.mpr ⟨(pc z.f (z.t.drop n)).length - 1, List.mem_filter.mpr ⟨List.mem_range.mpr (by omega), ?_⟩, by congr 1; omega⟩
        rw [show (pc z.f (z.t.drop n)).length - 1 + 1 = (pc z.f (z.t.drop n)).length by omega, ← qt, q0, decide_eq_true (by omega)]
        rfl
      · intro y hy
        obtain ⟨k, hk, rfl⟩ := List.mem_map.mp hy
        obtain ⟨k1, k2⟩ := List.mem_filter.mp hk
        rw [Bool.and_eq_true, decide_eq_true_eq] at k2
        have k1 := List.mem_range.mp k1
        have := pc_max (f := z.f) (t := z.t.drop n) (n := k + 1) k2.1 (by omega) (by rw [List.length_drop]; omega)
        omega
      · have hv := Im.eint hv
        subst hv
        have xm : ∀ {H2 : Hp} S, (rI ((pc z.f (z.t.drop n)).length : Int)).r S (.int ((pc z.f (z.t.drop n)).length : Int)) H2 := fun _ => .int _
        refine w_app (a := l) (xs := xs) (ev_v (i := 2) rfl fun _ => rfl) (ev_sls (l := z.t) (ev_v (i := 1) rfl (x1 (e2.trans e3))) (ep1 (ev_v (i := 3) (ρ := rI (n : Int)) rfl xn)) (ep1 (ev_add (ev_v (i := 3) (ρ := rI (n : Int)) rfl xn) (ev_v (i := 4) rfl xm))) (by omega)) (e3 _ _ (e2 _ _ p2)) (by rw [p3.len, List.length_map]; omega) fun v H4 e4 hv => ?_
        have ec : cutL z.t (some (n : Int)) (some ((n : Int) + ((pc z.f (z.t.drop n)).length : Int))) = pc z.f (z.t.drop n) := by
          rw [show (n : Int) + ((pc z.f (z.t.drop n)).length : Int) = ((n + (pc z.f (z.t.drop n)).length : Nat) : Int) by omega, cutL_lohi, Nat.add_sub_cancel_left]
          exact qt.symm
        rw [ec] at hv
        have l4 := e4 _ _ (e3 _ _ (e2 _ _ p2))
        have tu4 := tu_upd (u := .lst (xs ++ [v])) l4 (fun ys z => by cases z)
        have im4 : Ims (upd H4 l (.lst (xs ++ [v]))) (xs ++ [v]) ((acc ++ [pc z.f (z.t.drop n)]).map eS) := by
          rw [List.map_append, List.map_singleton]
          exact ((p3.ex ((e2.trans e3).trans e4)).snoc hv).tu tu4
        have ex4 : Ex H (upd H4 l (.lst (xs ++ [v]))) := Ex.mut (((p1.trans e2).trans e3).trans e4) hl
        refine w_set (i := 3) sc__law_pieces.nd (ev_add (ev_v (i := 3) (ρ := rI (n : Int)) rfl xn) (ev_v (i := 4) rfl xm)) fun v5 H5 e5 hv5 => ?_
        have hv5 := Im.eint hv5
        subst hv5
        rw [show (n : Int) + ((pc z.f (z.t.drop n)).length : Int) = ((n + (pc z.f (z.t.drop n)).length : Nat) : Int) by omega]
        refine w_end ⟨?_, n + (pc z.f (z.t.drop n)).length, _, _, acc ++ [pc z.f (z.t.drop n)], xs ++ [v], rfl, ex4.trans e5, e5 _ _ upd_same, im4.ex e5, ?_, by omega⟩
        · show z.t.length - ((n + (pc z.f (z.t.drop n)).length : Nat) : Int).toNat < z.t.length - ((n : Nat) : Int).toNat
          omega
        · rw [← p4, cuts_cons o okd ne, List.append_assoc, List.drop_drop]
          rfl
    · have hn : n = z.t.length := by have := of_decide_eq_false hb; omega
      subst hn
      rw [List.drop_length, cuts_nil, List.append_nil] at p4
      subst p4
      exact w_ret (ev_v (i := 2) (ρ := rV (.ref l)) rfl fun _ => rfl) fun v H3 e3 hv => by
        have hv : v = .ref l := hv
        subst hv
        exact q _ _ ((p1.trans e2).trans e3) ⟨l, xs, rfl, hl, (e2.trans e3) _ _ p2, p3.ex (e2.trans e3)⟩) (fun _ _ _ _ _ _ us hl => match us, hl with | [_, _], _ => rfl)
abbrev p_law_row : Sp := Pr (fun z : Tt => [rKf z.f, rS z.t]) (fun z => rT ((rowF z.f z.t).map eU)) (fun z => OkF z.sg z.f ∧ OkT z.sg z.t)
theorem unitsOf_snoc (f : Fn) (ps : List (List Nat)) (p : List Nat) : unitsOf f (ps ++ [p]) = unitsOf f ps ++ (f p).getD [] := by
  unfold unitsOf
  rw [List.flatMap_append]
  simp
theorem mk_law_row (E : En w K mg base) : Cal P w K mg base "_law_row" 2 [] p_law_row :=
  cal_pr E D__law_row 49 46 sc__law_row (fun _ => rfl) (fun z cdv Ar outer s H vs Q EE S0 hr ok _ hv q => by
    obtain ⟨v1, v2, rfl, h1, h2⟩ := two_arg hv
    obtain ⟨o, ok⟩ := ok
    have x0 : ∀ {H2 : Hp}, Ex H H2 → ∀ S, (rKf z.f).r S v1 H2 := fun e S => (rKf z.f).m e h1
    have om := ok.most
    obtain ⟨cl, cs⟩ := cuts_len o z.t.length z.t (Nat.le_refl _) ok.ok
    refine w_set (i := 2) sc__law_row.nd ev_nil fun v H1 e1 ⟨l, xs0, ev, hl, hl1, im0⟩ => ?_
    subst ev
    refine w_for rfl (wk_l (ev_pr (mk_law_pieces E) hr z ⟨o, ok⟩ (eac (ev_v (i := 0) rfl (x0 e1)) (eac (ev_v (i := 1) (ρ := rS z.t) rfl fun _ => Im.ex h2 e1) ea0)))) (Ex.refl _) fun H2 G e2 g1 g2 g3 => ⟨fun i σ' H' => Ex H2 H' ∧ ∃ l b xs, σ' = [some v1, some v2, some (.ref l), b] ∧ H' l = some (.lst xs) ∧ Ims H' xs ((unitsOf z.f ((cuts z.f z.t).take i)).map eU),
      ⟨Ex.refl _, l, _, xs0, rfl, e2 _ _ hl1, im0.ex e2⟩, fun i σ' H' _ p => g2 _ _ g1 p.1, fun i d σ' H' x H3 hd p e3 hx => ?_, fun σ' H' p => ?_⟩
    · obtain ⟨p1, l, b, xs, rfl, p3, p4⟩ := p
      rw [List.getElem?_map] at hd
      cases hp : (cuts z.f z.t)[i]? with
      | none => rw [hp] at hd; cases hd
      | some p =>
        rw [hp] at hd
        cases hd
        obtain ⟨us, hus⟩ := Option.isSome_iff_exists.mp (cs p (List.mem_of_getElem? hp))
        obtain ⟨_, o1, _⟩ := o.sq p us hus
        have ul := unitsOf_len o ((cuts z.f z.t).take i) fun q hq => cs q (List.mem_of_mem_take hq)
        have tl : ((cuts z.f z.t).take i).length ≤ (cuts z.f z.t).length := by rw [List.length_take]; omega
        refine wg_n (i := 3) sc__law_row.nd ?_
        refine w_set (i := 2) sc__law_row.nd (ev_addl (es := us.map eU) (ev_v (i := 2) (ρ := rL ((unitsOf z.f ((cuts z.f z.t).take i)).map eU)) rfl fun _ => ⟨l, xs, rfl, e3 _ _ p3, p4.ex e3⟩) (ev_l (ev_list E.lst (ev_qt (ev_ixf (hu_of hr) (ev_v (i := 0) rfl (x0 (((e1.trans e2).trans p1).trans e3))) (ev_v (i := 3) (ρ := rS p) rfl fun _ => hx) hus)))) (by rw [List.length_map, List.length_map]; omega)) fun v H4 e4 ⟨l2, xs2, ev2, _, hl2, im2⟩ => ?_
        subst ev2
        refine w_end ⟨(p1.trans e3).trans e4, l2, some x, xs2, rfl, hl2, ?_⟩
        rw [take_snoc hp, unitsOf_snoc, hus, List.map_append]
        exact im2
    · obtain ⟨p1, l, b, xs, rfl, p3, p4⟩ := p
      rw [List.length_map, List.take_length] at p4
      exact w_ret (ev_tuple E.tup (ev_ql (ev_v (i := 2) (ρ := rL ((rowF z.f z.t).map eU)) rfl fun _ => ⟨l, xs, rfl, p3, p4⟩))) (q.mono ((e1.trans e2).trans p1))) (fun _ _ _ _ _ _ us hl => match us, hl with | [_, _], _ => rfl)
abbrev p_law_key : Sp := Pr (fun z : Tk => [rKf z.f, rS z.t, rI z.s]) (fun z => rD (eK (keyF z.f z.s z.t))) (fun z => OkF z.sg z.f ∧ OkS z.s ∧ OkT z.sg z.t)
theorem mk_law_key (E : En w K mg base) : Cal P w K mg base "_law_key" 3 [] p_law_key :=
  cal_pr E D__law_key 50 47 sc__law_key (fun _ => rfl) (fun z cdv Ar outer s H vs Q EE S0 hr ok _ hv q => by
    obtain ⟨v1, v2, v3, rfl, h1, h2, h3⟩ := three_arg hv
    obtain ⟨sg, f, st, t⟩ := z
    obtain ⟨o, os, ok⟩ := ok
    have os : 1 ≤ st ∧ st ≤ 3 := os
    have om : t.length ≤ 200 := ok.most
    have rl : (rowF f t).length ≤ 3 * t.length := (rowF_len o ok.ok).1
    refine w_set (i := 3) sc__law_key.nd (ev_pr (mk_law_row E) hr ⟨sg, f, t⟩ ⟨o, ok⟩ (eac (ev_v (i := 0) (ρ := rKf f) rfl fun _ => h1) (eac (ev_v (i := 1) (ρ := rS t) rfl fun _ => h2) ea0))) fun vu H1 e1 hvu => ?_
    have y0 : ∀ {H2 : Hp}, Ex H1 H2 → ∀ S, (rT ((rowF f t).map eU)).r S vu H2 := fun e _ => Im.ex hvu e
    refine w_lc (i := 4) (own := [("_law_unit_here", 5)]) (lc_all (rowF f t) eU (fun u => .int u.1) (wk_t (ev_v (i := 3) rfl (y0 (Ex.refl _)))) rfl (by omega) fun u hu => tn_0 (j := 5) sc__law_key.nd fun x H2 e2 hx s H0 C cl fp => ev_ixt (ev_v (i := 5) (ρ := rT [.int u.1, .int u.2.1, .int u.2.2]) rfl fun _ => hx) ev_int rfl) rfl sc__law_key.nd fun v H2 e2 ⟨l, xs, ev, _, hl, im⟩ => ?_
    subst ev
    refine w_for rfl (wk_r2 (lo := 1) (n := st) E.rng ev_int (ev_v (i := 2) (ρ := rI st) rfl fun _ => Im.ex h3 (e1.trans e2)) (by omega) (by omega) (by decide) (by decide)) (Ex.refl _) fun H3 G e3 g1 g2 g3 => ⟨fun i σ' H' => Ex H3 H' ∧ ∃ l a b xs, σ' = [some v1, some v2, some v3, some vu, some (.ref l), a, b] ∧ H' l = some (.lst xs) ∧ Ims H' xs ((levU (rowF f t) i).map .int),
      ⟨Ex.refl _, l, _, _, xs, rfl, e3 _ _ hl, by rw [show (levU (rowF f t) 0).map PyData.int = (rowF f t).map fun u => .int u.1 by rw [levU, List.map_map] <;> rfl]; exact im.ex e3⟩, fun i σ' H' _ p => g2 _ _ g1 p.1, fun i d σ' H' x H4 hd p e4 hx => ?_, fun σ' H' p => ?_⟩
    · obtain ⟨p1, l, a, b, xs, rfl, p3, p4⟩ := p
      have hi : i < (st - 1).toNat := by
        have := (List.getElem?_eq_some_iff.mp hd).1
        simpa [rng] using this
      rw [rng_map, List.getElem?_map, List.getElem?_range hi] at hd
      cases hd
      refine wg_n (i := 6) sc__law_key.nd ?_
      have ll := levU_len (rowF f t) i
      have bd : i * ((rowF f t).length + 1) ≤ 1 * ((rowF f t).length + 1) := Nat.mul_le_mul_right _ (by omega)
      refine w_set (i := 4) sc__law_key.nd (ev_addl (ev_l (ev_addl (ev_v (i := 4) (ρ := rL ((levU (rowF f t) i).map .int)) rfl fun _ => ⟨l, xs, rfl, e4 _ _ p3, p4.ex e4⟩) (ev_l (ev_l1 ev_int)) (by rw [List.length_map, List.length_singleton]; omega)))
        (ev_l (ev_lc (own := [("_law_unit_here", 5)]) (lc_all (rowF f t) eU (fun u => .int (cmpU u (i + 1) + 1)) (wk_t (ev_v (i := 3) rfl (y0 (((e2.trans e3).trans p1).trans e4)))) rfl (by omega) fun u hu => tn_0 (j := 5) sc__law_key.nd fun y H5 e5 hy s H0 C cl fp => ev_add (ev_ixt (ev_v (i := 5) (ρ := rT [.int u.1, .int u.2.1, .int u.2.2]) rfl fun _ => hy) (ev_v (i := 6) rfl fun _ => hx.ex e5) (d := .int (cmpU u (i + 1))) ?_) ev_int) rfl sc__law_key.nd)) (by rw [List.length_append, List.length_map, List.length_singleton, List.length_map]; omega)) fun v H5 e5 ⟨l2, xs2, ev2, _, hl2, im2⟩ => ?_
      · have c : i = 0 ∨ i = 1 := by omega
        rcases c with rfl | rfl <;> rfl
      · subst ev2
        refine w_end ⟨(p1.trans e4).trans e5, l2, a, some x, xs2, rfl, hl2, ?_⟩
        have e : (levU (rowF f t) (i + 1)).map PyData.int = (levU (rowF f t) i).map .int ++ [.int 0] ++ (rowF f t).map fun u => .int (cmpU u (i + 1) + 1) := by
          rw [levU, List.map_append, List.map_cons, List.map_map, List.append_assoc] <;> rfl
        rw [e]
        exact im2
    · obtain ⟨p1, l, a, b, xs, rfl, p3, p4⟩ := p
      rw [rng_map, List.length_map, List.length_range, ← keyU_lev (rowF f t) os] at p4
      exact w_ret (ev_tuple E.tup (ev_ql (ev_v (i := 4) (ρ := rL ((keyU (rowF f t) st).map .int)) rfl fun _ => ⟨l, xs, rfl, p3, p4⟩))) (q.mono (((e1.trans e2).trans e3).trans p1))) (fun _ _ _ _ _ _ us hl => match us, hl with | [_, _, _], _ => rfl)
theorem mem_zipI {α : Type} {l : List α} {p : α × Nat} (h : p ∈ l.zipIdx) : l[p.2]? = some p.1 := by
  obtain ⟨a, i⟩ := p
  exact List.mem_zipIdx_iff_getElem?.mp h
theorem rng_zip {α : Type} (l : List α) : rng 0 l.length = l.zipIdx.map fun p => .int (p.2 : Int) := by
  have e : l.zipIdx.map (·.2) = List.range l.length := by rw [List.zipIdx_map_snd, List.range_eq_range']
  rw [rng_map, ← e, List.map_map]
  apply List.map_congr_left
  intro p _
  show PyData.int (0 + (p.2 : Int)) = .int (p.2 : Int)
  rw [Int.zero_add]
abbrev p_law_line : Sp := Pr (fun z : To => [rKf z.f, rI z.s, rL (z.ts.map eS)]) (fun z => rF ((orderF (keysF z.f z.s z.ts)).map eN)) (fun z => OkF z.sg z.f ∧ OkS z.s ∧ (∀ t ∈ z.ts, OkT z.sg t) ∧ z.ts.length ≤ 1000)
theorem mk_law_line (E : En w K mg base) : Cal P w K mg base "_law_line" 4 [] p_law_line :=
  cal_pr E D__law_line 53 50 sc__law_line (fun _ => rfl) (fun z cdv Ar outer s H vs Q EE S0 hr ok _ hv q => by
    obtain ⟨v1, v2, v3, rfl, h1, h2, lt, xt, rfl, ht, imt⟩ := three_arg hv
    obtain ⟨o, os, ok, oz⟩ := ok
    have x0 : ∀ {H2 : Hp}, Ex H H2 → ∀ S, (rKf z.f).r S v1 H2 := fun e S => (rKf z.f).m e h1
    have x2 : ∀ {H2 : Hp}, Ex H H2 → ∀ S, (rL (z.ts.map eS)).r S (.ref lt) H2 := fun e S => ⟨lt, xt, rfl, e _ _ ht, imt.ex e⟩
    have kl : (keysF z.f z.s z.ts).length = z.ts.length := by rw [keysF, List.length_map]
    have zl : (keysF z.f z.s z.ts).zipIdx.length ≤ 1000 := by rw [List.length_zipIdx, kl]; exact oz
    have sl : ((keysF z.f z.s z.ts).zipIdx.mergeSort leP).length ≤ 1000 := by rw [(List.mergeSort_perm _ _).length_eq]; exact zl
    refine w_set (i := 3) sc__law_line.nd (ev_sorted (keysF z.f z.s z.ts).zipIdx eP E.srt hr.units (ev_l (ev_lc (own := [("_law_k", 4)]) (lc_all (keysF z.f z.s z.ts).zipIdx (fun p => .int (p.2 : Int)) eP (wk_r1 E.rng (ev_len E.len (ev_ql (ev_v (i := 2) rfl (x2 (Ex.refl _))))) (by rw [List.length_map]; omega) (by omega)) (by rw [← rng_zip, List.length_map, kl, Int.toNat_natCast]) (by omega) fun p hp => ?_) rfl sc__law_line.nd)) rfl (.of alike_eP) (.inl (.tuples fun b => ⟨_, _, rfl⟩)) (by omega) fun b _ => depth_eP b) fun v H1 e1 ⟨l, xs, ev, _, hl, im⟩ => ?_
    · have hp := mem_zipI hp
      rw [keysF, List.getElem?_map] at hp
      cases ht2 : z.ts[p.2]? with
      | none => rw [ht2] at hp; cases hp
      | some t =>
        rw [ht2] at hp
        have hp : some (keyF z.f z.s t) = some p.1 := hp
        have ek := Option.some.inj hp
        exact tn_0 (j := 4) sc__law_line.nd fun x H2 e2 hx s H0 C cl fp => ev_t2 (ev_pq (mk_law_key E) ⟨z.sg, z.f, z.s, t⟩ (by rw [← ek]) hr ⟨o, os, ok t (List.mem_of_getElem? ht2)⟩ (eac (ev_v (i := 0) rfl (x0 e2)) (eac (ev_ixl (d := eS t) (ev_v (i := 2) rfl (x2 e2)) (ev_v (i := 4) (ρ := rI (p.2 : Int)) rfl fun _ => hx) (atI_nat (by rw [List.getElem?_map, ht2] <;> rfl))) (eac (ev_v (i := 1) (ρ := rI z.s) rfl fun _ => Im.ex h2 e2) ea0)))) (ev_v (i := 4) (ρ := rI (p.2 : Int)) rfl fun _ => hx)
    · subst ev
      exact w_ret (ev_f (ev_lc (own := [("_law_own_here", 5), ("_law_k", 4)]) (lc_all ((keysF z.f z.s z.ts).zipIdx.mergeSort leP) eP (fun p => .int (p.2 : Int)) (wk_v (ev_v (i := 3) rfl fun _ => rfl) hl im) rfl (by omega)
        fun p hp => tn_20 (i := 5) (j := 4) rfl sc__law_line.nd fun v w H2 e2 hv hw s H0 C cl fp => ev_v (i := 4) (ρ := rI (p.2 : Int)) rfl fun _ => hw) rfl sc__law_line.nd) (by rw [orderF, List.map_map] <;> rfl)) (q.mono e1)) (fun _ _ _ _ _ _ us hl => match us, hl with | [_, _, _], _ => rfl)
end
end Lk

set_option maxHeartbeats 1000000
/-! The law's turns; mixed numbers. -/
namespace Lk
open PySem PySem.Spec PyProof.Rows L2
open Evl (Ex)
section
variable {P : Program} {w : World} {K : Frag} {mg : Str → Option Value} {base : Heap}
abbrev p_law_turns : Sp := Pr (fun ps : List Int => [rL (ps.map .int)]) (fun ps => rF ((turnsF ps).map eNN)) (fun ps => ps.length ≤ 200)
theorem turnsF_nil : ∀ ps : List Int, ps.length = 0 → turnsF ps = []
  | [], _ => rfl
theorem mk_law_turns (E : En w K mg base) : Cal P w K mg base "_law_turns" 1 [] p_law_turns :=
  cal_pr E D__law_turns 55 52 sc__law_turns (fun _ => rfl) (fun ps cdv Ar outer s H vs Q EE S0 hr ok _ hv q => by
    obtain ⟨v, rfl, pl, xs, rfl, hp, im⟩ := one_arg hv
    have ok : ps.length ≤ 200 := ok
    have pv : ∀ {H4 : Hp}, Ex H H4 → ∀ S, (rL (ps.map .int)).r S (.ref pl) H4 := fun {H4} e4 S => ⟨pl, xs, rfl, e4 _ _ hp, im.ex e4⟩
    refine w_set (i := 1) sc__law_turns.nd ev_nil fun v H1 e1 ⟨l, xs0, ev, hl, hl1, im0⟩ => ?_
    subst ev
    refine w_for rfl (wk_r1 E.rng (ev_len E.len (ev_ql (ev_v (i := 0) rfl (pv e1)))) (by rw [List.length_map]; omega) (by omega)) (Ex.refl _) fun H2 G e2 g1 g2 g3 => ⟨fun i σ' H' => Ex H2 H' ∧ ∃ l a c ys, σ' = [some (.ref pl), some (.ref l), a, c] ∧ H' l = some (.lst ys) ∧ Ims H' ys (((List.range i).flatMap (tl ps)).map eNN) ∧ H l = none,
      ⟨Ex.refl _, l, _, _, xs0, rfl, e2 _ _ hl1, im0.ex e2, hl⟩, fun i σ' H' _ p => g2 _ _ g1 p.1, fun i d σ' H' x H3 hd p e3 hx => ?_, fun σ' H' p => ?_⟩
    · obtain ⟨p1, l, a, c, ys, rfl, p3, p4, p5⟩ := p
      have hi : i < ps.length := by
        have := (List.getElem?_eq_some_iff.mp hd).1
        simpa [rng] using this
      rw [rng_map, List.getElem?_map, List.getElem?_range (by rw [List.length_map]; omega)] at hd
      cases hd
      have hx : Im H3 x (.int (i : Int)) := by
        have e : (0 : Int) + (i : Int) = (i : Int) := by omega
        rw [← e]
        exact hx
      refine wg_n (i := 2) sc__law_turns.nd ?_
      have b1 := flat_len (tl ps) ps.length (tl_len ps) i
      have b2 : i * ps.length ≤ 200 * 200 := Nat.mul_le_mul (by omega) ok
      have b3 := tl_len ps i
      have e13 := ((e1.trans e2).trans p1).trans e3
      refine w_set (i := 1) sc__law_turns.nd (ev_addl (es := (tl ps i).map eNN) (ev_v (i := 1) (ρ := rL (((List.range i).flatMap (tl ps)).map eNN)) rfl fun _ => ⟨l, ys, rfl, e3 _ _ p3, p4.ex e3⟩) (ev_l (ev_f (ev_lc (own := [("_law_high", 3)]) (lc_if (List.range (ps.length - (i + 1))) (fun (k : Nat) => .int ((i : Int) + 1 + (k : Int))) (fun k => decide (ps.getD (i + 1 + k) 0 < ps.getD i 0)) (fun k => eNN (i, i + 1 + k))
        (wk_r2 E.rng (ev_add (ev_v (i := 2) rfl fun _ => hx) ev_int) (ev_len E.len (ev_ql (ev_v (i := 0) rfl (pv e13)))) (by rw [List.length_map]; omega) (by omega) (by omega) (by omega)) (by rw [rng_map, List.length_map]; congr 2; omega) (by rw [List.length_range]; omega)
        fun k hk => tn_n (j := 3) sc__law_turns.nd fun y H4 e4 hy => ?_) rfl sc__law_turns.nd) (by rw [tl, List.map_map] <;> rfl))) (by rw [List.length_map, List.length_map]; omega)) fun v H4 e4 ⟨l2, ys2, ev2, hf2, hl2, im2⟩ => ?_
      · have hk := List.mem_range.mp hk
        have hy : Im H4 y (.int ((i + 1 + k : Nat) : Int)) := by
          rw [show ((i + 1 + k : Nat) : Int) = (i : Int) + 1 + (k : Int) by omega]
          exact hy
        refine ⟨fun s H0 C cl fp => ets1 (et_cmp op_lt (ev_ixl (ev_v (i := 0) rfl (pv (e13.trans e4))) (ev_v (i := 3) (ρ := rI ((i + 1 + k : Nat) : Int)) rfl fun _ => hy) (atI_int (by omega))) (ev_ixl (ev_v (i := 0) rfl (pv (e13.trans e4))) (ev_v (i := 2) (ρ := rI (i : Int)) rfl fun _ => hx.ex e4) (atI_int hi)) r_lt (nomark _)), fun _ s H0 C cl fp =>
          ev_t2 (ev_v (i := 2) (ρ := rI (i : Int)) rfl fun _ => hx.ex e4) (ev_v (i := 3) (ρ := rI ((i + 1 + k : Nat) : Int)) rfl fun _ => hy)⟩
      · subst ev2
        refine w_end ⟨(p1.trans e3).trans e4, l2, some x, c, ys2, rfl, hl2, ?_, Evl.fresh_back e13 hf2⟩
        rw [flat_succ, List.map_append]
        exact im2
    · obtain ⟨p1, l, a, c, ys, rfl, p3, p4, p5⟩ := p
      rw [rng_map, List.length_map, List.length_range, List.length_map, Int.toNat_natCast] at p4
      exact w_ret (ev_v (i := 1) (ρ := rV (.ref l)) rfl fun _ => rfl) fun v H3 e3 hv => by
        have hv : v = .ref l := hv
        subst hv
        exact q _ _ (((e1.trans e2).trans p1).trans e3) ⟨l, ys, rfl, p5, e3 _ _ p3, p4.ex e3⟩) (fun _ _ _ _ _ _ us hl => match us, hl with | [_], _ => rfl)
/-! ### mixed numbers -/
def mixF (x n : Int) : Int := ((x * (1 + 2 * n) * 48271 % 2147483647 + 7919 * n * n + 104729 * n) * 69621) % 2147483629 / 7
theorem mixF_lt (x n : Int) : 0 ≤ mixF x n ∧ mixF x n < 2147483629 := by
  unfold mixF
  have h1 := Int.emod_nonneg ((x * (1 + 2 * n) * 48271 % 2147483647 + 7919 * n * n + 104729 * n) * 69621) (show (2147483629 : Int) ≠ 0 by decide)
  have h2 := Int.emod_lt_of_pos ((x * (1 + 2 * n) * 48271 % 2147483647 + 7919 * n * n + 104729 * n) * 69621) (show (0 : Int) < 2147483629 by decide)
  omega
theorem cmulR {i j : Int} (h : -(2 ^ 64) < j ∧ j < 2 ^ 64) : CMul i j := .inr h
theorem cmulL {i j : Int} (h : -(2 ^ 64) < i ∧ i < 2 ^ 64) : CMul i j := .inl h
abbrev p_law_mixed : Sp := Pr (fun z : Int × Int => [rI z.1, rI z.2]) (fun z => rI (mixF z.1 z.2)) (fun z => (0 ≤ z.1 ∧ z.1 < 10 ^ 15) ∧ 0 ≤ z.2 ∧ z.2 < 10 ^ 15)
theorem mk_law_mixed (E : En w K mg base) : Cal P w K mg base "_law_mixed" 1 [] p_law_mixed :=
  cal_pr E D__law_mixed 36 33 sc__law_mixed (fun _ => rfl) (fun z cdv Ar outer s H vs Q EE S0 hr ok _ hv q => by
    obtain ⟨v1, v2, rfl, h1, h2⟩ := two_arg hv
    obtain ⟨x, n⟩ := z
    obtain ⟨⟨a1, a2⟩, b1, b2⟩ := ok
    have a1 : 0 ≤ x := a1
    have a2 : x < 10 ^ 15 := a2
    have b1 : 0 ≤ n := b1
    have b2 : n < 10 ^ 15 := b2
    have x0 : ∀ {H2 : Hp}, Ex H H2 → ∀ S, (rI x).r S v1 H2 := fun e _ => Im.ex h1 e
    have x1 : ∀ {H2 : Hp}, Ex H H2 → ∀ S, (rI n).r S v2 H2 := fun e _ => Im.ex h2 e
    have m31 := Int.emod_lt_of_pos (x * (1 + 2 * n) * 48271) (show (0 : Int) < 2147483647 by decide)
    have m30 := Int.emod_nonneg (x * (1 + 2 * n) * 48271) (show (2147483647 : Int) ≠ 0 by decide)
    refine w_set (i := 2) sc__law_mixed.nd (ev_add (ev_add (ev_mod (ev_toint E.int (ev_mul (ev_mul (ev_v (i := 0) rfl (x0 (Ex.refl _))) (ev_add ev_int (ev_mul ev_int (ev_v (i := 1) rfl (x1 (Ex.refl _))) (cmulL (by decide)))) (cmulL (by omega))) ev_int (cmulR (by decide)))) ev_int (by decide))
      (ev_mul (ev_mul ev_int (ev_v (i := 1) rfl (x1 (Ex.refl _))) (cmulL (by decide))) (ev_v (i := 1) rfl (x1 (Ex.refl _))) (cmulR (by omega)))) (ev_mul ev_int (ev_v (i := 1) rfl (x1 (Ex.refl _))) (cmulL (by decide)))) fun v H1 e1 hv => ?_
    exact w_ret (ev_fdiv (ev_mod (ev_toint E.int (ev_mul (ev_v (i := 2) rfl fun _ => hv) ev_int (cmulR (by decide)))) ev_int (by decide)) ev_int ⟨by decide, by decide⟩) (q.mono e1)) (fun _ _ _ _ _ _ us hl => match us, hl with | [_, _], _ => rfl)
end
end Lk

set_option maxHeartbeats 1000000
/-! The script; the cells. -/
namespace Lk
open PySem PySem.Spec PyProof.Rows L2
open Evl (Ex)
/-- a list of ints that is read (the script) -/
def rSq (K : Frag) (ns : List Int) : Rp := ⟨fun _ v H => ∃ a, v = .ref a ∧ SqL K H a (ns.map V.int), fun e ⟨a, h1, h2⟩ => ⟨a, h1, Evl.ex_l e h2⟩, fun _ h => h⟩
def OkCs (cs : List Int) : Prop := cs.length = 64 ∧ ∀ c ∈ cs, 0 ≤ c ∧ c < 2147483647
def rCs : Rp := ⟨fun S v H => ∃ p cs, v = .ref p ∧ S p = none ∧ OkCs cs ∧ H p = some (.lst (cs.map V.int)), fun e ⟨p, cs, h1, h2, h3, h4⟩ => ⟨p, cs, h1, h2, h3, e _ _ h4⟩, fun e ⟨p, cs, h1, h2, h3, h4⟩ => ⟨p, cs, h1, Evl.fresh_back e h2, h3, h4⟩⟩
section
variable {X : Cx} {σ : L2.St} {H H' : Hp} {a e : Expr} {p pos tpos : Pos} {elts : List Expr} {kk : Nat}
theorem ev_lenq {ns : List Int} (hm : X.mg "len" = none) (ha : Ev X a σ H (rSq X.K ns)) (hg : Gl X "len" := by rfl) (he : starEach [a] X.env = (false, eval a X.env) :: starEach [] X.env := by rfl) (hpl : (backTo pos (starEach [] X.env)).any (·.1) = false := by rfl) :
    Ev X (.Call (.Name "len" p) [a] [] pos) σ H (rI (ns.length : Int)) := ev_cb call_len_seq hm boot_len (eac ha ea0 he) (fun S vs H2 Q _ _ hv q => by
  obtain ⟨v, rfl, p, rfl, h1⟩ := one_arg hv
  exact ⟨p, _, rfl, .inl h1, by rw [List.length_map]; exact q.at (.int _)⟩) hg (by decide) (by decide) he hpl
theorem wk_q {tg : Expr} {ns : List Int} {q : Addr} (ha : Ev X e σ H (rV (.ref q))) (h2 : SqL X.K H q (ns.map V.int)) : Wk X tg e σ H (ns.map .int) := fun H1 e1 R k =>
  ⟨_, pi_list we_ok, ha H1 e1 _ fun v H2 e2 h1 => by
    have h1 : v = .ref q := h1
    subst h1
    have h3 := Evl.ex_l (e1.trans e2) h2
    refine ⟨q, rfl, ⟨_, h3⟩, k _ H2 (fun H3 => SqL X.K H3 q (ns.map V.int)) e2 h3 (fun H3 H4 g e => Evl.ex_l e g) (fun l u hl hu hB => Evl.ex_l (ex_off (e1.trans e2) hB) h2) ?_⟩
    have w := walk_list (K := X.K) (a := q) (xs := ns.map V.int)
    rw [List.length_map] at w ⊢
    exact w.mono (fun H g => g) fun i H x H' hi g y => by
      obtain ⟨y1, y2⟩ := y
      subst y1
      exact ⟨Ex.refl _, (Ims.ofInts ns).getv y2⟩⟩
theorem wk_eq {ns : List Int} {q : Addr} (hm : X.mg "enumerate" = none) (ha : Ev X a σ H (rV (.ref q))) (h2 : SqL X.K H q (ns.map V.int)) (hg : Gl X "enumerate" := by rfl) (hs : starEach [a] X.env = [(false, eval a X.env)] := by rfl) (hs' : starEach [a] X.env = (false, eval a X.env) :: starEach [] X.env := by rfl) :
    Wk X (.Tuple elts kk tpos) (.Call (.Name "enumerate" p) [a] [] pos) σ H (enu (ns.map .int)) := fun H1 e1 R k =>
  ⟨_, pi_enum hg hm wa_ok hs, eac ha ea0 hs' H1 e1 _ fun vs H2 e2 hv => by
    obtain ⟨v, rfl, h1⟩ := one_arg hv
    have h1 : v = .ref q := h1
    subst h1
    have h3 := Evl.ex_l (e1.trans e2) h2
    refine ⟨q, _, rfl, h3, k _ H2 (fun H3 => SqL X.K H3 q (ns.map V.int)) e2 h3 (fun H3 H4 g e => Evl.ex_l e g) (fun l u hl hu hB => Evl.ex_l (ex_off (e1.trans e2) hB) h2) ?_⟩
    have w := walk_enum (K := X.K) (a := q) (xs := ns.map V.int)
    have el : (ns.map V.int).length = (enu (ns.map PyData.int)).length := by rw [enu_len, List.length_map, List.length_map]
    rw [el] at w
    exact w.mono (fun H g => g) fun i H x H' hi g y => by
      obtain ⟨t, y1, y2, rfl, y3, rfl, y4, y5⟩ := y
      cases y4
      obtain ⟨d, d1, d2⟩ := (Ims.ofInts (H := H) ns).getv y5
      exact ⟨Ex.new y3, _, enu_at d1, .tup upd_same (.cons (.int _) (.one (d2.ex (Ex.new y3))))⟩⟩
end
theorem OkCs.set {cs : List Int} (h : OkCs cs) (j : Nat) {x : Int} (hx : 0 ≤ x ∧ x < 2147483647) : OkCs (cs.set j x) := by
  refine ⟨by rw [List.length_set]; exact h.1, fun c hc => ?_⟩
  rcases List.mem_or_eq_of_mem_set hc with z | z
  · exact h.2 c z
  · rw [z]
    exact hx
theorem mod31 (x : Int) : 0 ≤ x % 2147483647 ∧ x % 2147483647 < 2147483647 := ⟨Int.emod_nonneg _ (by decide), Int.emod_lt_of_pos _ (by decide)⟩
theorem ims_ints {H : Hp} (cs : List Int) : Ims H (cs.map V.int) (cs.map .int) := Ims.ofInts cs
section
variable {P : Program} {w : World} {K : Frag} {mg : Str → Option Value} {base : Heap}
abbrev p_law_folded : Sp := Pr (fun ns : List Int => [rSq K ns]) (fun _ => rCs) (fun _ => True)
theorem mk_law_folded (E : En w K mg base) : Cal P w K mg base "_law_folded" 1 [] (p_law_folded (K := K)) :=
  cal_pr E D__law_folded 37 34 sc__law_folded (fun _ => rfl) (fun ns cdv Ar outer s H vs Q EE S0 hr _ _ hv q => by
    obtain ⟨v, rfl, a, rfl, hs⟩ := one_arg hv
    refine w_lc (i := 1) (own := [("_law_n", 2)]) (lc_all (List.range 64) (fun (k : Nat) => .int (0 + (k : Int))) (fun (k : Nat) => .int (17 + (0 + (k : Int)))) (wk_r1 E.rng ev_int (by decide) (by decide)) rfl (by decide) fun k hk => tn_0 (j := 2) sc__law_folded.nd fun x H2 e2 hx s H0 C cl fp => ev_add ev_int (ev_v (i := 2) rfl fun _ => hx)) rfl sc__law_folded.nd fun v H1 e1 ⟨l, xs0, ev, hl, hl1, im0⟩ => ?_
    subst ev
    have im0 : Ims H1 xs0 (((List.range 64).map fun (k : Nat) => (17 + (0 + (k : Int)))).map .int) := by rw [List.map_map]; exact im0
    have ok0 : OkCs ((List.range 64).map fun (k : Nat) => (17 + (0 + (k : Int)))) := ⟨by simp, fun c hc => by
      obtain ⟨k, hk, rfl⟩ := List.mem_map.mp hc
      have := List.mem_range.mp hk
      omega⟩
    rw [im0.ints] at hl1
    clear im0
    have lp : ∀ {H2 : Hp} {cs : List Int}, H2 l = some (.lst (cs.map V.int)) → ∀ S, (rL (cs.map .int)).r S (.ref l) H2 := fun h _ => ⟨l, _, rfl, h, ims_ints _⟩
    refine w_for (B := H) rfl (wk_eq E.enum (ev_v (i := 0) rfl fun _ => rfl) hs) e1 fun H2 G e2 g1 g2 g3 => ⟨fun i σ' H' => Ex H H' ∧ Ex (off l H2) H' ∧ ∃ x y cs, σ' = [some (.ref a), some (.ref l), x, y] ∧ OkCs cs ∧ H' l = some (.lst (cs.map V.int)),
      ⟨e1.trans e2, off_ex, _, _, _, rfl, ok0, e2 _ _ hl1⟩, fun i σ' H' _ p => g2 _ _ (g3 l _ hl1 (fun ys z => by cases z) hl) p.2.1, fun i d σ' H' x H3 hd p e3 hx => ?_, fun σ' H' p => ?_⟩
    · obtain ⟨p1, p2, x1, y1, cs, rfl, ok, p3⟩ := p
      obtain ⟨d', hd', rfl⟩ := enu_inv hd
      rw [List.getElem?_map] at hd'
      cases hz : ns[i]? with
      | none => rw [hz] at hd'; cases hd'
      | some z =>
        rw [hz] at hd'
        cases hd'
        obtain ⟨t, v1, v2, rfl, ht, m1, m2⟩ := im2 hx
        refine wg_t2 (i := 2) (j := 3) rfl sc__law_folded.nd ht ?_
        have em : (i : Int) % 64 = ((i % 64 : Nat) : Int) := by omega
        have hj : i % 64 < cs.length := by rw [ok.1]; omega
        have ei : ∀ {Y : L2.St} {H4 : Hp}, True := fun {_ _} => trivial
        refine w_lput (a := l) (xs := cs.map V.int) (j := i % 64) (n := (i : Int) % 64) (ev_mod (ev_toint E.int (ev_add (ev_mul (ev_ixl (ev_v (i := 1) rfl (lp (e3 _ _ p3))) (ev_mod (ev_toint E.int (ev_v (i := 2) (ρ := rI (i : Int)) rfl fun _ => m1)) ev_int (by decide)) (by rw [em]; exact atI_int hj)) ev_int (cmulR (by decide))) (ev_v (i := 3) (ρ := rI z) rfl fun _ => m2))) ev_int (by decide)) (ev_v (i := 1) rfl fun _ => rfl)
          (ev_mod (ev_toint E.int (ev_v (i := 2) (ρ := rI (i : Int)) rfl fun _ => m1)) ev_int (by decide)) (e3 _ _ p3) (by rw [em, List.length_map]; exact Evl.ixN_nat hj) fun v4 H4 e4 hv4 => ?_
        have hv4 := Im.eint hv4
        subst hv4
        refine w_end ⟨Ex.mut ((p1.trans e3).trans e4) hl, ex_updl ((p2.trans e3).trans e4), _, _, cs.set (i % 64) _, rfl, ok.set _ (mod31 _), by rw [upd_same, List.map_set]⟩
    · obtain ⟨p1, p2, x1, y1, cs, rfl, ok, p3⟩ := p
      refine w_for (B := H) rfl (wk_r2 (lo := 1) (n := 64) E.rng ev_int ev_int (by decide) (by decide) (by decide) (by decide)) p1 fun H4 G4 e4 k1 k2 k3 => ⟨fun i σ' H' => Ex H H' ∧ Ex (off l H4) H' ∧ ∃ x y cs, σ' = [some (.ref a), some (.ref l), x, y] ∧ OkCs cs ∧ H' l = some (.lst (cs.map V.int)),
        ⟨p1.trans e4, off_ex, _, _, cs, rfl, ok, e4 _ _ p3⟩, fun i σ' H' _ p => k2 _ _ (k3 l _ p3 (fun ys z => by cases z) hl) p.2.1, fun i d σ' H' x H5 hd p e5 hx => ?_, fun σ' H' p => ?_⟩
      · obtain ⟨r1, r2, x2, y2, cs2, rfl, ok2, r3⟩ := p
        have hi : i < 63 := by
          have := (List.getElem?_eq_some_iff.mp hd).1
          simpa [rng] using this
        rw [rng_map, List.getElem?_map, List.getElem?_range (by simpa using hi)] at hd
        cases hd
        refine wg_n (i := 2) sc__law_folded.nd ?_
        have hx : Im H5 x (.int ((i + 1 : Nat) : Int)) := by
          rw [show ((i + 1 : Nat) : Int) = 1 + (i : Int) by omega]
          exact hx
        have hj : i + 1 < cs2.length := by rw [ok2.1]; omega
        have hj' : i < cs2.length := by omega
        refine w_lput (a := l) (xs := cs2.map V.int) (j := i + 1) (n := ((i + 1 : Nat) : Int)) (ev_mod (ev_toint E.int (ev_add (ev_ixl (ev_v (i := 1) rfl (lp (e5 _ _ r3))) (ev_v (i := 2) (ρ := rI ((i + 1 : Nat) : Int)) rfl fun _ => hx) (atI_int hj)) (ev_mul (ev_ixl (ev_v (i := 1) rfl (lp (e5 _ _ r3))) (ev_sub (ev_v (i := 2) (ρ := rI ((i + 1 : Nat) : Int)) rfl fun _ => hx) ev_int) (by rw [show ((i + 1 : Nat) : Int) - 1 = (i : Int) by omega]; exact atI_int hj')) ev_int (cmulR (by decide))))) ev_int (by decide))
          (ev_v (i := 1) rfl fun _ => rfl) (ev_v (i := 2) (ρ := rI ((i + 1 : Nat) : Int)) rfl fun _ => hx) (e5 _ _ r3) (by rw [List.length_map]; exact Evl.ixN_nat hj) fun v6 H6 e6 hv6 => ?_
        have hv6 := Im.eint hv6
        subst hv6
        exact w_end ⟨Ex.mut ((r1.trans e5).trans e6) hl, ex_updl ((r2.trans e5).trans e6), _, _, cs2.set (i + 1) _, rfl, ok2.set _ (mod31 _), by rw [upd_same, List.map_set]⟩
      · obtain ⟨r1, r2, x2, y2, cs2, rfl, ok2, r3⟩ := p
        exact w_ret (ev_v (i := 1) (ρ := rV (.ref l)) rfl fun _ => rfl) fun v H7 e7 hv => by
          have hv : v = .ref l := hv
          subst hv
          exact q _ _ (r1.trans e7) ⟨l, cs2, rfl, hl, ok2, e7 _ _ r3⟩) (fun _ _ _ _ _ _ us hl => match us, hl with | [_], _ => rfl)
end
end Lk

set_option maxHeartbeats 4000000
/-! Sets of ints and texts: made of a list, sorted. -/
namespace Lk
open PySem PySem.Spec PyProof.Rows L2
open Evl (Ex)
/-- the key that a member is -/
def kyV : Value → Key
  | .int k _ => .inl k
  | .str x _ => .inr x
  | _ => .inl 0
def GdK (w : World) (e : Int × Value) : Prop := keyIs (kyV e.2) e.2 = true ∧ e.1 = keyH w (kyV e.2) ∧ e.2.scannable = true
def Sg (w : World) (h : Heap) (a : Addr) (ks : List Key) : Prop :=
  ∃ ob rows age tab, h.get? a = some ob ∧ ob.ExactSet ∧ ob.data = .set rows age tab ∧ (∀ e ∈ rows.toList, GdK w e) ∧ (rows.toList.map fun e => kyV e.2).Perm ks ∧ ks.Nodup ∧ rows.size < scanBound ∧ tab.fits rows.size = true ∧ Ris tab.place.toList ∧ (w.params.followText "set-order" = true ∨ tab.led = true)
def hasS (ks : List Key) (k : Key) : Bool := ks.any fun q => decide (q = k)
theorem hasS_iff {ks : List Key} {k : Key} : hasS ks k = true ↔ k ∈ ks := by
  unfold hasS
  rw [List.any_eq_true]
  exact ⟨fun ⟨q, h, e⟩ => of_decide_eq_true e ▸ h, fun h => ⟨k, h, decide_eq_true rfl⟩⟩
def putS (ks : List Key) (k : Key) : List Key := if hasS ks k = true then ks else k :: ks
theorem kyV_is {k : Key} {v : Value} (h : keyIs k v = true) : kyV v = k := by
  rcases keyIs_shape h with ⟨i, t, rfl, rfl⟩ | ⟨x, t, rfl, rfl⟩ <;> rfl
theorem kyV_scan {k : Key} {v : Value} (h : keyIs k v = true) : v.scannable = true := by
  rcases keyIs_shape h with ⟨i, t, rfl, rfl⟩ | ⟨x, t, rfl, rfl⟩ <;> rfl
theorem Sg.keep {w : World} {h h' : Heap} {a : Addr} {ks : List Key} (g : Sg w h a ks) (k : ∀ o, h.get? a = some o → h'.get? a = some o) : Sg w h' a ks := by
  obtain ⟨ob, rows, age, tab, h1, r⟩ := g
  exact ⟨ob, rows, age, tab, k ob h1, r⟩
section
variable {P : Program} {w : World} {A : Around} {E : Value → Shared → Prop} {s : Shared} {a : Addr} {ks : List Key}
theorem gdK_elems {l : List (Int × Value)} (g : ∀ e ∈ l, GdK w e) : ElemsOf (mixKind P w) l := fun e he => ⟨⟨kyV e.2, (g e he).1, (g e he).2.1⟩, (g e he).2.2⟩
theorem sg_tail {give : Bool → Sem Unit} (hgive : ∀ (b : Bool) (z : Shared) (W : Unit → Shared → Prop), W () z → wpAny (model P w) A (give b) W E z) {ob : Obj} {rows : Array (Int × Value)} {age : Nat} {tab : SetTable}
    (hob : s.heap.get? a = some ob) (hxs : ob.ExactSet) (hdat : ob.data = .set rows age tab) {rows1 : Array (Int × Value)} {tab2 : SetTable} {ks1 : List Key} (good1 : ∀ e ∈ rows1.toList, GdK w e) (pm1 : (rows1.toList.map fun e => kyV e.2).Perm ks1) (nd1 : ks1.Nodup)
    (few1 : rows1.size < scanBound) (fit2 : tab2.fits rows1.size = true) (ris2 : Ris tab2.place.toList) (led2 : w.params.followText "set-order" = true ∨ tab2.led = true) {dummy : Bool} {R : Option Bool → Shared → Prop}
    (hR : ∀ h', Heap.SameBut a s.heap h' → Sg w h' a ks1 → R (some true) { s with heap := h' }) :
    wpAny (model P w) A (do
        storeSet a rows1 tab2
        if (!dummy && tab2.tooFull) = true then do
            give (relayAll tab2 rows1 (SetTable.grown rows1.size)).2.2
            storeSet a (relayAll tab2 rows1 (SetTable.grown rows1.size)).1 (relayAll tab2 rows1 (SetTable.grown rows1.size)).2.1
            pure (some true)
          else pure (some true)) R E s := by
  refine wpAny_bind (wpAny_storeSet_of hob hdat ?_ (fits_of_scanBound few1))
  have hob1 := store_at (es' := rows1) (t' := tab2) hob hdat
  have same1 := Heap.SameBut.update s.heap a (Obj.putSet rows1 tab2)
  split
  · have pmR := relayAll_perm tab2 rows1 (SetTable.grown rows1.size)
    have fitR := relayAll_fits tab2 rows1 (SetTable.grown rows1.size)
    have risR := relayAll_ris tab2 rows1 (SetTable.grown rows1.size)
    have ledR := relayAll_led tab2 rows1 (SetTable.grown rows1.size)
    generalize relayAll tab2 rows1 (SetTable.grown rows1.size) = Z at pmR fitR risR ledR ⊢
    obtain ⟨rows2, tab3, gv⟩ := Z
    dsimp only at pmR fitR risR ledR ⊢
    have size2 : rows2.size = rows1.size := by rw [← Array.length_toList, pmR.length_eq, Array.length_toList]
    have few2 : rows2.size < scanBound := by rw [size2]; exact few1
    refine wpAny_bind (hgive _ _ _ ?_)
    refine wpAny_bind (wpAny_storeSet_of hob1 rfl ?_ (fits_of_scanBound few2))
    have hob2 := store_at (es' := rows2) (t' := tab3) hob1 rfl
    refine wpAny_pure (hR _ (same1.trans (Heap.SameBut.update _ a _)) ?_)
    exact ⟨_, rows2, _, tab3, hob2, hxs, rfl, fun e he => good1 e (pmR.mem_iff.mp he), (pmR.map fun e => kyV e.2).trans pm1, nd1, few2, fitR, risR, led2.imp id fun z => by rw [ledR]; exact z⟩
  · exact wpAny_pure (hR _ same1 ⟨_, rows1, _, tab2, hob1, hxs, rfl, good1, pm1, nd1, few1, fit2, ris2, led2⟩)
theorem sg_add {k : Key} {v : Value} (hkv : keyIs k v = true) {Q : Bool → Shared → Prop} (g : Sg w s.heap a ks) (room : ks.length + 1 < scanBound) (hQ : ∀ b h', Heap.SameBut a s.heap h' → Sg w h' a (putS ks k) → Q b { s with heap := h' }) :
    wpAny (model P w) A (setAddHashed a v ((mixKind P w).hash k)) Q E s := by
  obtain ⟨ob, rows, age, tab, hob, hxs, hdat, good, pmk, ndk, few, fit, ris, led⟩ := g
  have key0 : (mixKind P w).is k v = true := hkv
  have scan0 : v.scannable = true := kyV_scan hkv
  have elems0 : ElemsOf (mixKind P w) rows.toList := gdK_elems good
  have size0 : rows.size = ks.length := by rw [← Array.length_toList, ← pmk.length_eq, List.length_map]
  unfold setAddHashed setAddHashedIn
  refine wpAny_holding (wpAny_bind (wpAny_setState_of hob hdat fit ?_))
  dsimp only
  rw [byScan_of scan0 few elems0]
  simp only [↓reduceIte]
  unfold setAddByScan
  refine wpAny_bind ?_
  refine wpAny_bind (wpAny_rule ?_)
  refine wpAny_bind (wpAny_setScan_of key0 hob hdat fit elems0 ?_)
  cases found : List.findIdx? (fun e => (mixKind P w).is k e.2) rows.toList with
  | some j =>
    dsimp only
    obtain ⟨jlt, jis, _⟩ := List.findIdx?_eq_some_iff_getElem.mp found
    have kin : k ∈ ks := pmk.mem_iff.mp (List.mem_map.mpr ⟨rows.toList[j], List.getElem_mem jlt, kyV_is jis⟩)
    refine wpAny_pure (wpAny_pure (hQ _ s.heap (Heap.SameBut.refl a s.heap) ?_))
    unfold putS
    rw [if_pos (hasS_iff.mpr kin)]
    exact ⟨ob, rows, age, tab, hob, hxs, hdat, good, pmk, ndk, few, fit, ris, led⟩
  | none =>
    dsimp only
    have kout : k ∉ ks := fun z => by
      obtain ⟨e, he, ek⟩ := List.mem_map.mp (pmk.mem_iff.mpr z)
      have c := List.findIdx?_eq_none_iff.mp found e he
      have c2 := (good e he).1
      rw [ek] at c2
      have c3 : (mixKind P w).is k e.2 = true := c2
      rw [c3] at c
      cases c
    have hgw : ∀ (b : Bool) {z : Shared} {W : Unit → Shared → Prop}, W () z → wpAny (model P w) A (match b with | true => rule "set.scan.the-table-gave-way" | false => pure ()) W E z :=
      fun b z W q => by cases b <;> first | exact wpAny_pure q | exact wpAny_rule q
    have pmN := layNew_perm tab rows ((mixKind P w).hash k) v
    have fitN := layNew_fits tab rows ((mixKind P w).hash k) v
    have risN := layNew_ris tab rows ((mixKind P w).hash k) v ris
    have ledN := layNew_led tab rows ((mixKind P w).hash k) v
    generalize layNew tab rows ((mixKind P w).hash k) v = Z at pmN fitN risN ledN ⊢
    obtain ⟨rows1, tab1, dummy, gave⟩ := Z
    dsimp only at pmN fitN risN ledN ⊢
    rw [Array.toList_push] at pmN
    have pmC : rows1.toList.Perm (((mixKind P w).hash k, v) :: rows.toList) := pmN.trans (List.perm_append_singleton _ _)
    have pmK : (rows1.toList.map fun e => kyV e.2).Perm (k :: ks) := by
      have z := pmC.map fun e => kyV e.2
      rw [List.map_cons, show kyV ((mixKind P w).hash k, v).2 = k from kyV_is hkv] at z
      exact z.trans (List.Perm.cons k pmk)
    have goodN : ∀ e ∈ rows1.toList, GdK w e := fun e he => by
      rcases List.mem_cons.mp (pmC.mem_iff.mp he) with z | z
      · rw [z]
        exact ⟨by rw [kyV_is hkv]; exact hkv, by rw [kyV_is hkv] <;> rfl, scan0⟩
      · exact good e z
    have ndN : (k :: ks).Nodup := List.nodup_cons.mpr ⟨kout, ndk⟩
    have fewN : rows1.size < scanBound := by rw [← Array.length_toList, pmC.length_eq, List.length_cons, Array.length_toList, size0]; exact room
    have led1 : w.params.followText "set-order" = true ∨ tab1.led = true := led.imp id fun z => by rw [ledN]; exact z
    have fin : ∀ h', Heap.SameBut a s.heap h' → Sg w h' a (k :: ks) → Q true { s with heap := h' } := fun h' sb r => by
      refine hQ _ h' sb ?_
      unfold putS
      rw [if_neg fun z => kout (hasS_iff.mp z)]
      exact r
    refine wpAny_bind (hgw _ ?_)
    split
    · refine wpAny_bind ?_
      rw [hashByValue_scannable 8 scan0]
      refine wpAny_pure ?_
      refine sg_tail ?_ hob hxs hdat goodN pmK ndN fewN ?_ ?_ ?_ ?_
      · intro b z W q; cases b <;> first | exact wpAny_pure q | exact wpAny_rule q
      · first | (split <;> first | exact fitN | exact SetTable.fits_plain_off fitN) | exact fitN
      · first | (split <;> exact risN) | exact risN
      · first | (split <;> exact led1) | exact led1
      · intro h' sb r; dsimp only; exact wpAny_pure (fin h' sb r)
    · refine wpAny_bind (wpAny_pure ?_)
      simp only [↓reduceIte]
      refine sg_tail ?_ hob hxs hdat goodN pmK ndN fewN fitN risN led1 ?_
      · intro b z W q; cases b <;> first | exact wpAny_pure q | exact wpAny_rule q
      · intro h' sb r; dsimp only; exact wpAny_pure (fin h' sb r)
/-- what set.update makes of a walk over keys -/
def allS (ks : List Key) : List Key := ks.foldl putS []
theorem putS_len (ks : List Key) (k : Key) : (putS ks k).length ≤ ks.length + 1 := by
  unfold putS
  split <;> simp
theorem allS_len (ks : List Key) : ∀ n, (allS (ks.take n)).length ≤ n
  | 0 => by simp [allS]
  | n + 1 => by
    cases e : ks[n]? with
    | none =>
      rw [List.take_succ, e]
      have := allS_len ks n
      simp only [Option.toList_none, List.append_nil]
      omega
    | some k =>
      have ih := allS_len ks n
      rw [take_snoc e, allS, List.foldl_append]
      have z := putS_len (allS (ks.take n)) k
      show (putS (allS (ks.take n)) k).length ≤ n + 1
      omega
theorem sg_walk {I : Addr} {fp wr : List Addr} {G : Array GenState → Array GenState → Prop} {n : Nat} {Pv : Nat → Value → Prop} {St : Nat → Shared → Prop} {R : Result → Shared → Prop} (W : WalksS P w A.in1 I fp wr G n Pv St) (D : Addr) (hDf : D ∉ fp) (kl : List Key) (hn : n = kl.length) (hz : kl.length + 1 < scanBound)
    (hv : ∀ i v, Pv i v → ∃ k, kl[i]? = some k ∧ keyIs k v = true) : ∀ (m i : Nat) (s : Shared), n - i = m → i ≤ n → St i s → Sg w s.heap D (allS (kl.take i)) → (∀ z, Moved (D :: wr) G s z → Sg w z.heap D (allS kl) → R (.ok (.ret .none)) z) →
      codeAny (model P w) A (.builtin "set.update.loop" ⟨[.ref D, .ref I], []⟩) R s := by
  have Dw : D ∉ wr := fun h => hDf (W.sub _ h)
  have more : ∀ b ∈ wr, b ∈ D :: wr := fun b hb => List.mem_cons_of_mem _ hb
  intro m
  induction m with
  | zero =>
    intro i s em hi st g hR
    have ein : i = n := by omega
    subst ein
    refine codeAny_builtin F.entry_set_update_loop ?_
    rw [Around.under_plainId F.plain_set_update_loop _]
    show wpAny _ A.in1 (pyNext (.ref I) >>= _) _ _ s
    refine wpAny_bind (W.done s _ _ st fun z mv => ?_)
    show wpAny _ A.in1 (ret Value.none) _ _ z
    rw [List.take_of_length_le (by omega)] at g
    exact wpAny_pure (hR z (mv.mono more) (g.keep fun o e => mv.heap D o Dw e))
  | succ m ih =>
    intro i s em hi st g hR
    have ilt : i < n := by omega
    refine codeAny_builtin F.entry_set_update_loop ?_
    rw [Around.under_plainId F.plain_set_update_loop _]
    show wpAny _ A.in1 (pyNext (.ref I) >>= _) _ _ s
    refine wpAny_bind (W.item i s _ _ ilt st fun v z pv st' mv => ?_)
    obtain ⟨k, kat, kis⟩ := hv i v pv
    have g' : Sg w z.heap D (allS (kl.take i)) := g.keep fun o e => mv.heap D o Dw e
    show wpAny _ A.in1 (holding [v] (setAdd D v) >>= _) _ _ z
    refine wpAny_bind (wpAny_holding ?_)
    unfold setAdd
    refine wpAny_holding ?_
    refine wpAny_bind ((mixKind P w).pyHash (k := k) kis ?_)
    have lz := allS_len kl i
    refine sg_add (s := { z with toks := z.toks + 1 }) kis g' (by omega) fun bb h' sb g2 => ?_
    have g3 : Sg w h' D (allS (kl.take (i + 1))) := by
      rw [take_snoc kat, allS, List.foldl_append]
      exact g2
    refine wpAny_pure ⟨plainId_quiet F.plain_set_update_loop _, ih (i + 1) _ (by omega) ilt (W.frame _ z _ _ st' (Nat.le_succ _) fun b hb o e => ?_) g3 fun y mv2 g4 => ?_⟩
    · rw [sb.2 b (fun h : b = D => hDf (by rw [← h]; exact hb))]; exact e
    · refine hR y (Moved.trans W.gtrans ((mv.mono more).then_heap (Nat.le_succ _) fun b o hb e => ?_) mv2) g4
      rw [sb.2 b (fun h : b = D => hb (by rw [h]; exact List.mem_cons_self))]; exact e
theorem sg_new {h : Heap} (ho : h.get? a = some { cls := .type "set", dict := none, data := .set #[] 0 (.fresh 0 0 (!w.params.followText "set-order")) }) : Sg w h a [] :=
  ⟨_, #[], 0, _, ho, ⟨rfl, rfl, rfl⟩, rfl, (fun e he => by simp at he), (by simp), List.nodup_nil, (by decide), (by rfl), List.Pairwise.nil, by
    show _ ∨ (!w.params.followText "set-order") = true
    cases w.params.followText "set-order"
    · exact .inr rfl
    · exact .inl rfl⟩
/-- an empty set, as the call makes it -/
def mtSet (w : World) : Obj := { cls := .type "set", dict := none, data := .set #[] 0 (.fresh 0 0 (!w.params.followText "set-order")) }
set_option maxHeartbeats 8000000 in
theorem call_setK {l : Addr} {its : Array Value} (kl : List Key) (hh : A.handled = none) (hl : s.heap.IsList l its) (hz : kl.length + 1 < scanBound) (hn : its.size = kl.length) (hv : ∀ (i : Nat) (v : Value), its[i]? = some v → ∃ k, kl[i]? = some k ∧ keyIs k v = true)
    {Q : Value → Shared → Prop} (hQ : ∀ (h' : Heap) (tk : Nat), Sg w h' s.heap.objs.size (allS kl) → (∀ b o, s.heap.get? b = some o → h'.get? b = some o) → Q (.ref s.heap.objs.size) { s with heap := h', toks := tk }) :
    wpAny (model P w) A (call (.type "set") [.ref l]) Q E s := by
  obtain ⟨mroC, mroT, isMro⟩ := F.called_set.mro
  have isMade := F.called_set.made
  have isSub := F.called_set.sub
  refine wpAny_call (codeAny_of_tree ?_)
  show wpAny _ _ (callAny (.type "set") _) _ _ _
  refine wpAny_pure ⟨Code.quiet_builtin _ (by decide +kernel), codeAny_builtin F.entry_type_call ?_⟩
  rw [Around.under_plain (weight_type_call_type "set" [.ref l] []) rfl]
  have nt := F.called_set.notType
  have cc := F.called_set.canCreate
  have tc := F.typeCall_set_1 (.ref l)
  repeat (any_goals (first | assumption | wp_step))

  refine codeAny_mono (code_set_led1 (.ref l) (E := E) (Q₁ := fun obj z => obj = .ref s.heap.objs.size ∧ z = { s with heap := s.heap.push (mtSet w) }) ⟨rfl, rfl⟩) fun r s₁ hr => ?_
  cases r with
  | error e => exact hr
  | ok fl =>
    cases fl with
    | ret obj =>
      obtain ⟨rfl, rfl⟩ := hr
      have newAt : (s.heap.push (mtSet w)).get? s.heap.objs.size = some (mtSet w) := Heap.get?_push_size _ rfl
      have newTy : Shared.TypeIs { s with heap := s.heap.push (mtSet w) } (.ref s.heap.objs.size) "set" := ⟨_, newAt, rfl⟩
      have ilook := F.called_set.init.lookup
      have ibind := F.called_set.init.bind (.ref s.heap.objs.size)
      repeat (any_goals (first | assumption | wp_step))

      refine codeAny_mono (codeAny_call_builtin (R := wants (fun r z => r = .none ∧ ∃ h' tk, z = { s with heap := h', toks := tk } ∧ Sg w h' s.heap.objs.size (allS kl) ∧ (∀ b o, s.heap.get? b = some o → h'.get? b = some o)) E)
        F.called_set.init.plain F.entry_set_init (check_set_init_1 newTy ?_)) fun r₂ s₂ hr₂ => ?_
      · obtain ⟨ol, hol, hcl, nl, hdl⟩ := hl
        obtain ⟨ocls, odict, odata, oslots⟩ := ol
        simp only at hcl hdl
        subst hcl
        subst hdl
        have hol' : (s.heap.push (mtSet w)).get? l = some { cls := .type "list", dict := odict, data := .seq its nl, slots := oslots } := Heap.get?_push_of_some _ hol
        have sub1 := F.sub_list_set
        have sub2 := F.sub_list_frozenset
        have nd1 : (Value.type "list" == Value.type "dict") = false := by decide
        have l1 : (s.heap.push (mtSet w)).IsList l its := ⟨_, hol', rfl, nl, rfl⟩
        unfold Builtin.«set.__init__» noKeywords Builtin.Frozenset.updateFrom
        generalize hPI : pyIter = PI
        wp_walk
        subst hPI

        refine wpAny_pyIter_list l1 ?_
        refine wpAny_bind (wpAny_runValue ?_)
        have llt : l < s.heap.objs.size := Heap.lt_size hol
        have hh3 : A.in1.in1.in1.handled = none := by simp [hh]
        have sz1 : (s.heap.push (mtSet w)).objs.size = s.heap.objs.size + 1 := Heap.size_push ..
        have lne : l ≠ (s.heap.push (mtSet w)).objs.size := fun z => Nat.ne_of_lt (Nat.lt_succ_of_lt llt) (z.trans sz1)
        have Dnot : s.heap.objs.size ∉ [(s.heap.push (mtSet w)).objs.size, l] := by
          simp only [List.mem_cons, List.mem_singleton, List.not_mem_nil, or_false, not_or]
          exact ⟨fun z => Nat.ne_of_lt (Nat.lt_succ_self _) (z.trans sz1), fun z => Nat.ne_of_gt llt z⟩
        refine sg_walk ((Walks.list hh3 _ l lne its).toS) s.heap.objs.size Dnot kl hn hz hv (its.size - 0) 0 _ (by omega) (Nat.zero_le _) ⟨⟨_, Heap.get?_push_size _ rfl, rfl, rfl⟩, (l1.push _)⟩ (sg_new (Heap.get?_push_of_some _ newAt)) ?_
        intro z mv g
        obtain ⟨h', g2, d', tk', os'⟩ := z
        have eg : g2 = s.gens := mv.gens
        have ed : d' = s.drawn := mv.drawn
        have eo : os' = s.os := mv.os
        subst eg
        subst ed
        subst eo
        show wpAny _ _ _ _ _ _
        refine wpAny_pure ?_
        show wpAny _ _ (ret Value.none) _ _ _
        refine wpAny_pure ⟨rfl, h', tk', rfl, g, fun b o e => ?_⟩
        have blt : b < s.heap.objs.size := Heap.lt_size e
        exact mv.heap b o (by simp only [List.mem_cons, List.mem_singleton, List.not_mem_nil, or_false, not_or]; exact ⟨Nat.ne_of_lt blt, fun z => Nat.ne_of_lt (Nat.lt_succ_of_lt blt) (z.trans sz1)⟩) (Heap.get?_push_of_some _ (Heap.get?_push_of_some _ e))

      · cases r₂ with
        | error e => exact hr₂
        | ok fl₂ =>
          cases fl₂ with
          | ret r =>
            obtain ⟨rfl, h', tk, rfl, g, kp⟩ := hr₂
            repeat (any_goals (first | assumption | wp_step))
            exact hQ _ _ g kp
          | _ => exact hr₂.elim
    | _ => exact hr.elim
end
end Lk

set_option maxHeartbeats 2000000
/-! sorted(set(list)). -/
namespace Lk
open PySem PySem.Spec PyProof.Rows L2
open Evl (Ex)
section
variable {prog : Program} {w : World} {A : Around} {E : Value → Shared → Prop} {s : Shared}
open PySem.W in
theorem sorted_colS {v : Value} {Q : Value → Shared → Prop} {Wok : List Value → Shared → Prop} (hc : ∀ Q' : List Value → Shared → Prop, (∀ (s1 : Shared) (vs : List Value), Wok vs s1 → Q' vs s1) → wpAny (model prog w) A.in1 (collect v) Q' E s) (ha : argsOk "sorted" ⟨[v], []⟩)
    (k : ∀ (s1 : Shared) (vs : List Value), Wok vs s1 → vs.length ≤ sizeLine ∧ ∃ κ : PyProof.Rows.KeyKind, SortsAt prog w A.in1.in1 { s1 with heap := sortingHeap (s1.heap.push (seqObj "list" vs.toArray 0)) s1.heap.objs.size vs } κ vs ∧
      Q (.ref s1.heap.objs.size) { s1 with heap := sortedHeap (s1.heap.push (seqObj "list" vs.toArray 0)) s1.heap.objs.size vs (sortVals κ false vs vs).toArray }) : wpAny (model prog w) A (call (.builtin "sorted") [v]) Q E s := by
  refine call_function_entry_kw kind_sorted plain_sorted entry_sorted ha ?_
  unfold Builtin.«sorted»
  refine wpAny_bind (m := checkCount "sorted" 1 1 _) (wpAny_pure ?_)
  refine wpAny_bind (hc _ fun s1 vs hw => ?_)
  obtain ⟨hL, κ, S, hq⟩ := k s1 vs hw
  refine wpAny_bind (wpAny_newList ?_ hL)
  have hl : (s1.heap.push (seqObj "list" vs.toArray 0)).get? s1.heap.objs.size = some (seqObj "list" vs.toArray 0) := Heap.get?_push_size _ rfl
  refine wpAny_bind (wpAny_holding (wpAny_call_entry_kw slot_list_sort ⟨_, hl, rfl⟩ entry_list_sort ?body (args_list_sort _)))
  case body =>
    show wpAny (model prog w) A.in1.in1 (Builtin.«list.sort» ⟨[.ref s1.heap.objs.size], []⟩) _ _ _
    exact list_sort_vals (s := { s1 with heap := s1.heap.push (seqObj "list" vs.toArray 0) }) hl S hL ⟨_, rfl, wpAny_pure ⟨_, rfl, hq⟩⟩
end
/-- the set, tracked -/
def SgO (w : World) (a : Addr) (ks : List Key) : HO := .ext fun h => Sg w h a ks
theorem sgO_new {P : Program} {w : World} {H : Hp} {h : Heap} {a : Addr} {ks : List Key} (g : Sg w h a ks) : ObjOk P w H h a (SgO w a ks) := by
  have ⟨ob, _, _, _, h1, _⟩ := g
  exact ⟨g, ⟨ob, h1⟩, fun h1 h2 p k => Sg.keep p k⟩
def rSt (w : World) (ks : List Key) : Rp := ⟨fun _ v H => ∃ a, v = .ref a ∧ H a = some (SgO w a ks), fun e ⟨a, h1, h2⟩ => ⟨a, h1, e _ _ h2⟩, fun _ h => h⟩
/-- its members, in order -/
def rSS (ks : List Key) : Rp := ⟨fun S v H => ∃ ks', List.Perm ks' ks ∧ (rF ((ks'.mergeSort (PySem.W.dataLe false kD)).map kD)).r S v H, fun e ⟨k, h1, h2⟩ => ⟨k, h1, (rF _).m e h2⟩, fun e ⟨k, h1, h2⟩ => ⟨k, h1, (rF _).n e h2⟩⟩
theorem keyIs_of {k : Key} {u : Value} (h : RelV (kV k) u) : keyIs k u = true := by
  cases k with
  | inl i =>
    obtain ⟨t, rfl⟩ := h
    exact keyIs_int i t
  | inr x =>
    obtain ⟨t, rfl⟩ := h
    exact keyIs_str x t
theorem rel_of {k : Key} {u : Value} (h : keyIs k u = true) : RelV (kV k) u := by
  rcases keyIs_shape h with ⟨i, t, rfl, rfl⟩ | ⟨x, t, rfl, rfl⟩
  · exact ⟨t, rfl⟩
  · exact ⟨t, rfl⟩
section
variable {X : Cx} {σ : L2.St} {H : Hp} {a : Expr} {p pos : Pos}
theorem cr_setK (hc : X.calm = true) : CallR X (.type "set") (fun vs H Q => ∃ (l : Addr) (kl : List Key), vs = [.ref l] ∧ H l = some (.lst (kl.map kV)) ∧ kl.length + 1 < scanBound ∧ Go (rSt X.w (allS kl)) H Q) := by
  intro pins s σ H vs us Q J rel h
  obtain ⟨l, kl, rfl, hl, hz, g⟩ := h
  rw [Vals.ref1 rel]
  obtain ⟨its, rv, pl, _⟩ := J.list (SqL.of (K := X.K) hl)
  have nw : H s.heap.objs.size = none := J.hok.fresh (Nat.le_refl _)
  have sz : its.length = kl.length := by rw [← rv.length, List.length_map]
  refine call_setK kl (J.ok.hd hc) pl.isList hz (by rw [List.size_toArray]; exact sz) (fun i v hv => ?_) fun h' tk g2 kp => ?_
  · have hi : i < kl.length := by
      have z := (Array.getElem?_eq_some_iff.mp hv).1
      rw [List.size_toArray] at z
      omega
    obtain ⟨u, u1, u2⟩ := rv.get (i := i) (x := kV kl[i]) (by rw [List.getElem?_map, List.getElem?_eq_getElem hi] <;> rfl)
    have hv2 : its[i]? = some v := by simpa using hv
    rw [u1] at hv2
    cases hv2
    exact ⟨kl[i], List.getElem?_eq_getElem hi, keyIs_of u2⟩
  · exact ⟨.ref s.heap.objs.size, upd H s.heap.objs.size (SgO X.w s.heap.objs.size (allS kl)), J.laid (t' := tk) kp (Nat.le_refl _) (sgO_new g2), rfl, g _ _ (Ex.new nw) ⟨_, rfl, upd_same⟩⟩
open PySem.W in
theorem depth_kD (k : Key) : (kD k).depth = 0 := by cases k <;> rfl
open PySem.W in
theorem cr_sortSt (hc : X.calm = true) (hu : X.A.units + 64 < cLine) : CallR X (.builtin "sorted") (fun vs H Q => ∃ (l : Addr) (ks : List Key), vs = [.ref l] ∧ H l = some (SgO X.w l ks) ∧ ks.length < scanBound ∧ (∀ ks' : List Key, ks'.Perm ks → AllAlike (ks'.map kD) ∧ Sortable (ks'.map kD)) ∧ Go (rSS ks) H Q) := by
  intro pins s σ H vs us Q J rel h
  obtain ⟨l, ks, rfl, hl, hz, alk, g⟩ := h
  rw [Vals.ref1 rel]
  have st : Sg X.w s.heap l ks := (J.hok l _ hl).1
  obtain ⟨ob, rows, age, tab, h1, h2, h3, good, pm, nd, few, fit, ris, led⟩ := st
  have hh : X.A.handled = none := J.ok.hd hc
  refine sorted_colS (Wok := fun vs s1 => (∀ b o, s.heap.get? b = some o → s1.heap.get? b = some o) ∧ s1.gens = s.gens ∧ s1.os = s.os ∧ ∃ ks' : List Key, ks'.Perm ks ∧ EachIs (fun u (k : Key) => keyIs k u = true) vs ks') (fun Q' kk => ?_) (args_sorted1 _) fun s1 vs kw => ?_
  · refine collect_set (A := X.A.in1) hh ⟨ob, h1, h2.1, h3⟩ fit few ris led fun s1 out kp _ eg eo po => kk s1 out ⟨kp, eg, eo, out.map kyV, ?_, ?_⟩
    · have z := po.map kyV
      rw [List.map_map] at z
      exact z.trans pm
    · have all : ∀ v ∈ out, keyIs (kyV v) v = true := fun v hv => by
        obtain ⟨e, he, ev⟩ := List.mem_map.mp (po.mem_iff.mp hv)
        have z := (good e he).1
        rw [ev] at z
        exact z
      clear po kp eg eo
      induction out with
      | nil => exact .nil
      | cons v vs ih => exact .cons (all v List.mem_cons_self) (ih fun u hu => all u (List.mem_cons_of_mem _ hu))
  · obtain ⟨kp, eg, eo, ks', pk, ez⟩ := kw
    obtain ⟨al, sr⟩ := alk ks' pk
    have len : vs.length = ks'.length := ez.length
    have len2 : ks'.length = ks.length := pk.length_eq
    have small : ks.length < 4096 := hz
    have rd : ∀ hp : Heap, EachIs (fun v (k : Key) => ∃ as, Reads hp v (kD k) as) vs ks' := fun hp => ez.mono fun u k h => by
      rcases keyIs_shape h with ⟨i, t, rfl, rfl⟩ | ⟨x, t, rfl, rfl⟩
      · exact ⟨[], Reads.int _ _⟩
      · exact ⟨[], Reads.str _ _⟩
    have J1 : Inv X pins σ H s1 := J.call' (ch := []) eo (Un.kept kp) (J.hok.kept kp) (by rw [eg]; exact J.bare) (fun _ z => nomatch z)
    have hl2 : (s1.heap.push (seqObj "list" vs.toArray 0)).get? s1.heap.objs.size = some (seqObj "list" vs.toArray 0) := Heap.get?_push_size _ rfl
    refine ⟨by rw [len]; exact sz6 (by omega), dataKind (sortingHeap (s1.heap.push (seqObj "list" vs.toArray 0)) s1.heap.objs.size vs) (ks'.map kD), SortsAt.data (s := { s1 with heap := sortingHeap (s1.heap.push (seqObj "list" vs.toArray 0)) s1.heap.objs.size vs }) (each_map (R := fun v d => ∃ as, Reads (sortingHeap (s1.heap.push (seqObj "list" vs.toArray 0)) s1.heap.objs.size vs) v d as) _ (rd _)) al sr (fun d hd => ?_), ?_⟩
    · obtain ⟨k, _, rfl⟩ := List.mem_map.mp hd
      show X.A.units + 1 + 1 + _ < cLine
      rw [depth_kD]
      omega
    · obtain ⟨m, hm⟩ := sortedHeap_self (out := (sortVals (dataKind (sortingHeap (s1.heap.push (seqObj "list" vs.toArray 0)) s1.heap.objs.size vs) (ks'.map kD)) false vs vs).toArray) hl2
      have kp2 : ∀ b o, s1.heap.get? b = some o → (sortedHeap (s1.heap.push (seqObj "list" vs.toArray 0)) s1.heap.objs.size vs (sortVals (dataKind (sortingHeap (s1.heap.push (seqObj "list" vs.toArray 0)) s1.heap.objs.size vs) (ks'.map kD)) false vs vs).toArray).get? b = some o := fun b o e =>
        sortedHeap_ne (Nat.ne_of_lt (Heap.lt_size e)) (Heap.get?_push_of_some _ e)
      refine sort_done (s := s1) (enc := kD) (tk := s1.toks) (us := vs) J1 kp2 (Nat.le_refl _) hm (sortVals_data (h' := sortingHeap (s1.heap.push (seqObj "list" vs.toArray 0)) s1.heap.objs.size vs) (R := fun u k => ∃ x, RelV x u ∧ Im H x (kD k)) false (ez.mono fun u k h => ⟨kV k, rel_of h, im_k _ _⟩) (rd _) al) (by rw [(List.mergeSort_perm _ _).length_eq]; omega) ?_
      exact fun v H' e r => g v H' e ⟨ks', pk, r⟩
theorem ims_kV {H : Hp} : ∀ {kl : List Key} {xs : List V}, Ims H xs (kl.map kD) → xs = kl.map kV
  | [], _, h => by
    cases h
    rfl
  | k :: kl, _, h => by
    cases h with
    | cons h1 h2 =>
      rw [ims_kV h2, List.map_cons]
      congr 1
      cases k with
      | inl i => exact Im.eint h1
      | inr x => exact Im.estr h1
theorem ev_set {ds : List PyData} (kl : List Key) (hc : X.calm = true) (hm : X.mg "set" = none) (ha : Ev X a σ H (rL ds)) (hd : ds = kl.map kD) (hz : kl.length ≤ 4000) (hg : Gl X "set" := by rfl) (he : starEach [a] X.env = (false, eval a X.env) :: starEach [] X.env := by rfl)
    (hpl : (backTo pos (starEach [] X.env)).any (·.1) = false := by rfl) : Ev X (.Call (.Name "set" p) [a] [] pos) σ H (rSt X.w (allS kl)) := by
  subst hd
  exact ev_ct (cr_setK hc) hm (by decide +kernel) (eac ha ea0 he) (fun S vs H2 Q _ _ hv q => by
    obtain ⟨v, rfl, l, xs, rfl, h1, h2⟩ := one_arg hv
    exact ⟨l, kl, rfl, by rw [h1, ims_kV h2], by show kl.length + 1 < 4096; omega, q⟩) hg (by decide) (by decide) he hpl
theorem ev_sortSt {ks : List Key} (hc : X.calm = true) (hm : X.mg "sorted" = none) (hu : X.A.units + 64 < cLine) (ha : Ev X a σ H (rSt X.w ks)) (hz : ks.length ≤ 4000) (alk : ∀ ks' : List Key, ks'.Perm ks → PySem.W.AllAlike (ks'.map kD) ∧ PySem.W.Sortable (ks'.map kD))
    (hg : Gl X "sorted" := by rfl) (he : starEach [a] X.env = (false, eval a X.env) :: starEach [] X.env := by rfl) (hpl : (backTo pos (starEach [] X.env)).any (·.1) = false := by rfl) : Ev X (.Call (.Name "sorted" p) [a] [] pos) σ H (rSS ks) :=
  ev_cb (cr_sortSt hc hu) hm (by decide +kernel) (eac ha ea0 he) (fun S vs H2 Q _ _ hv q => by
    obtain ⟨v, rfl, l, rfl, h1⟩ := one_arg hv
    exact ⟨l, ks, rfl, h1, by show ks.length < 4096; omega, alk, q⟩) hg (by decide) (by decide) he hpl
theorem allS_mem {ks : List Key} {k : Key} : k ∈ allS ks ↔ k ∈ ks := by
  have go : ∀ (ks acc : List Key), k ∈ ks.foldl putS acc ↔ k ∈ acc ∨ k ∈ ks := by
    intro ks
    induction ks with
    | nil => simp
    | cons x xs ih =>
      intro acc
      rw [List.foldl_cons, ih, List.mem_cons]
      unfold putS
      split
      · rename_i h
        have h := hasS_iff.mp h
        constructor
        · rintro (z | z)
          · exact .inl z
          · exact .inr (.inr z)
        · rintro (z | rfl | z)
          · exact .inl z
          · exact .inl h
          · exact .inr z
      · rw [List.mem_cons]
        constructor
        · rintro ((rfl | z) | z)
          · exact .inr (.inl rfl)
          · exact .inl z
          · exact .inr (.inr z)
        · rintro (z | rfl | z)
          · exact .inl (.inr z)
          · exact .inl (.inl rfl)
          · exact .inr z
  rw [allS, go]
  simp
theorem allS_nd (ks : List Key) : (allS ks).Nodup := by
  have go : ∀ (ks acc : List Key), acc.Nodup → (ks.foldl putS acc).Nodup := by
    intro ks
    induction ks with
    | nil => exact fun _ h => h
    | cons x xs ih =>
      intro acc h
      rw [List.foldl_cons]
      refine ih _ ?_
      unfold putS
      split
      · exact h
      · rename_i n
        exact List.nodup_cons.mpr ⟨fun z => n (hasS_iff.mpr z), h⟩
  exact go ks [] List.nodup_nil
theorem allS_le (ks : List Key) : (allS ks).length ≤ ks.length := by
  have z := allS_len ks ks.length
  rw [List.take_length] at z
  exact z
end
end Lk

set_option maxHeartbeats 1000000
/-! is_list, need_entries. -/
namespace Lk
open PySem PySem.Spec PyProof.Rows L2
open Evl (Ex)
/-- a tuple of two types -/
def rTy2 (x y : String) : Rp := ⟨fun _ v H => ∃ p, v = .ref p ∧ H p = some (.tup [.ty x, .ty y]), fun e ⟨p, h1, h2⟩ => ⟨p, h1, e _ _ h2⟩, fun _ h => h⟩
section
variable {X : Cx} {σ : L2.St} {H : Hp} {a b c e : Expr} {p pos pos2 p2 : Pos} {kk : Nat} {ρ : Rp}
theorem ev_ty2 {x y : String} (ha : Ev X a σ H (rV (.ty x))) (hb : Ev X b σ H (rV (.ty y))) (h1 : starEach [a, b] X.env = (false, eval a X.env) :: starEach [b] X.env := by rfl) (h2 : starEach [b] X.env = (false, eval b X.env) :: starEach [] X.env := by rfl) :
    Ev X (.Tuple [a, b] kk pos) σ H (rTy2 x y) := fun H1 e1 Q q =>
  ⟨_, pe_tup wa_ok, eac ha (eac hb ea0 h2) h1 H1 e1 _ fun vs H2 e2 hv => by
    obtain ⟨v, w, rfl, r1, r2⟩ := two_arg hv
    cases r1
    cases r2
    exact ⟨sz6 (by simp), fun p hp => q _ _ (e2.trans (Ex.new hp)) ⟨p, rfl, upd_same⟩⟩⟩
theorem ev_isiT2 {x y : String} {t : Value} {r : Bool} (hm : X.mg "isinstance" = none) (ha : Ev X a σ H ρ) (hb : Ev X b σ H (rTy2 x y)) (h : ∀ S v H2, Ex H S → ρ.r S v H2 → ∃ t, TyX X.K H2 v t ∧ PySem.W.kitAny X.K t [.type x, .type y] = some r)
    (hg : Gl X "isinstance" := by rfl) (he : starEach [a, b] X.env = (false, eval a X.env) :: starEach [b] X.env := by rfl) (he2 : starEach [b] X.env = (false, eval b X.env) :: starEach [] X.env := by rfl) (hpl : (backTo pos (starEach [b] X.env)).any (·.1) = false := by rfl) :
    Ev X (.Call (.Name "isinstance" p) [a, b] [] pos) σ H (rB r) := ev_cb call_isiT hm (by decide +kernel) (eac ha (eac hb ea0 he2) he) (fun S vs H2 Q e1 _ hv q => by
  obtain ⟨v, w, rfl, h1, tp, rfl, h2⟩ := two_arg hv
  obtain ⟨t, t1, t2⟩ := h S v H2 e1 h1
  exact ⟨v, tp, _, t, _, r, rfl, h2, .cons (.ty x) (.cons (.ty y) .nil), t1, t2, q.at (.bl _)⟩) hg (by decide) (by decide) he hpl
theorem wk_eQ {tpos : Pos} {elts : List Expr} {ds : List PyData} {q : Addr} {xs : List V} (hm : X.mg "enumerate" = none) (ha : Ev X a σ H (rV (.ref q))) (h2 : H q = some (.lst xs) ∨ H q = some (.tup xs)) (h3 : Ims H xs ds) (hg : Gl X "enumerate" := by rfl)
    (hs : starEach [a] X.env = [(false, eval a X.env)] := by rfl) (hs' : starEach [a] X.env = (false, eval a X.env) :: starEach [] X.env := by rfl) : Wk X (.Tuple elts kk tpos) (.Call (.Name "enumerate" p) [a] [] pos) σ H (enu ds) := by
  rcases h2 with h2 | h2
  · exact wk_eV hm ha h2 h3 hg hs hs'
  · exact wk_eT hm (ha.imp fun _ v H1 e1 e2 r => by
      have r : v = .ref q := r
      subst r
      exact .tup ((e1.trans e2) _ _ h2) (h3.ex (e1.trans e2))) hg hs hs'
end
section
variable {P : Program} {w : World} {K : Frag} {mg : Str → Option Value} {base : Heap}
abbrev p_is_list : Sp := Pr (fun ds : List PyData => [rQ ds]) (fun _ => rB true) (fun _ => True)
theorem mk_is_list (E : En w K mg base) : Cal P w K mg base "is_list" 1 [] p_is_list :=
  cal_pr E D_is_list 2 14 sc_is_list (fun _ => rfl) (fun ds cdv Ar outer s H vs Q EE S0 hr _ _ hv q => by
    obtain ⟨v, rfl, p, xs, rfl, h1, h2⟩ := one_arg hv
    refine w_ret (ev_isiT2 (t := .none) E.isi (ev_v (i := 0) (ρ := rQ ds) rfl fun _ => ⟨p, xs, rfl, h1, h2⟩) (ev_ty2 (ev_ty (T := "list") E.lst (by decide +kernel)) (ev_ty (T := "tuple") E.tup (by decide +kernel))) fun S v H2 _ h3 => ?_) q
    obtain ⟨p, xs, rfl, h1, _⟩ := h3
    rcases h1 with h1 | h1
    · exact ⟨_, .base (.lst h1), kitAny_cons (b := true) (kit_ty (by decide +kernel)) (fun z => nomatch z) fun _ => rfl⟩
    · exact ⟨_, .base (.tup h1), kitAny_cons (b := false) (kit_ty (by decide +kernel)) (fun _ => kitAny_cons (b := true) (kit_ty (by decide +kernel)) (fun z => nomatch z) fun _ => rfl) fun z => nomatch z⟩)
    (fun _ _ _ _ _ _ us hl => match us, hl with | [_], _ => rfl)
/-- the dict of such entries -/
def ksE (es : List En1) : Kd := es.map fun e => (kS e.1, eUs e.2)
theorem kS_inj {a b : List Nat} : kS a = kS b ↔ a = b := by
  constructor
  · intro h
    exact T_inj.mp (Sum.inr.inj h)
  · intro h
    rw [h]
theorem lookK_none {ks : Kd} {k : Key} (h : ∀ p ∈ ks, p.1 ≠ k) : lookK ks k = none := by
  unfold lookK
  rw [Option.map_eq_none_iff, List.find?_eq_none]
  intro p hp z
  exact h p hp (of_decide_eq_true z)
theorem lookK_some {ks : Kd} {k : Key} {d : PyData} (h : (k, d) ∈ ks) (nd : (ks.map (·.1)).Nodup) : lookK ks k = some d := by
  induction ks with
  | nil => cases h
  | cons p ks ih =>
    rw [List.map_cons, List.nodup_cons] at nd
    unfold lookK
    rw [List.find?_cons]
    by_cases e : p.1 = k
    · rw [decide_eq_true e]
      rcases List.mem_cons.mp h with z | z
      · rw [← z] <;> rfl
      · exact absurd (List.mem_map.mpr ⟨_, z, e.symm⟩) nd.1
    · rw [decide_eq_false e]
      rcases List.mem_cons.mp h with z | z
      · exact absurd (by rw [← z]) e
      · exact ih z nd.2
theorem ksE_nd {es : List En1} (nd : (es.map (·.1)).Nodup) : ((ksE es).map (·.1)).Nodup := by
  have e : (ksE es).map (·.1) = (es.map (·.1)).map kS := by
    rw [ksE, List.map_map, List.map_map] <;> rfl
  rw [e]
  exact List.Pairwise.map kS (fun a b n z => n (kS_inj.mp z)) nd
abbrev p_need_entries : Sp := Pr (fun z : List Nat × List En1 => [rS z.1, rQ (z.2.map eE)]) (fun z => rFM (ksE z.2)) (fun z => OkSg z.1 ∧ OkEs z.1 z.2)
theorem mk_need_entries (E : En w K mg base) : Cal P w K mg base "need_entries" 6 [] p_need_entries :=
  cal_pr E D_need_entries 9 21 sc_need_entries (fun _ => rfl) (fun z cdv Ar outer s H vs Q EE S0 hr ok _ hv q => by
    obtain ⟨v1, v2, rfl, h1, p, xs, rfl, hp, hxs⟩ := two_arg hv
    obtain ⟨sg, es⟩ := z
    obtain ⟨os, oe⟩ := ok
    have os : OkSg sg := os
    have oe : OkEs sg es := oe
    have hxs : Ims H xs (es.map eE) := hxs
    have hz : sg.length ≤ 1000000 := by have := os.most; omega
    have x1 : ∀ {H1 : Hp}, Ex H H1 → ∀ S, (rQ (es.map eE)).r S (.ref p) H1 := fun e S => (rQ (es.map eE)).m e ⟨p, xs, rfl, hp, hxs⟩
    refine w_no (et_b (et_or (et_not (et_v (ev_pr (mk_is_list E) hr (es.map eE) trivial (eac (ev_v (i := 1) rfl (x1 (Ex.refl _))) ea0)))) fun _ => ew_or1 (et_cmp op_gt (ev_len E.len (ev_v (i := 1) (ρ := rQ (es.map eE)) rfl (x1 (Ex.refl _)))) (ev_gi (E.num 85)) r_gt (nomark _)))
      (by rw [List.length_map, decide_eq_false (show ¬ (30 : Int) < (es.length : Int) by have := oe.most; omega)] <;> rfl)) fun H1 e1 => ?_
    refine w_set (i := 2) sc_need_entries.nd ev_d0 fun v H2 e2 ⟨l, kvs0, ev, hl, hl2, dk0⟩ => ?_
    subst ev
    have eo : Ex H (off l H2) := ex_off (e1.trans e2) (Evl.fresh_back e1 hl)
    have dz : ∀ i, (ksE (es.take i)).length ≤ 30 := fun i => by
      have z2 := oe.most
      rw [ksE, List.length_map, List.length_take]
      omega
    refine w_for (B := off l H2) rfl (wk_eQ E.enum (ev_v (i := 1) rfl fun _ => rfl) (hp.imp (eo _ _) (eo _ _)) (hxs.ex eo)) off_ex fun H3 G e3 g1 g2 g3 => ⟨fun i σ' H' => Ex H H' ∧ Ex H1 H' ∧ Ex (off l H3) H' ∧ ∃ a b kvs, σ' = [some v1, some (.ref p), some (.ref l), a, b, none] ∧ H' l = some (.dK kvs) ∧ DkR H' kvs (ksE (es.take i)),
      ⟨(e1.trans e2).trans e3, e2.trans e3, off_ex, _, _, kvs0, rfl, e3 _ _ hl2, by rw [List.take_zero]; exact dk0.ex (tu_ex e3)⟩, fun i σ' H' _ r => g2 _ _ (g3 l _ hl2 (fun ys z => by cases z) off_at) r.2.2.1, fun i d σ' H' x H4 hd r e4 hx => ?_, fun σ' H' r => ?_⟩
    · obtain ⟨r1, r2, r3, a, b, kvs, rfl, r4, r5⟩ := r
      obtain ⟨d', hd', rfl⟩ := enu_inv hd
      rw [List.getElem?_map] at hd'
      cases he : es[i]? with
      | none => rw [he] at hd'; cases hd'
      | some en =>
        rw [he] at hd'
        cases hd'
        obtain ⟨t, u1, u2, rfl, ht, m1, m2⟩ := im2 hx
        refine wg_t2 (i := 3) (j := 4) rfl sc_need_entries.nd ht ?_
        have y0 : ∀ {H5 : Hp}, Ex H4 H5 → ∀ S, (rS sg).r S v1 H5 := fun e S => Im.ex h1 ((r1.trans e4).trans e)
        have y4 : ∀ {H5 : Hp}, Ex H4 H5 → ∀ S, (rT [.str (T en.1), eUs en.2]).r S u2 H5 := fun e S => m2.ex e
        have yl : ∀ {H5 : Hp}, Ex H4 H5 → ∀ S, (rM (ksE (es.take i))).r S (.ref l) H5 := fun e S => ⟨l, kvs, rfl, .inl (e _ _ (e4 _ _ r4)), r5.ex (tu_ex (e4.trans e))⟩
        have new : lookK (ksE (es.take i)) (kS en.1) = none := lookK_none fun pp hpp z => by
          obtain ⟨e', he', rfl⟩ := List.mem_map.mp hpp
          obtain ⟨j, hj, ej⟩ := List.getElem_of_mem he'
          have hj' : j < i ∧ j < es.length := by
            rw [List.length_take] at hj
            omega
          rw [List.getElem_take] at ej
          have q1 : (es.map (·.1))[j]? = some en.1 := by
            rw [List.getElem?_map, List.getElem?_eq_getElem hj'.2, ej, Option.map_some, kS_inj.mp z]
          have q2 : (es.map (·.1))[i]? = some en.1 := by rw [List.getElem?_map, he] <;> rfl
          have := nodup_ixA oe.nd q1 q2
          omega
        refine w_no (et_b (et_or (et_not (et_v (ev_pr (mk_is_entry E) hr (sg, en) ⟨oe.ok en (List.mem_of_getElem? he), os.most⟩ (eac (ev_v (i := 0) rfl (y0 (Ex.refl _))) (eac (ev_v (i := 4) rfl (y4 (Ex.refl _))) ea0))))) fun _ => ew_or1 (et_ind (hu_of hr) (ev_ks (ev_ixt (ev_v (i := 4) rfl (y4 (Ex.refl _))) ev_int rfl)) (ev_v (i := 2) rfl (yl (Ex.refl _))))) (by rw [show lookK (ksE (es.take i)) (.inr (T en.1)) = none from new] <;> rfl)) fun H5 e5 => ?_
        refine w_dput (a := l) (kvs := kvs) (k := kS en.1) (hu_of hr) (ev_ixt (ev_v (i := 4) rfl (y4 e5)) ev_int rfl) (ev_v (i := 2) rfl fun _ => rfl) (ev_ks (ev_ixt (ev_v (i := 4) rfl (y4 e5)) ev_int rfl)) (e5 _ _ (e4 _ _ r4)) (by rw [r5.len]; have := dz i; omega) fun v H6 e6 hv6 => ?_
        have l6 := e6 _ _ (e5 _ _ (e4 _ _ r4))
        refine w_end ⟨Ex.mut (((r1.trans e4).trans e5).trans e6) (Evl.fresh_back e1 hl), Ex.mut (((r2.trans e4).trans e5).trans e6) hl, ex_updl (((r3.trans e4).trans e5).trans e6), _, _, _, rfl, upd_same, ?_⟩
        have tu := tu_upd (u := .dK (putK kvs (kS en.1) v)) l6 (fun ys z => by cases z)
        have es1 : ksE (es.take (i + 1)) = ksE (es.take i) ++ [(kS en.1, eUs en.2)] := by
          rw [take_snoc he, ksE, List.map_append, List.map_singleton] <;> rfl
        rw [es1, ← pK_new new]
        exact ((r5.ex (tu_ex ((e4.trans e5).trans e6))).put hv6).ex tu
    · obtain ⟨r1, r2, r3, a, b, kvs, rfl, r4, r5⟩ := r
      rw [enu_len, List.length_map, List.take_length] at r5
      refine w_for rfl (wk_l (ev_sortedS rfl E.srt hr.units (ev_v (i := 0) (ρ := rS sg) rfl fun _ => Im.ex h1 r1) hz)) (Ex.refl _) fun H4 G4 e4 k1 k2 k3 => ⟨fun i σ' H' => Ex H1 H' ∧ Ex H4 H' ∧ (∃ a b c, σ' = [some v1, some (.ref p), some (.ref l), a, b, c]) ∧ H' l = some (.dK kvs) ∧ DkR H' kvs (ksE es),
        ⟨r2.trans e4, Ex.refl _, ⟨_, _, _, rfl⟩, e4 _ _ r4, r5.ex (tu_ex e4)⟩, fun i σ' H' _ r => k2 _ _ k1 r.2.1, fun i d σ' H' x H5 hd r e5 hx => ?_, fun σ' H' r => ?_⟩
      · obtain ⟨t1, t2, ⟨a, b, c, rfl⟩, t4, t5⟩ := r
        obtain ⟨cc, hc, rfl⟩ := sgs_inv hd
        refine wg_n (i := 5) sc_need_entries.nd ?_
        have cin : cc ∈ sg := (srtS_perm sg).mem_iff.mp (List.mem_of_getElem? hc)
        obtain ⟨en, hen, e1'⟩ := List.mem_map.mp (oe.all cc cin)
        have lk : lookK (ksE es) (kS [cc]) = some (eUs en.2) := lookK_some (List.mem_map.mpr ⟨en, hen, by rw [e1'] <;> rfl⟩) (ksE_nd oe.nd)
        refine w_no (et_b (et_nind (ks := ksE es) (hu_of hr) (ev_ks (ev_v (i := 5) (ρ := rS [cc]) rfl fun _ => hx)) (ev_v (i := 2) rfl fun _ => ⟨l, kvs, rfl, .inl (e5 _ _ t4), t5.ex (tu_ex e5)⟩)) (by rw [show lookK (ksE es) (.inr (T [cc])) = some (eUs en.2) from lk] <;> rfl)) fun H6 e6 => w_end ⟨(t1.trans e5).trans e6, (t2.trans e5).trans e6, ⟨_, _, _, rfl⟩, (e5.trans e6) _ _ t4, t5.ex (tu_ex (e5.trans e6))⟩
      · obtain ⟨t1, t2, ⟨a, b, c, rfl⟩, t4, t5⟩ := r
        refine w_ret (ev_v (i := 2) (ρ := rV (.ref l)) rfl fun _ => rfl) fun v H7 e7 hv7 => ?_
        have hv7 : v = .ref l := hv7
        subst hv7
        exact q _ _ ((e1.trans t1).trans e7) ⟨l, kvs, rfl, Evl.fresh_back e1 hl, e7 _ _ t4, t5.ex (tu_ex e7)⟩) (fun _ _ _ _ _ _ us hl => match us, hl with | [_, _], _ => rfl)
end
end Lk

set_option maxHeartbeats 1000000
/-! join; defs of classes; Table.__init__, Table(..). -/
namespace Lk
open PySem PySem.Spec PyProof.Rows L2
open Evl (Ex)
theorem join_T : ∀ ls : List (List Nat), Txt.join (T []) (ls.map T) = T ls.flatten := by
  intro ls
  rw [TL.join_eq]
  induction ls with
  | nil => rfl
  | cons x r ih =>
    cases r with
    | nil =>
      show T x = _
      simp
    | cons y r =>
      have e : Str.join (T []) ((x :: y :: r).map T) = T x ++ T [] ++ Str.join (T []) ((y :: r).map T) := rfl
      rw [e, ih, T_app x [], List.append_nil, T_app x (y :: r).flatten, List.flatten_cons] <;> rfl
section
variable {X : Cx} {σ : L2.St} {H H' : Hp} {e a b c o : Expr} {es : List Expr} {pos p p2 apos : Pos} {ρ ρ1 ρ2 ρ3 : Rp} {D : Ends} {rest : List Stmt}
/-- ''.join(texts) -/
theorem ev_join (ls : List (List Nat)) {ds : List PyData} (ho : Ev X o σ H (rS [])) (ha : Ev X a σ H (rQ ds)) (hd : ds = ls.map eS) (hz : ls.flatten.length ≤ 1000000) (hs : starEach [a] X.env = [(false, eval a X.env)] := by rfl)
    (hbase : attributeBase o "join" X.env (eval o X.env) = eval o X.env := by rfl) (hline : (apos.endLine == pos.line) = true := by rfl) : Ev X (.Call (.Attribute o "join" apos) [a] [] pos) σ H (rS ls.flatten) := fun H1 e1 Q q => by
  subst hd
  refine ⟨_, pe_join we_ok we_ok hs hbase hline, ho H1 e1 _ fun x H2 e2 h2 => ⟨⟨T [], Im.estr h2⟩, ha H2 (e1.trans e2) _ fun y H3 e3 h3 => ?_⟩⟩
  obtain ⟨p, xs, rfl, h4, h5⟩ := h3
  have h5 : Ims H3 xs ((ls.map T).map .str) := by rw [List.map_map]; exact h5
  have ex := h5.strs
  subst ex
  refine ⟨T [], p, ls.map T, Im.estr h2, rfl, h4.imp SqL.of SqT.of, ?_, ?_⟩
  · have el : ((ls.map T).map (·.length)).sum = ls.flatten.length := by
      rw [List.map_map, List.length_flatten]
      congr 1
    rw [el, T_len, List.length_nil, Nat.mul_zero]
    omega
  · rw [join_T]
    exact q _ _ (e2.trans e3) (.str _)
end
/-! ### defs of classes -/
def CalF (P : Program) (w : World) (K : Frag) (mg : Str → Option Value) (base : Heap) (f : Addr) (k : Nat) (dvs : List V) (sp : Sp) : Prop := ∃ fd ps ds, FnOk P w K mg base CX0 k f fd ps sp ∧ Binds K fd ps ds ∧ Vals dvs ds
section
variable {P : Program} {w : World} {K : Frag} {mg : Str → Option Value} {base : Heap}
theorem calF_of (E : En w K mg base) (d : He.DefD) {N ps : List Str} {k : Nat} {sp : Sp} (i : Nat) (S : FnScope N ps d.scope) (len : ∀ vs H Q E, sp vs H Q E → vs.length = ps.length)
    (body : ∀ (cdv : Value) (A : Around) (outer : List Env) (s : Shared) (H : Hp) (vs : List V) (Q : VK) (E : XK), Room k (A.deeper (envOfC d.qual d.scope s.heap.objs.size (He.fAd K d.at_) cdv)) → sp vs H Q E →
      Wm (Bx P w K mg base N d cdv A outer s H E) d.body { nx := fun _ H' => Q .non H', rt := Q } (start N vs) H)
    (hb : ∀ (kV doc pm : Value) (an : Option Addr) (cdv ct : Value) (us : List Value), us.length = ps.length → bindArgs (PySem.W.fnOf d.name d.qual d.params d.body d.scope .none kV doc pm an cdv ct) ⟨us, []⟩ = pure (ps.zip us))
    (hd : fnl[i]? = some d := by rfl) (h0 : d.dfl = [] := by rfl) (h1 : d.kwd = [] := by rfl) : CalF P w K mg base (He.fAd K d.at_) (k + 1) [] sp := by
  obtain ⟨fd, F⟩ := E.fn d (List.mem_of_getElem? hd)
  have e0 : d.dvs K = [] := by rw [He.DefD.dvs, h0] <;> rfl
  have e1 : d.kws K = [] := by rw [He.DefD.kws, h1] <;> rfl
  rw [e0, e1] at F
  refine ⟨fd, ps, [], F.ok S len fun cdv A outer s H vs Q E hr h => ?_, F.bindsN hb, .nil⟩
  obtain ⟨t, h1, h2⟩ := body cdv A outer s H vs Q E hr h
  exact ⟨t, h1.nox, h2⟩
theorem En.mkT (E : En w K mg base) : Mk K (He.ga K "Table") (He.fAd K ("Table", some "__init__")) := He.mkr_ok (E.fa (.mkr "Table") (List.mem_of_getElem? (i := 95) rfl))
end
/-! ### a table under way -/
/-- the object a (its dict dx) was new at B; its slots so far -/
structure Bld (K : Frag) (B H : Hp) (a dx : Addr) (vs : List (Option V)) : Prop where
  ne : dx ≠ a
  slt : SlX.Slt H a (He.ga K "Table") dx vs
  frame : H dx = some (.own a) ∨ H dx = some (.xd [])
  ex : Ex (off dx (off a B)) H
theorem Bld.mono {K : Frag} {B H H' : Hp} {a dx : Addr} {vs : List (Option V)} (b : Bld K B H a dx vs) (e : Ex H H') : Bld K B H' a dx vs := ⟨b.ne, b.slt.imp (fun h => ⟨e _ _ h.1, h.2⟩) fun h => ⟨e _ _ h.1, e _ _ h.2⟩, b.frame.imp (e _ _) (e _ _), b.ex.trans e⟩
/-- what a table is besides tuples, dicts and lists -/
def Odd (H : Hp) (a : Addr) : Prop := ∀ u, H a = some u → (∀ xs, u ≠ .tup xs) ∧ (∀ kvs, u ≠ .dK kvs) ∧ ∀ xs, u ≠ .lst xs
theorem Bld.oa {K : Frag} {B H : Hp} {a dx : Addr} {vs : List (Option V)} (b : Bld K B H a dx vs) : Odd H a := fun u h => by
  rcases b.slt with ⟨h1, _⟩ | ⟨h1, _⟩
  · rw [h1] at h
    cases h
    exact ⟨fun _ z => (nomatch z), fun _ z => (nomatch z), fun _ z => nomatch z⟩
  · rw [h1] at h
    cases h
    unfold SlX.SlO
    exact ⟨fun _ z => (nomatch z), fun _ z => (nomatch z), fun _ z => nomatch z⟩
theorem Bld.od {K : Frag} {B H : Hp} {a dx : Addr} {vs : List (Option V)} (b : Bld K B H a dx vs) : Odd H dx := fun u h => by
  rcases b.frame with h1 | h1 <;>
  · rw [h1] at h
    cases h
    exact ⟨fun _ z => (nomatch z), fun _ z => (nomatch z), fun _ z => nomatch z⟩
theorem Bld.keep {K : Frag} {B H : Hp} {a dx b C : Addr} {vs vs' : List (Option V)} {u : HO} (bl : Bld K B H a dx vs) (h : H b = some u) (hu : (∃ xs, u = .tup xs) ∨ (∃ kvs, u = .dK kvs) ∨ ∃ xs, u = .lst xs) : SlX.slH H a C dx vs' b = some u := by
  have n : ∀ c, Odd H c → b ≠ c := fun c o z => by
    obtain ⟨h1, h2, h3⟩ := o u (z ▸ h)
    rcases hu with ⟨xs, e⟩ | ⟨xs, e⟩ | ⟨xs, e⟩
    · exact h1 _ e
    · exact h2 _ e
    · exact h3 _ e
  rw [SlX.slH_ne (n a bl.oa) (n dx bl.od)]
  exact h
theorem Bld.tu {K : Frag} {B H : Hp} {a dx C : Addr} {vs vs' : List (Option V)} (bl : Bld K B H a dx vs) : Tu H (SlX.slH H a C dx vs') := fun b xs h => bl.keep h (.inl ⟨xs, rfl⟩)
theorem Bld.put {K : Frag} {B H : Hp} {a dx : Addr} {vs vs' : List (Option V)} (bl : Bld K B H a dx vs) : Bld K B (SlX.slH H a (He.ga K "Table") dx vs') a dx vs' where
  ne := bl.ne
  slt := SlX.slH_slt bl.ne
  frame := .inr (by unfold SlX.slH; rw [upd_ne bl.ne, upd_same])
  ex := fun b u z => by
    have n1 : b ≠ dx := fun q => by rw [q, off_at] at z; cases z
    have n2 : b ≠ a := fun q => by rw [q, off_ne bl.ne.symm, off_at] at z; cases z
    rw [SlX.slH_ne n2 n1]
    exact bl.ex b u z
section
variable {X : Cx} {σ : L2.St} {B H : Hp} {e o : Expr} {pos pos' : Pos} {ρ : Rp} {D : Ends} {rest : List Stmt} {w : World} {a dx : Addr} {vs : List (Option V)} {f : Str} {i : Nat}
/-- self.f = e, a slot of a table under way -/
theorem w_slot (bl : Bld X.K B H a dx vs) (E : En w X.K X.mg X.base) (sl : SlX.Slot1 X.K (He.ga X.K "Table") f (prA X.K "Table" f) i) (he : Ev X e σ H ρ) (ho : Ev X o σ H (rV (.ref a)))
    (k : ∀ v H1 G, Ex H H1 → ρ.r H v H1 → Bld X.K B G a dx (SlX.putS i v vs) → Tu H1 G → (∀ b kvs, H1 b = some (.dK kvs) → G b = some (.dK kvs)) → Wm X rest D σ G) (hs : swapsWith e (some (.Attribute o f pos')) pos.line X.env = pure false := by rfl) : Wm X (.Assign [.Attribute o f pos'] e pos :: rest) D σ H :=
  w_cons ⟨_, SlX.ps_sl we_ok we_ok hs, he H (Ex.refl H) _ fun v H1 e1 h1 => ho H1 e1 _ fun x H2 e2 h2 => by
    have h2 : x = .ref a := h2
    subst h2
    have b2 := bl.mono (e1.trans e2)
    exact ⟨a, _, dx, _, vs, i, rfl, b2.slt, E.scls, sl, k v H2 _ (e1.trans e2) (ρ.m e2 h1) b2.put b2.tu fun b kvs h => b2.keep h (.inr (.inl ⟨kvs, rfl⟩))⟩⟩
end
end Lk

set_option maxHeartbeats 1000000
/-! Table.__init__, Table(..). -/
namespace Lk
open PySem PySem.Spec PyProof.Rows L2
open Evl (Ex)
/-- es is f, written down -/
def FnEs (f : Fn) (es : List En1) : Prop := ∀ k us, f k = some us ↔ (k, us) ∈ es
/-- some tuple -/
def rTT : Rp := ⟨fun _ v H => ∃ ds, Im H v (.tuple ds), fun e ⟨ds, h⟩ => ⟨ds, h.ex e⟩, fun _ h => h⟩
section
variable {X : Cx} {σ : L2.St} {H H' : Hp} {e a b c o : Expr} {es : List Expr} {pos p p2 apos : Pos} {ρ ρ1 ρ2 ρ3 : Rp} {D : Ends} {rest : List Stmt}
theorem ev_tupleS {ks : List Key} (hm : X.mg "tuple" = none) (ha : Ev X a σ H (rSS ks)) (hg : Gl X "tuple" := by rfl) (he : starEach [a] X.env = (false, eval a X.env) :: starEach [] X.env := by rfl) (hpl : (backTo pos (starEach [] X.env)).any (·.1) = false := by rfl) :
    Ev X (.Call (.Name "tuple" p) [a] [] pos) σ H rTT := ev_ct call_tuple_of hm (by decide +kernel) (eac ha ea0 he) (fun S vs H2 Q _ _ hv q => by
  obtain ⟨v, rfl, ks', _, l, xs, rfl, _, h1, h2⟩ := one_arg hv
  exact ⟨l, xs, rfl, .inl ⟨SqL.of h1, fun r hr => q _ _ (Ex.new hr) ⟨_, .tup upd_same (h2.ex (Ex.new hr))⟩⟩⟩) hg (by decide) (by decide) he hpl
end
theorem srtS_one (sg : List Nat) : ((srtS sg).map fun c => [c]).flatten = srtS sg := by
  generalize srtS sg = l
  induction l with
  | nil => rfl
  | cons x l ih =>
    rw [List.map_cons, List.flatten_cons, ih] <;> rfl
/-- the keys, sorted -/
def srtK (es : List En1) : List (List Nat) := (es.map (·.1)).mergeSort (PySem.W.dataLe false eS)
theorem srtK_perm (es : List En1) : (srtK es).Perm (es.map (·.1)) := List.mergeSort_perm _ _
theorem alike_S (l : List (List Nat)) : PySem.W.AllAlike (l.map eS) := .of fun _ _ => by simp [eS, PySem.W.alike]
theorem depth_eS (l : List Nat) : (eS l).depth ≤ 32 := by simp [eS, PyData.depth]
def tabK (f : Fn) (ts : List (List Nat)) : Kd := ts.map fun z => (kS z, eUs ((f z).getD []))
theorem tabK_nd {f : Fn} {ts : List (List Nat)} (nd : ts.Nodup) : ((tabK f ts).map (·.1)).Nodup := by
  have e2 : (tabK f ts).map (·.1) = ts.map kS := by
    rw [tabK, List.map_map] <;> rfl
  rw [e2]
  exact List.Pairwise.map kS (fun a b n z => n (kS_inj.mp z)) nd
theorem tab_has {f : Fn} {ts : List (List Nat)} (nd : ts.Nodup) (h : ∀ k, k ∈ ts ↔ (f k).isSome = true) : HasF (tabK f ts) f := fun k => by
  cases e : f k with
  | some us =>
    have m : k ∈ ts := (h k).mpr (by rw [e] <;> rfl)
    exact lookK_some (List.mem_map.mpr ⟨k, m, by rw [e] <;> rfl⟩) (tabK_nd nd)
  | none =>
    refine lookK_none fun p hp z => ?_
    obtain ⟨t, ht, rfl⟩ := List.mem_map.mp hp
    have z : t = k := kS_inj.mp z
    subst z
    have := (h t).mp ht
    rw [e] at this
    cases this
theorem flat_most {α : Type} {m : Nat} : ∀ (l : List (List α)), (∀ x ∈ l, x.length ≤ m) → l.flatten.length ≤ l.length * m
  | [], _ => by simp
  | x :: l, h => by
    have ih := flat_most l fun y hy => h y (List.mem_cons_of_mem _ hy)
    have hx := h x (List.mem_cons_self ..)
    rw [List.flatten_cons, List.length_append, List.length_cons, Nat.succ_mul]
    omega
section
variable {P : Program} {w : World} {K : Frag} {mg : Str → Option Value} {base : Heap}
def p_Table_init (K : Frag) : Sp := fun vs H Q _ => ∃ (a dx : Addr) (v1 v2 : V) (sg : List Nat) (es : List En1) (f : Fn), vs = [.ref a, v1, v2] ∧ dx ≠ a ∧ H a = some (.ins (He.ga K "Table") dx []) ∧ H dx = some (.own a) ∧ (rS sg).r H v1 H ∧ (rQ (es.map eE)).r H v2 H ∧ OkSg sg ∧ OkEs sg es ∧ FnEs f es ∧
  ∀ H', Ex (off dx (off a H)) H' → (rTb K sg f).r H' (.ref a) H' → Q .non H'
theorem mk_Table_init (E : En w K mg base) : CalF P w K mg base (He.fAd K ("Table", some "__init__")) 7 [] (p_Table_init K) :=
  calF_of E D_Table___init__ 10 sc_Table___init__ (fun vs H Q EE h => by obtain ⟨a, dx, v1, v2, sg, es, f, rfl, _⟩ := h; rfl) (fun cdv Ar outer s H vs Q EE hr h => by
    obtain ⟨a, dx, v1, v2, sg, es, f, rfl, ne, ha, hdx, h1, h2, os, oe, fe, q⟩ := h
    have hz : sg.length ≤ 1000000 := by have := os.most; omega
    have bl : Bld K H H a dx [] := ⟨ne, .inl ⟨ha, rfl⟩, .inl hdx, off_ex.trans off_ex⟩
    have x1 : ∀ {H1 : Hp}, Ex H H1 → ∀ S, (rS sg).r S v1 H1 := fun e S => Im.ex h1 e
    refine w_do (ev_pr (mk_need_signs E) hr sg os (eac (ev_v (i := 1) rfl (x1 (Ex.refl _))) ea0)) fun H1 e1 => ?_
    obtain ⟨pe, xs, rfl, hpe, hxs⟩ := h2
    refine w_set (i := 3) sc_Table___init__.nd (ev_pr (mk_need_entries E) hr (sg, es) ⟨os, oe⟩ (eac (ev_v (i := 1) (ρ := rS sg) rfl (x1 e1)) (eac (ev_v (i := 2) (ρ := rQ (es.map eE)) rfl fun S => ⟨pe, xs, rfl, hpe.imp (e1 _ _) (e1 _ _), hxs.ex e1⟩) ea0))) fun v H2 e2 ⟨kn, kvs, ev, hkn, hkn2, dk⟩ => ?_
    subst ev
    have b2 := bl.mono (e1.trans e2)
    refine w_slot b2 E E.slSigns (ρ := rS (srtS sg)) (ev_d (ev_join ((srtS sg).map fun c => [c]) (ev_str (x := T [])) (ev_qf (ev_sortedS rfl E.srt hr.units (ev_v (i := 1) (ρ := rS sg) rfl (x1 (e1.trans e2))) hz)) (by rw [sgs, List.map_map] <;> rfl) (by rw [srtS_one, (srtS_perm sg).length_eq]; exact hz)) (by rw [srtS_one])) (ev_v (i := 0) rfl fun _ => rfl) fun v3 H3 G3 e3 hv3 b3 tu3 kp3 => ?_
    have hv3 := Im.estr hv3
    subst hv3
    have kn3 := kp3 _ _ (e3 _ _ hkn2)
    have dk3 := (dk.ex (tu_ex e3)).ex tu3
    have md : ∀ {G : Hp}, Ex G3 G → ∀ S, (rM (ksE es)).r S (.ref kn) G := fun e S => ⟨kn, kvs, rfl, .inl (e _ _ kn3), dk3.ex (tu_ex e)⟩
    have fin : ∀ k ∈ srtK es, ∃ us, f k = some us ∧ (k, us) ∈ es := fun k hk => by
      obtain ⟨en, hen, rfl⟩ := List.mem_map.mp ((srtK_perm es).mem_iff.mp hk)
      exact ⟨en.2, (fe _ _).mpr hen, hen⟩
    have ndk : (srtK es).Nodup := (srtK_perm es).nodup_iff.mpr oe.nd
    have lk : (srtK es).length ≤ 30 := by rw [(srtK_perm es).length_eq, List.length_map]; exact oe.most
    have has : HasF (tabK f (srtK es)) f := tab_has ndk fun k => by
      rw [(srtK_perm es).mem_iff, List.mem_map]
      constructor
      · rintro ⟨en, hen, rfl⟩
        rw [(fe _ _).mpr hen] <;> rfl
      · intro z
        obtain ⟨us, hus⟩ := Option.isSome_iff_exists.mp z
        exact ⟨(k, us), (fe _ _).mp hus, rfl⟩
    refine w_slot b3 E E.slKnown (ρ := rFM (tabK f (srtK es))) (ev_dc (own := [("sequence", 4)]) (srtK es) eS kS (fun z => eUs ((f z).getD [])) rfl sc_Table___init__.nd
      (wk_l (ev_sorted (es.map (·.1)) eS E.srt hr.units (ev_l (ev_listk E.lst rfl (ev_v (i := 3) rfl (md (Ex.refl _))))) (by rw [ksE, List.map_map, List.map_map] <;> rfl) (alike_S _) (.inl (.others fun n => ⟨by simp [eS], by simp [eS]⟩)) (by rw [List.length_map]; have := oe.most; omega) (fun b _ => depth_eS b))) rfl (by omega)
      (List.Pairwise.map kS (fun a b n z => n (kS_inj.mp z)) ndk) fun z hz => ?_) (ev_v (i := 0) rfl fun _ => rfl) fun v4 H4 G4 e4 hv4 b4 tu4 kp4 => ?_
    · intro x G eG hx
      obtain ⟨us, fus, _⟩ := fin z hz
      refine ⟨(wipe [some (.ref a), some v1, some (.ref pe), some (.ref kn), none, none, none] [4]).set 4 (some x), fun s H0 C cl fp => tg_n sc_Table___init__.nd, rfl, fun s H0 C cl fp => ev_ks (ev_v (i := 4) (ρ := rS z) rfl fun _ => hx), fun s H0 C cl fp => ?_⟩
      exact ev_ixd (k := kS z) (hu_of hr) (ev_v (i := 3) rfl (md eG)) (ev_ks (ev_v (i := 4) (ρ := rS z) rfl fun _ => hx)) (by rw [fus]; exact lookK_some (List.mem_map.mpr ⟨(z, us), (fe _ _).mp fus, rfl⟩) (ksE_nd oe.nd))
    obtain ⟨dw, kvs4, rfl, hdw, hdw2, dk4⟩ := hv4
    have kn4 := kp4 _ _ (e4 _ _ kn3)
    have dk4k := (dk3.ex (tu_ex e4)).ex tu4
    have hdw4 := kp4 _ _ hdw2
    have dw4 := dk4.ex tu4
    have keq : kvs.map (fun p => kD p.1) = (es.map (·.1)).map eS := by
      have z := congrArg (List.map kD) dk4k.keys
      rw [List.map_map, List.map_map] at z
      rw [List.map_map]
      refine z.trans ?_
      rw [ksE, List.map_map] <;> rfl
    have w3 : ∀ e ∈ es, e.1.length ≤ 3 := fun e he => (oe.ok e he).1.most
    refine w_lc2L (own := [("sequence", 4), ("many", 6)]) (i := 5) [6] (d := kn) (kvs := kvs) (es.map fun e => (List.range e.1.length).map fun n => eS (e.1.take n)) rfl sc_Table___init__.nd kn4 (fun od => wk_k (d := kn) (od := od) (kvs := kvs) (ev_v (i := 3) rfl fun _ => rfl) upd_same) (by rw [keq, List.length_map, List.length_map, List.length_map]) ?_ (fun od i d o hd ho x G eG hx => ?_) fun v5 H5 e5 hv5 => ?_
    · have z := flat_most (m := 3) (es.map fun e => (List.range e.1.length).map fun n => eS (e.1.take n)) fun y hy => by
        obtain ⟨e, he, rfl⟩ := List.mem_map.mp hy
        rw [List.length_map, List.length_range]
        exact w3 e he
      rw [List.length_map] at z
      have := oe.most
      omega
    · rw [keq, List.getElem?_map, List.getElem?_map] at hd
      rw [List.getElem?_map] at ho
      cases he : es[i]? with
      | none => rw [he] at hd; cases hd
      | some en =>
        rw [he] at hd ho
        cases hd
        cases ho
        have l3 := w3 en (List.mem_of_getElem? he)
        refine ⟨(wipe [some (.ref a), some v1, some (.ref pe), some (.ref kn), none, none, none] [4, 6]).set 4 (some x), rng 0 en.1.length, fun G2 e2 s H0 C cl fp => tg_n sc_Table___init__.nd, rfl, fun s H0 C cl fp => ?_, by simp [rng], fun j d2 o2 hd2 ho2 y G2 e2 hy => ⟨_, fun s H0 C cl fp => tg_n (i := 6) sc_Table___init__.nd, rfl, fun s H0 C cl fp => ?_⟩⟩
        · exact wk_r1 (n := (en.1.length : Int)) E.rng (ev_lens E.len (ev_v (i := 4) (ρ := rS en.1) rfl fun _ => hx) (by omega)) (by omega) (by omega)
        · have hj : j < en.1.length := by
            have z := (List.getElem?_eq_some_iff.mp hd2).1
            simpa [rng] using z
          rw [rng_map, List.getElem?_map, List.getElem?_range hj] at hd2
          rw [List.getElem?_map, List.getElem?_range hj] at ho2
          cases hd2
          cases ho2
          refine ev_d (ev_sls (ev_v (i := 4) (ρ := rS en.1) rfl fun _ => hx.ex e2) ep0 (ep1 (i := (j : Int)) (ev_v (i := 6) rfl fun _ => ?_)) (by omega)) (by rw [cutL_hi] <;> rfl)
          have z : Im G2 y (.int (0 + (j : Int))) := hy
          rw [Int.zero_add] at z
          exact z
    · obtain ⟨lb, xb, rfl, _, hlb, hib⟩ := hv5
      have kz : (es.map fun e => (List.range e.1.length).map fun n => (Sum.inr (T (e.1.take n)) : Key)).flatten.length ≤ 90 := by
        have z := flat_most (m := 3) (es.map fun e => (List.range e.1.length).map fun n => (Sum.inr (T (e.1.take n)) : Key)) fun y hy => by
          obtain ⟨e, he, rfl⟩ := List.mem_map.mp hy
          rw [List.length_map, List.length_range]
          exact w3 e he
        rw [List.length_map] at z
        have := oe.most
        omega
      have alls : ∀ k ∈ (es.map fun e => (List.range e.1.length).map fun n => (Sum.inr (T (e.1.take n)) : Key)).flatten, ∃ z, k = Sum.inr z := fun k hk => by
        obtain ⟨l, hl, hk⟩ := List.mem_flatten.mp hk
        obtain ⟨e, _, rfl⟩ := List.mem_map.mp hl
        obtain ⟨n, _, rfl⟩ := List.mem_map.mp hk
        exact ⟨_, rfl⟩
      have eds : (es.map fun e => (List.range e.1.length).map fun n => eS (e.1.take n)).flatten = ((es.map fun e => (List.range e.1.length).map fun n => (Sum.inr (T (e.1.take n)) : Key)).flatten).map kD := by
        rw [List.map_flatten, List.map_map]
        congr 1
        refine List.map_congr_left fun e _ => ?_
        show _ = ((List.range e.1.length).map fun n => (Sum.inr (T (e.1.take n)) : Key)).map kD
        rw [List.map_map] <;> rfl
      generalize (es.map fun e => (List.range e.1.length).map fun n => (Sum.inr (T (e.1.take n)) : Key)).flatten = kl at kz alls eds
      refine w_slot (b4.mono e5) E E.slBegun (ρ := rTT) (ev_tupleS (ks := allS kl) E.tup (ev_sortSt rfl E.srt hr.units (ev_set kl rfl E.set (ev_v (i := 5) (ρ := rL _) rfl fun _ => ⟨lb, xb, rfl, hlb, hib⟩) eds (by omega)) (by have := allS_le kl; omega) fun ks' pk => ?_)) (ev_v (i := 0) rfl fun _ => rfl) fun v6 H6 G6 e6 hv6 b6 tu6 kp6 => ?_
      · have al : ∀ d ∈ ks'.map kD, ∃ z, d = PyData.str z := fun d hd => by
          obtain ⟨k, hk, rfl⟩ := List.mem_map.mp hd
          obtain ⟨z, rfl⟩ := alls k (allS_mem.mp (pk.mem_iff.mp hk))
          exact ⟨z, rfl⟩
        refine ⟨fun d hd d' hd' => ?_, .inr fun d hd => ?_⟩
        · obtain ⟨z, rfl⟩ := al d hd
          obtain ⟨z', rfl⟩ := al d' hd'
          simp [PySem.W.alike]
        · obtain ⟨z, rfl⟩ := al d hd
          exact ⟨by simp, by simp⟩
      · have G6a : G6 a = some (SlX.SlO a (He.ga K "Table") dx (SlX.putS 0 v6 (SlX.putS 1 (.ref dw) (SlX.putS 2 (.str (T (srtS sg))) [])))) ∧ G6 dx = some (.xd []) := by
          rcases b6.slt with ⟨_, z⟩ | z
          · have z1 := congrArg (fun l => l[0]?) z
            rw [show (SlX.putS 0 v6 (SlX.putS 1 (V.ref dw) (SlX.putS 2 (V.str (T (srtS sg))) [])))[0]? = some (some v6) from SlX.putS_get _ _ _] at z1
            cases z1
          · exact z
        refine w_end (q G6 b6.ex ⟨a, dx, _, dw, kvs4, _, rfl, G6a.1, G6a.2, ?_, ?_, kp6 _ _ (e6 _ _ (e5 _ _ hdw4)), ((dw4.ex (tu_ex (e5.trans e6))).ex tu6), has, tabK_nd ndk, fun p hp => by
          obtain ⟨z, _, rfl⟩ := List.mem_map.mp hp
          exact ⟨_, rfl⟩⟩)
        · exact (SlX.putS_ne (by decide)).mpr ((SlX.putS_ne (by decide)).mpr (SlX.putS_get _ _ _))
        · exact (SlX.putS_ne (by decide)).mpr (SlX.putS_get _ _ _)) (fun _ _ _ _ _ _ us hl => match us, hl with | [_, _, _], _ => rfl)
end
section
variable {X : Cx} {σ : L2.St} {H H' : Hp} {e a b c o : Expr} {es : List Expr} {pos p p2 apos : Pos} {w : World} {k : Nat}
/-- Table(signs, entries) -/
theorem ev_mkT {sg : List Nat} {en : List En1} {f : Fn} (E : En w X.K X.mg X.base) (C : CalF X.prog X.w X.K X.mg X.base (He.fAd X.K ("Table", some "__init__")) 7 [] (p_Table_init X.K)) (hr : Room k X.A) (hk : 8 ≤ k) (ha : Ev X a σ H (rS sg)) (hb : Ev X b σ H (rQ (en.map eE))) (os : OkSg sg) (oe : OkEs sg en) (fe : FnEs f en)
    (hg : Gl X "Table" := by rfl) (he : starEach [a, b] X.env = (false, eval a X.env) :: starEach [b] X.env := by rfl) (he2 : starEach [b] X.env = (false, eval b X.env) :: starEach [] X.env := by rfl) (hpl : (backTo pos (starEach [b] X.env)).any (·.1) = false := by rfl) :
    Ev X (.Call (.Name "Table" p) [a, b] [] pos) σ H (rTb X.K sg f) := fun H1 e1 Q q => by
  obtain ⟨fd, ps, ds, F, hB, hV⟩ := C
  refine ⟨_, pe_make E.mkT F (hr.mono hk) hg (E.glo 22) hB hV pass0 wa_ok (by decide) he hpl, eac ha (eac hb ea0 he2) he H1 e1 _ fun vs H2 e2 hv x dx hx hdx hne => ?_⟩
  obtain ⟨v1, v2, rfl, h1, h2⟩ := two_arg hv
  have n1 : Ex H2 (upd (upd H2 dx (.own x)) x (.ins (He.ga X.K "Table") dx [])) := (Ex.new hdx).trans (Ex.new (by rw [upd_ne hne.symm]; exact hx))
  refine ⟨x, dx, v1, v2, sg, en, f, rfl, hne, upd_same, by rw [upd_ne hne, upd_same], (rS sg).m n1 h1, (rQ _).m n1 h2, os, oe, fe, fun H' eH hT => ⟨rfl, q _ H' (e2.trans fun c u z => eH c u ?_) hT⟩⟩
  have c1 : c ≠ x := fun q => by rw [q, hx] at z; cases z
  have c2 : c ≠ dx := fun q => by rw [q, hdx] at z; cases z
  rw [off_ne c2, off_ne c1, upd_ne c1, upd_ne c2]
  exact z
end
/-! ### Table.__eq__ -/
section
variable {X : Cx} {σ : L2.St} {H H' : Hp} {e a b c o : Expr} {es : List Expr} {pos p p2 apos : Pos} {w : World} {k : Nat}
theorem ev_glo {x : Str} {C : Addr} (hm : X.mg x = some (.ref C)) (hg : Gl X x := by rfl) (hdb : (x == ("__debug__" : Str)) = false := by decide) : Ev X (.Name x pos) σ H (rV (.ref C)) := fun H1 e1 Q q => ⟨_, pe_glob hg hm (v := .ref C) rfl hdb, q _ H1 (Ex.refl H1) rfl⟩
theorem ev_slotV {q dx : Addr} {vs : List (Option V)} {f : Str} {i : Nat} {v : V} (E : En w X.K X.mg X.base) (sl : SlX.Slot1 X.K (He.ga X.K "Table") f (prA X.K "Table" f) i) (ha : Ev X a σ H (rV (.ref q))) (h1 : H q = some (SlX.SlO q (He.ga X.K "Table") dx vs)) (h2 : H dx = some (.xd [])) (h3 : vs[i]? = some (some v))
    (hb : attributeBase a f X.env (eval a X.env) = eval a X.env := by rfl) : Ev X (.Attribute a f pos) σ H (rV v) := fun H1 e1 Q g =>
  ⟨_, SlX.pe_sl we_ok hb, ha H1 e1 _ fun x H2 e2 hx => by
    have hx : x = .ref q := hx
    subst hx
    exact ⟨q, _, dx, _, vs, i, v, rfl, .inr ⟨(e1.trans e2) _ _ h1, (e1.trans e2) _ _ h2⟩, E.scls, sl, h3, g _ H2 e2 rfl⟩⟩
/-- isinstance(x, Table) of a table -/
theorem ev_isTb {q dx : Addr} {vs : List (Option V)} (E : En w X.K X.mg X.base) (ha : Ev X a σ H (rV (.ref q))) (h1 : H q = some (SlX.SlO q (He.ga X.K "Table") dx vs)) (h2 : H dx = some (.xd [])) (hg : Gl X "isinstance" := by rfl) (hgt : Gl X "Table" := by rfl)
    (he : starEach [a, .Name "Table" p2] X.env = (false, eval a X.env) :: starEach [.Name "Table" p2] X.env := by rfl) (he2 : starEach [.Name "Table" p2] X.env = (false, eval (.Name "Table" p2) X.env) :: starEach [] X.env := by rfl)
    (hpl : (backTo pos (starEach [.Name "Table" p2] X.env)).any (·.1) = false := by rfl) : Ev X (.Call (.Name "isinstance" p) [a, .Name "Table" p2] [] pos) σ H (rB true) :=
  ev_cb (SlX.call_isiSl (.ref (He.ga X.K "Table"))) E.isi (by decide +kernel) (eac ha (eac (ev_glo (E.glo 22) hgt) ea0 he2) he) (fun S vs H2 Q e1 e2 hv g => by
    obtain ⟨v, w, rfl, r1, r2⟩ := two_arg hv
    have r1 : v = .ref q := r1
    have r2 : w = .ref _ := r2
    subst r1 r2
    exact ⟨q, _, dx, _, _, true, rfl, rfl, fun _ z => z, .inr ⟨(e1.trans e2) _ _ h1, (e1.trans e2) _ _ h2⟩, E.scls, sisiB_ok (E.exi 7), of_decide_eq_true (E.exi 9), g.at (.bl _)⟩) hg (by decide) (by decide) he hpl
end
theorem dk_self {K : Frag} {H : Hp} {kvs : List (Key × V)} {ks : Kd} (dk : DkR H kvs ks) (hnd : NdK ks) : ∀ p ∈ kvs, ∃ u, valV kvs p.1 = some u ∧ EqV K H 1 p.2 u := by
  obtain ⟨nd, hu⟩ := hnd
  have nk : (kvs.map (·.1)).Nodup := by
    rw [dk.keys]
    exact nd
  have ref : ∀ {kvs : List (Key × V)} {ks : Kd}, DkR H kvs ks → (∀ p ∈ ks, ∃ us, p.2 = eUs us) → ∀ p ∈ kvs, ∃ q, p.2 = .ref q := by
    intro kvs ks h
    induction h with
    | nil => exact fun _ p hp => by cases hp
    | cons r t ih =>
      intro hu p hp
      rcases List.mem_cons.mp hp with rfl | hp
      · obtain ⟨us, e⟩ := hu _ (List.mem_cons_self ..)
        obtain ⟨_, r2⟩ := r
        rw [e] at r2
        obtain ⟨q, _, z, _⟩ := Im.etup r2
        exact ⟨q, z⟩
      · exact ih (fun p hp => hu p (List.mem_cons_of_mem _ hp)) p hp
  intro p hp
  obtain ⟨q, hq⟩ := ref dk hu p hp
  have val : valV kvs p.1 = some p.2 := by
    clear ref dk hq hu
    induction kvs with
    | nil => cases hp
    | cons r kvs ih =>
      rw [List.map_cons, List.nodup_cons] at nk
      unfold valV
      rw [List.find?_cons]
      rcases List.mem_cons.mp hp with rfl | hp
      · rw [decide_eq_true rfl] <;> rfl
      · rw [decide_eq_false fun z => nk.1 (List.mem_map.mpr ⟨p, hp, z.symm⟩)]
        exact ih nk.2 hp
  exact ⟨p.2, val, .inr (.inl ⟨q, hq, hq⟩)⟩
section
variable {P : Program} {w : World} {K : Frag} {mg : Str → Option Value} {base : Heap}
def p_Table_eq (K : Frag) : Sp := fun vs H Q _ => ∃ (a : Addr) (sg : List Nat) (f : Fn), vs = [.ref a, .ref a] ∧ (rTb K sg f).r H (.ref a) H ∧ Go (rB true) H Q
theorem mk_Table_eq (E : En w K mg base) : CalF P w K mg base (He.fAd K ("Table", some "__eq__")) 1 [] (p_Table_eq K) :=
  calF_of E D_Table___eq__ 11 sc_Table___eq__ (fun vs H Q EE h => by obtain ⟨a, sg, f, rfl, _⟩ := h; rfl) (fun cdv Ar outer s H vs Q EE hr h => by
    obtain ⟨a, sg, f, rfl, hT, q⟩ := h
    have xT : ∀ S, (rTb K sg f).r S (.ref a) H := fun _ => hT
    obtain ⟨a', dx, vl, dw, kvs, ks, ea, h1, h2, h3, h4, h5, h6, h7, h8⟩ := hT
    cases ea
    exact w_ret (ev_d (ev_and (ev_isTb E (ev_v (i := 1) rfl fun _ => rfl) h1 h2) fun _ => ev_and (ev_cmp op_eq (ev_signs E (ev_v (i := 0) rfl xT)) (ev_signs E (ev_v (i := 1) rfl xT)) r_eqs (nomark _)) fun _ => ev_one (ev_cmp (op_eqV hr.units) (ev_slotV E E.slKnown (ev_v (i := 0) rfl fun _ => rfl) h1 h2 h4) (ev_slotV E E.slKnown (ev_v (i := 1) rfl fun _ => rfl) h1 h2 h4) (ρ := rB true) (fun S x y H2 Q e1 e2 hx hy g => by
      have hx : x = .ref dw := hx
      have hy : y = .ref dw := hy
      subst hx hy
      exact ⟨1, by decide, .inr ⟨dw, dw, kvs, kvs, rfl, rfl, (e1.trans e2) _ _ h5, (e1.trans e2) _ _ h5, rfl, dk_self (h6.ex (tu_ex (e1.trans e2))) h8⟩, g.at (.bl _)⟩) (nomark _))) (by rw [decide_eq_true rfl] <;> rfl)) q) (fun _ _ _ _ _ _ us hl => match us, hl with | [_, _], _ => rfl)
end
end Lk

set_option maxHeartbeats 1000000
/-! Shelves: fields, methods, properties. -/
namespace Lk
open PySem PySem.Spec PyProof.Rows L2
open Evl (Ex)
section
variable {P : Program} {w : World} {K : Frag} {mg : Str → Option Value} {base : Heap}
theorem En.clsS (E : En w K mg base) : Cls K (He.ga K "Shelf") := He.cls_ok (E.fa _ (List.mem_of_getElem? (i := 93) rfl))
theorem En.mkS (E : En w K mg base) : Mk K (He.ga K "Shelf") (He.fAd K ("Shelf", some "__init__")) := He.mkr_ok (E.fa (.mkr "Shelf") (List.mem_of_getElem? (i := 94) rfl))
theorem En.noS (E : En w K mg base) (i : Nat) {f : Str} (h : fas[i]? = some (.noat "Shelf" f) := by rfl) : NoAttr K (He.ga K "Shelf") f := He.noat_ok (E.fa _ (List.mem_of_getElem? h))
theorem En.meS (E : En w K mg base) (i : Nat) {m : Str} (h : fas[i]? = some (.meth "Shelf" m) := by rfl) : Meth K (He.ga K "Shelf") m (He.fAd K ("Shelf", some m)) := He.meth_ok (E.fa _ (List.mem_of_getElem? h))
theorem En.prS (E : En w K mg base) (i : Nat) {f : Str} (h : (exs K)[i]? = some (propB K "Shelf" f) := by rfl) : PropOf K (He.ga K "Shelf") f (prA K "Shelf" f) (pgA K "Shelf" f) := propB_ok (E.exi i h)
/-- a def with defaults: the first j are not filled up -/
theorem calF_ofD (E : En w K mg base) (d : He.DefD) {N ps : List Str} {k : Nat} {sp : Sp} (i : Nat) (S : FnScope N ps d.scope) (len : ∀ vs H Q E, sp vs H Q E → vs.length = ps.length)
    (body : ∀ (cdv : Value) (A : Around) (outer : List Env) (s : Shared) (H : Hp) (vs : List V) (Q : VK) (E : XK), Room k (A.deeper (envOfC d.qual d.scope s.heap.objs.size (He.fAd K d.at_) cdv)) → sp vs H Q E →
      Wm (Bx P w K mg base N d cdv A outer s H E) d.body { nx := fun _ H' => Q .non H', rt := Q } (start N vs) H) (dvs : List V) (n j : Nat) (hn : n + (dvs.length - j) = ps.length)
    (hb : ∀ (T : Addr) (kV doc pm : Value) (an : Option Addr) (cdv ct : Value) (us its : List Value), us.length = n → its.length = dvs.length →
      ∃ k, bindArgs (PySem.W.fnOf d.name d.qual d.params d.body d.scope (.ref T) kV doc pm an cdv ct) ⟨us, []⟩ = seqItems? (.ref T) >>= k ∧ k (some its.toArray) = pure (ps.zip (us ++ its.drop j)))
    (h0 : dvs ≠ []) (hd : fnl[i]? = some d := by rfl) (h1 : d.kwd = [] := by rfl) (h2 : d.dvs K = dvs := by rfl) : CalF P w K mg base (He.fAd K d.at_) (k + 1) (dvs.drop j) sp := by
  obtain ⟨fd, F⟩ := E.fn d (List.mem_of_getElem? hd)
  have e1 : d.kws K = [] := by rw [He.DefD.kws, h1] <;> rfl
  rw [h2, e1] at F
  obtain ⟨ds, v1, v2⟩ := F.binds1 n j h0 hn hb
  refine ⟨fd, ps, ds, F.ok S len fun cdv A outer s H vs Q E hr h => ?_, v2, v1⟩
  obtain ⟨t, h1, h2⟩ := body cdv A outer s H vs Q E hr h
  exact ⟨t, h1.nox, h2⟩
/-- a getter -/
theorem calG_of (E : En w K mg base) (d : DefA) {N ps : List Str} {k : Nat} {sp : Sp} (i : Nat) (S : FnScope N ps d.scope) (len : ∀ vs H Q E, sp vs H Q E → vs.length = ps.length)
    (body : ∀ (cdv : Value) (A : Around) (outer : List Env) (s : Shared) (H : Hp) (vs : List V) (Q : VK) (E : XK), Room k (A.deeper (envOfC d.qual d.scope s.heap.objs.size (d.ad K) cdv)) → sp vs H Q E →
      Wm (cxOf CX0 P w K mg base N d.qual d.scope (d.ad K) cdv A outer s H E).nox d.body { nx := fun _ H' => Q .non H', rt := Q } (start N vs) H)
    (hb : ∀ (kV doc pm : Value) (an : Option Addr) (cdv ct : Value) (us : List Value), us.length = ps.length → bindArgs (PySem.W.fnOf d.name d.qual d.params d.body d.scope .none kV doc pm an cdv ct) ⟨us, []⟩ = pure (ps.zip us))
    (hd : gts[i]? = some d := by rfl) (h0 : d.dfl = [] := by rfl) : CalF P w K mg base (d.ad K) (k + 1) [] sp := by
  obtain ⟨fd, F⟩ := E.gt d (List.mem_of_getElem? hd)
  rw [h0] at F
  refine ⟨fd, ps, [], F.ok S len fun cdv A outer s H vs Q E hr h => ?_, F.bindsN hb, .nil⟩
  obtain ⟨t, h1, h2⟩ := body cdv A outer s H vs Q E hr h
  exact ⟨t, h1.nox, h2⟩
end
section
variable {X : Cx} {σ : L2.St} {H H' : Hp} {e a b c o : Expr} {es : List Expr} {pos pos' p p2 apos : Pos} {ρ ρ1 ρ2 ρ3 : Rp} {ρs : Rps} {D : Ends} {rest : List Stmt} {w : World} {k k' : Nat} {f m : Str} {dvs : List V} {sp : Sp} {Q : VK}
/-! fields -/
theorem ev_fld {q dx C : Addr} {fs : List (Str × V)} {v : V} (c : Cls X.K C) (n : NoAttr X.K C f) (ha : Ev X a σ H (rV (.ref q))) (h1 : H q = some (.ins C dx fs)) (h2 : fs.lookup f = some v) (hb : attributeBase a f X.env (eval a X.env) = eval a X.env := by rfl) :
    Ev X (.Attribute a f pos) σ H (rV v) := fun H1 e1 Q g =>
  ⟨_, pe_fld we_ok hb, ha H1 e1 _ fun x H2 e2 hx => by
    have hx : x = .ref q := hx
    subst hx
    exact ⟨q, C, dx, fs, v, rfl, (e1.trans e2) _ _ h1, c, n, h2, g _ H2 e2 rfl⟩⟩
theorem w_fld {q dx C : Addr} {fs : List (Str × V)} (c : Cls X.K C) (n : NoAttr X.K C f) (he : Ev X e σ H ρ) (ho : Ev X o σ H (rV (.ref q))) (h1 : H q = some (.ins C dx fs)) (hz : fs.length < 1000) (k : ∀ v H1, Ex H H1 → ρ.r H v H1 → Wm X rest D σ (upd H1 q (.ins C dx (putF f v fs))))
    (hs : swapsWith e (some (.Attribute o f pos')) pos.line X.env = pure false := by rfl) : Wm X (.Assign [.Attribute o f pos'] e pos :: rest) D σ H :=
  w_cons ⟨_, ps_fld we_ok we_ok hs, he H (Ex.refl H) _ fun v H1 e1 hv => ho H1 e1 _ fun x H2 e2 hx => by
    have hx : x = .ref q := hx
    subst hx
    exact ⟨q, C, dx, fs, rfl, (e1.trans e2) _ _ h1, c, n, hz, k v H2 (e1.trans e2) (ρ.m e2 hv)⟩⟩
/-! methods -/
theorem we_meth {C g : Addr} (c : Cls X.K C) (hm : Meth X.K C m g) (F : CalF X.prog X.w X.K X.mg X.base g k dvs sp) (hr : Room k' X.A) {q dx : Addr} {fs : List (Str × V)} (ha : Ev X a σ H (rV (.ref q))) (h1 : H q = some (.ins C dx fs)) (h2 : fs.lookup m = none)
    (hes : ∀ H1, Ex H H1 → Wa X (e :: es) σ H1 fun vs H2 => sp (.ref q :: (vs ++ dvs)) H2 Q E0) (hk : k ≤ k' := by decide)
    (hB : ∀ {fd : FuncData} {ps : List Str} {ds : List Value}, Cls X.K C → Meth X.K C m g → FnOk X.prog X.w X.K X.mg X.base CX0 k g fd ps sp → Room k X.A → Binds X.K fd ps ds → Vals dvs ds → PE X (.Call (.Attribute a m apos) (e :: es) [] pos) (tMeth C m sp dvs E0 (We X a) (Wa X (e :: es))) := by
      exact fun c hm F hr hb hd => pe_meth we_ok c hm F hr hb hd pass0 wa_ok) : We X (.Call (.Attribute a m apos) (e :: es) [] pos) σ H Q := by
  obtain ⟨fd, ps, ds, F, hb, hd⟩ := F
  exact ⟨_, hB c hm F (hr.mono hk) hb hd, ha H (Ex.refl H) _ fun x H1 e1 hx => by
    have hx : x = .ref q := hx
    subst hx
    exact ⟨q, dx, fs, rfl, e1 _ _ h1, h2, hes H1 e1⟩⟩
theorem we_meth0 {C g : Addr} (c : Cls X.K C) (hm : Meth X.K C m g) (F : CalF X.prog X.w X.K X.mg X.base g k dvs sp) (hr : Room k' X.A) {q dx : Addr} {fs : List (Str × V)} (ha : Ev X a σ H (rV (.ref q))) (h1 : H q = some (.ins C dx fs)) (h2 : fs.lookup m = none)
    (hes : ∀ H1, Ex H H1 → sp (.ref q :: dvs) H1 Q E0) (hk : k ≤ k' := by decide)
    (hB : ∀ {fd : FuncData} {ps : List Str} {ds : List Value}, Cls X.K C → Meth X.K C m g → FnOk X.prog X.w X.K X.mg X.base CX0 k g fd ps sp → Room k X.A → Binds X.K fd ps ds → Vals dvs ds → PE X (.Call (.Attribute a m apos) [] [] pos) (tMeth C m sp dvs E0 (We X a) tNil) := by
      exact fun c hm F hr hb hd => pe_meth0 we_ok c hm F hr hb hd pass0) : We X (.Call (.Attribute a m apos) [] [] pos) σ H Q := by
  obtain ⟨fd, ps, ds, F, hb, hd⟩ := F
  exact ⟨_, hB c hm F (hr.mono hk) hb hd, ha H (Ex.refl H) _ fun x H1 e1 hx => by
    have hx : x = .ref q := hx
    subst hx
    exact ⟨q, dx, fs, rfl, e1 _ _ h1, h2, hes H1 e1⟩⟩
theorem we_prop {C p g : Addr} (c : Cls X.K C) (hp : PropOf X.K C f p g) (F : CalF X.prog X.w X.K X.mg X.base g k dvs sp) (hr : Room k' X.A) {q dx : Addr} {fs : List (Str × V)} (ha : Ev X a σ H (rV (.ref q))) (h1 : H q = some (.ins C dx fs))
    (hes : ∀ H1, Ex H H1 → sp (.ref q :: dvs) H1 Q E0) (hk : k + 1 ≤ k' := by decide) (hb : attributeBase a f X.env (eval a X.env) = eval a X.env := by rfl) : We X (.Attribute a f pos) σ H Q := by
  obtain ⟨fd, ps, ds, F, hbi, hd⟩ := F
  exact ⟨_, pe_prop we_ok c hp F (hr.mono hk) hbi hd pass0 hb, ha H (Ex.refl H) _ fun x H1 e1 hx => by
    have hx : x = .ref q := hx
    subst hx
    exact ⟨q, dx, fs, rfl, e1 _ _ h1, hes H1 e1⟩⟩
end
/-! ### what a shelf is -/
structure Pe where
  tv : Addr
  f : Fn
  s : Int
  ts : List (List Nat)
structure OkP (sg : List Nat) (p : Pe) : Prop where
  f : OkF sg p.f
  s : OkS p.s
  t : ∀ t ∈ p.ts, OkT sg t
  most : p.ts.length ≤ 200
def shF (t : Addr) (s : Int) (x p : V) : List (Str × V) := [("own_table", .ref t), ("own_strength", .int s), ("own_texts", x), ("own_past", p)]
def PsR (K : Frag) (H : Hp) (sg : List Nat) : List V → List Pe → Prop := Paired fun v (p : Pe) => ∃ q t, v = .ref q ∧ H q = some (.tup [.ref p.tv, .int p.s, t]) ∧ (rTN (p.ts.map eS)).r H t H ∧ (rTb K sg p.f).r H (.ref p.tv) H
structure ShP (K : Frag) (H : Hp) (sg : List Nat) (cur : Pe) (past : List Pe) (x : V) (q : Addr) (xs : List V) : Prop where
  x : (rTN (cur.ts.map eS)).r H x H
  q : H q = some (.tup xs)
  ps : PsR K H sg xs past
  tb : (rTb K sg cur.f).r H (.ref cur.tv) H
theorem rTb_S {K : Frag} {sg : List Nat} {f : Fn} {S S' H : Hp} {v : V} (h : (rTb K sg f).r S v H) : (rTb K sg f).r S' v H := h
theorem PsR.ex {K : Frag} {H H' : Hp} {sg : List Nat} (e : Ex H H') : ∀ {xs : List V} {ps : List Pe}, PsR K H sg xs ps → PsR K H' sg xs ps
  | _, _, .nil => .nil
  | _, _, .cons ⟨q, t, h1, h2, h3, h4⟩ r => .cons ⟨q, t, h1, e _ _ h2, (rTN _).m e h3, rTb_S ((rTb K sg _).m e h4)⟩ (PsR.ex e r)
theorem ShP.ex {K : Frag} {H H' : Hp} {sg : List Nat} {cur : Pe} {past : List Pe} {x : V} {q : Addr} {xs : List V} (h : ShP K H sg cur past x q xs) (e : Ex H H') : ShP K H' sg cur past x q xs := ⟨(rTN _).m e h.x, e _ _ h.q, h.ps.ex e, rTb_S ((rTb K sg _).m e h.tb)⟩
/-- the object at l is none of a table's -/
def NoT (H : Hp) (l : Addr) : Prop := ∃ u, H l = some u ∧ (∀ o v, u ≠ .frz o v) ∧ (∀ xs, u ≠ .tup xs) ∧ (∀ fs, u ≠ .xd fs) ∧ (∀ φ, u ≠ .ext φ) ∧ ∀ kvs, u = .dK kvs → ∃ p ∈ kvs, ∀ q, p.2 ≠ .ref q
theorem NoT.tup {H : Hp} {l : Addr} (n : NoT H l) : Tu H (off l H) := by
  obtain ⟨u, h, _, h1, _⟩ := n
  exact tu_off fun xs z => h1 xs (Option.some.inj (h.symm.trans z))
theorem dk_refs {H : Hp} : ∀ {kvs : List (Key × V)} {ks : Kd}, DkR H kvs ks → (∀ p ∈ ks, ∃ us, p.2 = eUs us) → ∀ p ∈ kvs, ∃ q, p.2 = .ref q
  | _, _, .nil, _, p, hp => by cases hp
  | _, _, .cons ⟨_, r2⟩ t, hu, p, hp => by
    rcases List.mem_cons.mp hp with rfl | hp
    · obtain ⟨us, e⟩ := hu _ (List.mem_cons_self ..)
      rw [e] at r2
      obtain ⟨q, _, z, _⟩ := Im.etup r2
      exact ⟨q, z⟩
    · exact dk_refs t (fun p hp => hu p (List.mem_cons_of_mem _ hp)) p hp
theorem tb_off {K : Frag} {sg : List Nat} {f : Fn} {S S' H : Hp} {v : V} {l : Addr} (h : (rTb K sg f).r S v H) (n : NoT H l) : (rTb K sg f).r S' v (off l H) := by
  obtain ⟨a, dx, vs, w, kvs, ks, h1, h2, h3, h4, h5, h6, h7, h8, h9⟩ := h
  have tu := n.tup
  obtain ⟨u, hu, _, n1, n2, n3, n4⟩ := n
  refine ⟨a, dx, vs, w, kvs, ks, h1, ?_, ?_, h4, h5, ?_, h7.ex tu, h8, h9⟩
  · rw [off_ne]
    · exact h2
    · rintro rfl
      rw [hu] at h2
      exact n3 _ (Option.some.inj h2)
  · rw [off_ne]
    · exact h3
    · rintro rfl
      rw [hu] at h3
      exact n2 _ (Option.some.inj h3)
  · rw [off_ne]
    · exact h6
    · rintro rfl
      rw [hu] at h6
      obtain ⟨p, hp, hq⟩ := n4 _ (Option.some.inj h6)
      obtain ⟨q, e⟩ := dk_refs h7 h9.2 p hp
      exact hq q e
theorem tn_off {H S S' : Hp} {ds : List PyData} {v : V} {l : Addr} (h : (rTN ds).r S v H) (n : NoT H l) : (rTN ds).r S' v (off l H) := by
  obtain ⟨q, xs, h1, h2, h3⟩ := h
  have tu := n.tup
  obtain ⟨u, hu, n0, _⟩ := n
  refine ⟨q, xs, h1, ?_, h3.tu tu⟩
  rcases h2 with ⟨h2, z⟩ | ⟨o, h2, z⟩
  · exact .inl ⟨tu _ _ h2, z⟩
  · refine .inr ⟨o, ?_, z⟩
    rw [off_ne]
    · exact h2
    · rintro rfl
      rw [hu] at h2
      exact n0 _ _ (Option.some.inj h2)
theorem PsR.off {K : Frag} {H : Hp} {sg : List Nat} {l : Addr} (n : NoT H l) : ∀ {xs : List V} {ps : List Pe}, PsR K H sg xs ps → PsR K (off l H) sg xs ps
  | _, _, .nil => .nil
  | _, _, .cons ⟨q, t, h1, h2, h3, h4⟩ r => .cons ⟨q, t, h1, n.tup _ _ h2, tn_off h3 n, tb_off h4 n⟩ (PsR.off n r)
theorem ShP.off {K : Frag} {H : Hp} {sg : List Nat} {cur : Pe} {past : List Pe} {x : V} {q : Addr} {xs : List V} {l : Addr} (h : ShP K H sg cur past x q xs) (n : NoT H l) : ShP K (off l H) sg cur past x q xs := ⟨tn_off h.x n, n.tup _ _ h.q, h.ps.off n, tb_off h.tb n⟩
theorem not_ins {H : Hp} {a C dx : Addr} {fs : List (Str × V)} (h : H a = some (.ins C dx fs)) : NoT H a := ⟨_, h, (fun _ _ z => by cases z), (fun _ z => by cases z), (fun _ z => by cases z), (fun _ z => by cases z), (fun _ z => by cases z)⟩
/-- the shelf at a -/
def ShD (K : Frag) (H : Hp) (a : Addr) (sg : List Nat) (cur : Pe) (past : List Pe) : Prop := ∃ dx x q xs, H a = some (.ins (He.ga K "Shelf") dx (shF cur.tv cur.s x (.ref q))) ∧ ShP K H sg cur past x q xs
theorem ShD.ex {K : Frag} {H H' : Hp} {a : Addr} {sg : List Nat} {cur : Pe} {past : List Pe} (h : ShD K H a sg cur past) (e : Ex H H') : ShD K H' a sg cur past := by
  obtain ⟨dx, x, q, xs, h1, h2⟩ := h
  exact ⟨dx, x, q, xs, e _ _ h1, h2.ex e⟩
end Lk

set_option maxHeartbeats 1000000
/-! The methods of shelves. -/
namespace Lk
open PySem PySem.Spec PyProof.Rows L2
open Evl (Ex)
def shG (t s : V) : List (Str × V) := [("own_table", t), ("own_strength", s)]
def shG3 (t s x : V) : List (Str × V) := [("own_table", t), ("own_strength", s), ("own_texts", x)]
theorem put_1 (t : V) : putF "own_table" t [] = [(("own_table" : Str), t)] := by rfl
theorem put_2 (t s : V) : putF "own_strength" s [(("own_table" : Str), t)] = shG t s := by rfl
theorem put_3 (t s x : V) : putF "own_texts" x (shG t s) = shG3 t s x := by rfl
theorem put_4 (t : Addr) (s : Int) (x p : V) : putF "own_past" p (shG3 (.ref t) (.int s) x) = shF t s x p := by rfl
theorem put_past (t : Addr) (s : Int) (x p v : V) : putF "own_past" v (shF t s x p) = shF t s x v := by rfl
theorem put_texts (t : Addr) (s : Int) (x p v : V) : putF "own_texts" v (shF t s x p) = shF t s v p := by rfl
theorem put_str (t : Addr) (s s' : Int) (x p : V) : putF "own_strength" (.int s') (shF t s x p) = shF t s' x p := by rfl
theorem put_tab (t t' : Addr) (s : Int) (x p : V) : putF "own_table" (.ref t') (shF t s x p) = shF t' s x p := by rfl
theorem lk_tab (t : Addr) (s : Int) (x p : V) : (shF t s x p).lookup ("own_table" : Str) = some (.ref t) := by rfl
theorem lk_str (t : Addr) (s : Int) (x p : V) : (shF t s x p).lookup ("own_strength" : Str) = some (.int s) := by rfl
theorem lk_txt (t : Addr) (s : Int) (x p : V) : (shF t s x p).lookup ("own_texts" : Str) = some x := by rfl
theorem lk_pst (t : Addr) (s : Int) (x p : V) : (shF t s x p).lookup ("own_past" : Str) = some p := by rfl
section
variable {X : Cx} {σ : L2.St} {H H' : Hp} {e a b c o : Expr} {es : List Expr} {pos pos' p p2 apos : Pos} {D : Ends} {rest : List Stmt} {w : World} {k k' : Nat} {q dx qp : Addr} {t : Addr} {s : Int} {x pv : V} {sg : List Nat} {cur : Pe} {past : List Pe} {xs : List V}
theorem ev_ot (E : En w X.K X.mg X.base) (ha : Ev X a σ H (rV (.ref q))) (h1 : H q = some (.ins (He.ga X.K "Shelf") dx (shF cur.tv cur.s x (.ref qp)))) (h2 : ShP X.K H sg cur past x qp xs) (hb : attributeBase a "own_table" X.env (eval a X.env) = eval a X.env := by rfl) : Ev X (.Attribute a "own_table" pos) σ H (rTb X.K sg cur.f) :=
  (ev_fld E.clsS (E.noS 96) ha h1 (lk_tab ..) hb).imp fun S v H1 e1 e2 hv => by
    have hv : v = .ref cur.tv := hv
    subst hv
    exact rTb_S ((rTb X.K sg cur.f).m (e1.trans e2) h2.tb)
theorem ev_otV (E : En w X.K X.mg X.base) (ha : Ev X a σ H (rV (.ref q))) (h1 : H q = some (.ins (He.ga X.K "Shelf") dx (shF cur.tv cur.s x (.ref qp)))) (hb : attributeBase a "own_table" X.env (eval a X.env) = eval a X.env := by rfl) : Ev X (.Attribute a "own_table" pos) σ H (rV (.ref cur.tv)) :=
  ev_fld E.clsS (E.noS 96) ha h1 (lk_tab ..) hb
theorem ev_os (E : En w X.K X.mg X.base) (ha : Ev X a σ H (rV (.ref q))) (h1 : H q = some (.ins (He.ga X.K "Shelf") dx (shF cur.tv cur.s x (.ref qp)))) (hb : attributeBase a "own_strength" X.env (eval a X.env) = eval a X.env := by rfl) : Ev X (.Attribute a "own_strength" pos) σ H (rI cur.s) :=
  (ev_fld E.clsS (E.noS 97) ha h1 (lk_str ..) hb).imp fun S v H1 e1 e2 hv => by
    have hv : v = .int cur.s := hv
    subst hv
    exact .int _
theorem ev_ox (E : En w X.K X.mg X.base) (ha : Ev X a σ H (rV (.ref q))) (h1 : H q = some (.ins (He.ga X.K "Shelf") dx (shF cur.tv cur.s x (.ref qp)))) (h2 : ShP X.K H sg cur past x qp xs) (hb : attributeBase a "own_texts" X.env (eval a X.env) = eval a X.env := by rfl) : Ev X (.Attribute a "own_texts" pos) σ H (rTN (cur.ts.map eS)) :=
  (ev_fld E.clsS (E.noS 98) ha h1 (lk_txt ..) hb).imp fun S v H1 e1 e2 hv => by
    have hv : v = x := hv
    subst hv
    exact (rTN _).m (e1.trans e2) h2.x
theorem ev_oxV (E : En w X.K X.mg X.base) (ha : Ev X a σ H (rV (.ref q))) (h1 : H q = some (.ins (He.ga X.K "Shelf") dx (shF cur.tv cur.s x (.ref qp)))) (hb : attributeBase a "own_texts" X.env (eval a X.env) = eval a X.env := by rfl) : Ev X (.Attribute a "own_texts" pos) σ H (rV x) :=
  ev_fld E.clsS (E.noS 98) ha h1 (lk_txt ..) hb
theorem ev_opV (E : En w X.K X.mg X.base) (ha : Ev X a σ H (rV (.ref q))) (h1 : H q = some (.ins (He.ga X.K "Shelf") dx (shF cur.tv cur.s x (.ref qp)))) (hb : attributeBase a "own_past" X.env (eval a X.env) = eval a X.env := by rfl) : Ev X (.Attribute a "own_past" pos) σ H (rV (.ref qp)) :=
  ev_fld E.clsS (E.noS 99) ha h1 (lk_pst ..) hb
end
section
variable {P : Program} {w : World} {K : Frag} {mg : Str → Option Value} {base : Heap}
def p_Sh_init (K : Frag) : Sp := fun vs H Q _ => ∃ (a dx tv : Addr) (s : Int) (sg : List Nat) (f : Fn), vs = [.ref a, .ref tv, .int s] ∧ H a = some (.ins (He.ga K "Shelf") dx []) ∧ (rTb K sg f).r H (.ref tv) H ∧ OkS s ∧
  ∀ H', Ex (off a H) H' → ShD K H' a sg ⟨tv, f, s, []⟩ [] → Q .non H'
theorem body_Sh_init (E : En w K mg base) (cdv : Value) (Ar : Around) (outer : List Env) (s : Shared) (H : Hp) (vs : List V) (Q : VK) (EE : XK) (hr : Room 3 (Ar.deeper (envOfC D_Shelf___init__.qual D_Shelf___init__.scope s.heap.objs.size (He.fAd K D_Shelf___init__.at_) cdv))) (h : p_Sh_init K vs H Q EE) :
    Wm (Bx P w K mg base N_Shelf___init__ D_Shelf___init__ cdv Ar outer s H EE) D_Shelf___init__.body { nx := fun _ H' => Q .non H', rt := Q } (start N_Shelf___init__ vs) H := by
  obtain ⟨a, dx, tv, st, sg, f, rfl, h1, h2, ok, q⟩ := h
  have x0 : ∀ {H1 : Hp} S, (rV (.ref a)).r S (.ref a) H1 := fun _ => rfl
  refine w_do (ev_pr (mk_need_strength E) hr st ok (eac (ev_v (i := 2) (ρ := rI st) rfl fun _ => .int _) ea0)) fun H1 e1 => ?_
  refine w_fld E.clsS (E.noS 96) (ev_v (i := 1) (ρ := rV (.ref tv)) rfl fun _ => rfl) (ev_v (i := 0) rfl x0) (e1 _ _ h1) (by simp) fun v2 H2 e2 hv2 => ?_
  have hv2 : v2 = .ref tv := hv2
  subst hv2
  rw [put_1]
  refine w_fld E.clsS (E.noS 97) (ev_v (i := 2) (ρ := rV (.int st)) rfl fun _ => rfl) (ev_v (i := 0) rfl x0) upd_same (by simp) fun v3 H3 e3 hv3 => ?_
  have hv3 : v3 = .int st := hv3
  subst hv3
  rw [put_2]
  refine w_fld E.clsS (E.noS 98) ev_unitN (ev_v (i := 0) rfl x0) upd_same (by simp [shG]) fun v4 H4 e4 hv4 => ?_
  rw [put_3]
  refine w_fld E.clsS (E.noS 99) ev_unit (ev_v (i := 0) rfl x0) upd_same (by simp [shG3]) fun v5 H5 e5 hv5 => w_end ?_
  rw [put_4]
  have o2 : Ex (off a H) (upd H2 a (.ins (He.ga K "Shelf") dx [("own_table", .ref tv)])) := ex_updl (off_ex.trans (e1.trans e2))
  have o3 := ex_updl (u := .ins (He.ga K "Shelf") dx (shG (.ref tv) (.int st))) (o2.trans e3)
  have o4 := ex_updl (u := .ins (He.ga K "Shelf") dx (shG3 (.ref tv) (.int st) v4)) (o3.trans e4)
  have o5 := ex_updl (u := .ins (He.ga K "Shelf") dx (shF tv st v4 v5)) (o4.trans e5)
  obtain ⟨q5, xs5, rfl, hq5, him5⟩ := Im.etup hv5
  cases him5
  have o5' : Ex (off a H4) (upd H5 a (.ins (He.ga K "Shelf") dx (shF tv st v4 (.ref q5)))) := ex_updl ((ex_updl off_ex).trans e5)
  have n4 : ∀ {H' : Hp} {u : HO} {fs : List (Str × V)}, H' a = some (.ins (He.ga K "Shelf") dx fs) → Tu H' (upd H' a u) := fun h => tu_upd h fun _ z => by cases z
  refine q _ o5 ⟨dx, v4, q5, [], upd_same, ?_, ?_, .nil, ?_⟩
  · exact (rTN _).m o5' (tn_off (H := H4) hv4 (not_ins (e4 _ _ upd_same)))
  · exact n4 (e5 _ _ upd_same) _ _ hq5
  · exact (rTb K sg f).m o5 (tb_off h2 (not_ins h1))
theorem mk_Sh_init3 (E : En w K mg base) : CalF P w K mg base (He.fAd K ("Shelf", some "__init__")) 4 [.int 3] (p_Sh_init K) :=
  calF_ofD E D_Shelf___init__ 21 sc_Shelf___init__ (fun vs H Q EE h => by obtain ⟨a, dx, tv, s, sg, f, rfl, _⟩ := h; rfl) (fun cdv Ar outer s H vs Q EE hr h => body_Sh_init E cdv Ar outer s H vs Q EE hr h) [.int 3] 2 0 rfl
    (fun _ _ _ _ _ _ _ us its hl hi => match us, hl, its, hi with | [_, _], _, [_], _ => ⟨_, rfl, rfl⟩) (by simp)
theorem mk_Sh_init (E : En w K mg base) : CalF P w K mg base (He.fAd K ("Shelf", some "__init__")) 4 [] (p_Sh_init K) :=
  calF_ofD E D_Shelf___init__ 21 sc_Shelf___init__ (fun vs H Q EE h => by obtain ⟨a, dx, tv, s, sg, f, rfl, _⟩ := h; rfl) (fun cdv Ar outer s H vs Q EE hr h => body_Sh_init E cdv Ar outer s H vs Q EE hr h) [.int 3] 3 1 rfl
    (fun _ _ _ _ _ _ _ us its hl hi => match us, hl, its, hi with | [_, _, _], _, [_], _ => ⟨_, rfl, rfl⟩) (by simp)
end
end Lk

set_option maxHeartbeats 1000000
/-! The methods of shelves that only read. -/
namespace Lk
open PySem PySem.Spec PyProof.Rows L2
open Evl (Ex)
structure Ts where
  sg : List Nat
  cur : Pe
  past : List Pe
/-- a method that reads: the shelf, further arguments b -/
def PrS (K : Frag) {β : Type} (A : β → List Rp) (R : Ts → β → Rp) (ok : Ts → β → Prop) : Sp := fun vs H Q _ => ∃ (a : Addr) (z : Ts) (b : β) (ws : List V) (S : Hp), vs = .ref a :: ws ∧ ShD K H a z.sg z.cur z.past ∧ Ex S H ∧ (rAll (A b)).r S ws H ∧ ok z b ∧ Go (R z b) H Q
section
variable {X : Cx} {σ : L2.St} {H H' : Hp} {e a b c o : Expr} {es : List Expr} {pos pos' p p2 apos : Pos} {D : Ends} {rest : List Stmt} {w : World} {k k' : Nat} {q : Addr} {m f : Str} {β : Type} {A : β → List Rp} {R : Ts → β → Rp} {ok : Ts → β → Prop} {sg : List Nat} {cur : Pe} {past : List Pe}
theorem ev_m0 (E : En w X.K X.mg X.base) (hm : Meth X.K (He.ga X.K "Shelf") m (He.fAd X.K ("Shelf", some m))) (F : CalF X.prog X.w X.K X.mg X.base (He.fAd X.K ("Shelf", some m)) k [] (PrS X.K A R ok)) (hr : Room k' X.A) (ha : Ev X a σ H (rV (.ref q))) (hD : ShD X.K H q sg cur past) (y : β) (hA : A y = []) (hy : ok ⟨sg, cur, past⟩ y)
    (hk : k ≤ k' := by decide) (hl : ∀ t s x p, (shF t s x p).lookup m = none := by intros; rfl)
    (hB : ∀ {fd : FuncData} {ps : List Str} {ds : List Value}, Cls X.K (He.ga X.K "Shelf") → Meth X.K (He.ga X.K "Shelf") m (He.fAd X.K ("Shelf", some m)) → FnOk X.prog X.w X.K X.mg X.base CX0 k (He.fAd X.K ("Shelf", some m)) fd ps (PrS X.K A R ok) → Room k X.A → Binds X.K fd ps ds → Vals [] ds →
      PE X (.Call (.Attribute a m apos) [] [] pos) (tMeth (He.ga X.K "Shelf") m (PrS X.K A R ok) [] E0 (We X a) tNil) := by exact fun c hm F hr hb hd => pe_meth0 we_ok c hm F hr hb hd pass0) : Ev X (.Call (.Attribute a m apos) [] [] pos) σ H (R ⟨sg, cur, past⟩ y) := fun H1 e1 Q g => by
  obtain ⟨dx, x, qp, xs, h1, h2⟩ := hD.ex e1
  exact we_meth0 E.clsS hm F hr (ha.mono e1) h1 (hl ..) (fun H2 e2 => ⟨q, ⟨sg, cur, past⟩, y, [], H2, rfl, (hD.ex e1).ex e2, Ex.refl _, by rw [hA] <;> rfl, hy, g.mono e2⟩) hk hB
theorem ev_m1 {ρs : Rps} (E : En w X.K X.mg X.base) (hm : Meth X.K (He.ga X.K "Shelf") m (He.fAd X.K ("Shelf", some m))) (F : CalF X.prog X.w X.K X.mg X.base (He.fAd X.K ("Shelf", some m)) k [] (PrS X.K A R ok)) (hr : Room k' X.A) (ha : Ev X a σ H (rV (.ref q))) (hD : ShD X.K H q sg cur past) (y : β) (hes : Ea X (e :: es) σ H (rAll (A y))) (hy : ok ⟨sg, cur, past⟩ y)
    (hk : k ≤ k' := by decide) (hl : ∀ t s x p, (shF t s x p).lookup m = none := by intros; rfl)
    (hB : ∀ {fd : FuncData} {ps : List Str} {ds : List Value}, Cls X.K (He.ga X.K "Shelf") → Meth X.K (He.ga X.K "Shelf") m (He.fAd X.K ("Shelf", some m)) → FnOk X.prog X.w X.K X.mg X.base CX0 k (He.fAd X.K ("Shelf", some m)) fd ps (PrS X.K A R ok) → Room k X.A → Binds X.K fd ps ds → Vals [] ds →
      PE X (.Call (.Attribute a m apos) (e :: es) [] pos) (tMeth (He.ga X.K "Shelf") m (PrS X.K A R ok) [] E0 (We X a) (Wa X (e :: es))) := by exact fun c hm F hr hb hd => pe_meth we_ok c hm F hr hb hd pass0 wa_ok) : Ev X (.Call (.Attribute a m apos) (e :: es) [] pos) σ H (R ⟨sg, cur, past⟩ y) := fun H1 e1 Q g => by
  obtain ⟨dx, x, qp, xs, h1, h2⟩ := hD.ex e1
  refine we_meth E.clsS hm F hr (ha.mono e1) h1 (hl ..) (fun H2 e2 => hes H2 (e1.trans e2) _ fun vs H3 e3 hv => ?_) hk hB
  rw [List.append_nil]
  exact ⟨q, ⟨sg, cur, past⟩, y, vs, H2, rfl, ((hD.ex e1).ex e2).ex e3, e3, hv, hy, g.mono (e2.trans e3)⟩
theorem ev_prS {g pr : Addr} (E : En w X.K X.mg X.base) (hp : PropOf X.K (He.ga X.K "Shelf") f pr g) (F : CalF X.prog X.w X.K X.mg X.base g k [] (PrS X.K A R ok)) (hr : Room k' X.A) (ha : Ev X a σ H (rV (.ref q))) (hD : ShD X.K H q sg cur past) (y : β) (hA : A y = []) (hy : ok ⟨sg, cur, past⟩ y)
    (hk : k + 1 ≤ k' := by decide) (hb : attributeBase a f X.env (eval a X.env) = eval a X.env := by rfl) : Ev X (.Attribute a f pos) σ H (R ⟨sg, cur, past⟩ y) := fun H1 e1 Q g => by
  obtain ⟨dx, x, qp, xs, h1, h2⟩ := hD.ex e1
  exact we_prop E.clsS hp F hr (ha.mono e1) h1 (fun H2 e2 => ⟨q, ⟨sg, cur, past⟩, y, [], H2, rfl, (hD.ex e1).ex e2, Ex.refl _, by rw [hA] <;> rfl, hy, g.mono e2⟩) hk hb
end
section
variable {P : Program} {w : World} {K : Frag} {mg : Str → Option Value} {base : Heap}
abbrev OkZ (z : Ts) : Prop := OkP z.sg z.cur
abbrev p_numbers (K : Frag) : Sp := PrS K (fun _ : Unit => []) (fun z _ => rF ((orderF (keysF z.cur.f z.cur.s z.cur.ts)).map eN)) (fun z _ => OkZ z)
theorem mk_numbers (E : En w K mg base) : CalF P w K mg base (He.fAd K ("Shelf", some "numbers")) 5 [] (p_numbers K) :=
  calF_of E D_Shelf_numbers 22 sc_Shelf_numbers (fun vs H Q EE h => by obtain ⟨a, z, b, ws, S, rfl, _, _, h, _⟩ := h; cases h; rfl) (fun cdv Ar outer s H vs Q EE hr h => by
    obtain ⟨a, ⟨sg, cur, past⟩, _, ws, S, rfl, ⟨dx, x, qp, xs, h1, h2⟩, _, hw, ok, q⟩ := h
    cases hw
    have ok : OkP sg cur := ok
    exact w_ret (ev_pr (mk_order_by E) hr ⟨sg, cur.f, cur.s, cur.ts⟩ ⟨ok.f, ok.s, ok.t, Nat.le_trans ok.most (by decide)⟩ (eac (ev_ot E (ev_v (i := 0) rfl fun _ => rfl) h1 h2) (eac (ev_os E (ev_v (i := 0) rfl fun _ => rfl) h1) (eac (ev_ox E (ev_v (i := 0) rfl fun _ => rfl) h1 h2) ea0)))) q)
    (fun _ _ _ _ _ _ us hl => match us, hl with | [_], _ => rfl)
abbrev p_len (K : Frag) : Sp := PrS K (fun _ : Unit => []) (fun z _ => rI (z.cur.ts.length : Int)) (fun z _ => True)
theorem mk_len (E : En w K mg base) : CalF P w K mg base (He.fAd K ("Shelf", some "__len__")) 1 [] (p_len K) :=
  calF_of E D_Shelf___len__ 23 sc_Shelf___len__ (fun vs H Q EE h => by obtain ⟨a, z, b, ws, S, rfl, _, _, h, _⟩ := h; cases h; rfl) (fun cdv Ar outer s H vs Q EE hr h => by
    obtain ⟨a, ⟨sg, cur, past⟩, _, ws, S, rfl, ⟨dx, x, qp, xs, h1, h2⟩, _, hw, ok, q⟩ := h
    cases hw
    refine w_ret (ev_d (ev_lenN E.len (ev_ox E (ev_v (i := 0) rfl fun _ => rfl) h1 h2)) ?_) q
    rw [List.length_map]) (fun _ _ _ _ _ _ us hl => match us, hl with | [_], _ => rfl)
abbrev p_gtab (K : Frag) : Sp := fun vs H Q _ => ∃ (a : Addr) (sg : List Nat) (cur : Pe) (past : List Pe), vs = [.ref a] ∧ ShD K H a sg cur past ∧ Go (rV (.ref cur.tv)) H Q
theorem mk_gtab (E : En w K mg base) : CalF P w K mg base (pgA K "Shelf" "table") 1 [] (p_gtab K) :=
  calG_of E P_Shelf_table 0 sc_Shelf_table (fun vs H Q EE h => by obtain ⟨a, sg, cur, past, rfl, _⟩ := h; rfl) (fun cdv Ar outer s H vs Q EE hr h => by
    obtain ⟨a, sg, cur, past, rfl, ⟨dx, x, qp, xs, h1, h2⟩, q⟩ := h
    exact w_ret (ev_otV E (ev_v (i := 0) rfl fun _ => rfl) h1) q) (fun _ _ _ _ _ _ us hl => match us, hl with | [_], _ => rfl)
abbrev p_gstr (K : Frag) : Sp := PrS K (fun _ : Unit => []) (fun z _ => rI z.cur.s) (fun z _ => True)
theorem mk_gstr (E : En w K mg base) : CalF P w K mg base (pgA K "Shelf" "strength") 1 [] (p_gstr K) :=
  calG_of E P_Shelf_strength 1 sc_Shelf_strength (fun vs H Q EE h => by obtain ⟨a, z, b, ws, S, rfl, _, _, h, _⟩ := h; cases h; rfl) (fun cdv Ar outer s H vs Q EE hr h => by
    obtain ⟨a, ⟨sg, cur, past⟩, _, ws, S, rfl, ⟨dx, x, qp, xs, h1, h2⟩, _, hw, ok, q⟩ := h
    cases hw
    exact w_ret (ev_os E (ev_v (i := 0) rfl fun _ => rfl) h1) q) (fun _ _ _ _ _ _ us hl => match us, hl with | [_], _ => rfl)
/-- the texts in order -/
def lineF (f : Fn) (s : Int) (ts : List (List Nat)) : List (List Nat) := (orderF (keysF f s ts)).map fun n => ts.getD n []
theorem orderF_ts {f : Fn} {s : Int} {ts : List (List Nat)} {n : Nat} (h : n ∈ orderF (keysF f s ts)) : n < ts.length := by
  have z := orderF_lt h
  rw [keysF, List.length_map] at z
  exact z
theorem orderF_most (f : Fn) (s : Int) (ts : List (List Nat)) : (orderF (keysF f s ts)).length = ts.length := by
  rw [orderF_len, keysF, List.length_map]
theorem getD_atS {ts : List (List Nat)} {n : Nat} (h : n < ts.length) : atI (ts.map eS) (n : Int) = some (eS (ts.getD n [])) := by
  have e : ts[n]? = some (ts.getD n []) := by rw [List.getD_eq_getElem?_getD, List.getElem?_eq_getElem h] <;> rfl
  unfold atI
  rw [Evl.ixN_nat (by rw [List.length_map]; exact h)]
  show (ts.map eS)[n]? = _
  rw [List.getElem?_map, e] <;> rfl
abbrev p_gline (K : Frag) : Sp := PrS K (fun _ : Unit => []) (fun z _ => rT ((lineF z.cur.f z.cur.s z.cur.ts).map eS)) (fun z _ => OkZ z)
theorem mk_gline (E : En w K mg base) : CalF P w K mg base (pgA K "Shelf" "line") 6 [] (p_gline K) :=
  calG_of E P_Shelf_line 2 sc_Shelf_line (fun vs H Q EE h => by obtain ⟨a, z, b, ws, S, rfl, _, _, h, _⟩ := h; cases h; rfl) (fun cdv Ar outer s H vs Q EE hr h => by
    obtain ⟨a, ⟨sg, cur, past⟩, _, ws, S, rfl, hD, _, hw, ok, q⟩ := h
    cases hw
    have ok : OkP sg cur := ok
    have hD : ShD K H a sg cur past := hD
    refine w_ret (ev_tuple E.tup (ev_qf (ev_f (ev_lc (own := [("number", 1)]) (lc_all (orderF (keysF cur.f cur.s cur.ts)) eN (fun n => eS (cur.ts.getD n [])) (wk_l (ev_m0 E (E.meS 100) (mk_numbers E) hr (ev_v (i := 0) rfl fun _ => rfl) hD () rfl ok)) rfl (by rw [orderF_most]; have := ok.most; omega) fun n hn => tn_0 (j := 1) sc_Shelf_line.nd fun x H2 e2 hx s H0 C cl fp => ?_) rfl sc_Shelf_line.nd) (ds' := (lineF cur.f cur.s cur.ts).map eS) (by rw [lineF, List.map_map] <;> rfl)))) q
    obtain ⟨dx, x, qp, xs, h1, h2⟩ := hD.ex e2
    exact ev_ixN (ev_ox E (ev_v (i := 0) rfl fun _ => rfl) h1 h2) (ev_v (i := 1) rfl fun _ => hx) (getD_atS (orderF_ts hn))) (fun _ _ _ _ _ _ us hl => match us, hl with | [_], _ => rfl)
/-- the keys, sorted -/
def sortK (ks : List (List Int)) : List (List Int) := ks.mergeSort (PySem.W.dataLe false eK)
theorem sortK_perm (ks : List (List Int)) : (sortK ks).Perm ks := List.mergeSort_perm _ _
abbrev p_all_keys (K : Frag) : Sp := PrS K (fun _ : Unit => []) (fun z _ => rF ((sortK (keysF z.cur.f z.cur.s z.cur.ts)).map eK)) (fun z _ => OkZ z)
theorem mk_all_keys (E : En w K mg base) : CalF P w K mg base (He.fAd K ("Shelf", some "all_keys")) 4 [] (p_all_keys K) :=
  calF_of E D_Shelf_all_keys 27 sc_Shelf_all_keys (fun vs H Q EE h => by obtain ⟨a, z, b, ws, S, rfl, _, _, h, _⟩ := h; cases h; rfl) (fun cdv Ar outer s H vs Q EE hr h => by
    obtain ⟨a, ⟨sg, cur, past⟩, _, ws, S, rfl, hD, _, hw, ok, q⟩ := h
    cases hw
    have ok : OkP sg cur := ok
    have hD : ShD K H a sg cur past := hD
    have hD2 := hD
    obtain ⟨dx, x, qp, xs, h1, h2⟩ := hD2
    obtain ⟨qx, xx, rfl, hqx, hix⟩ := h2.x
    refine w_ret (ev_sorted (keysF cur.f cur.s cur.ts) eK E.srt hr.units (ev_l (ev_lc (own := [("text", 1)]) (lc_all cur.ts eS (fun t => eK (keyF cur.f cur.s t)) (wk_nV (ev_oxV E (ev_v (i := 0) rfl fun _ => rfl) h1) hqx.sq hix) rfl (Nat.le_trans ok.most (by decide)) fun t ht => tn_0 (j := 1) sc_Shelf_all_keys.nd fun x H2 e2 hx s H0 C cl fp => ?_) rfl sc_Shelf_all_keys.nd)) (by rw [keysF, List.map_map] <;> rfl)
      (.of alike_eK) (.inr fun d hd => by obtain ⟨k, _, rfl⟩ := List.mem_map.mp hd; exact ⟨_, rfl⟩) (by rw [keysF, List.length_map]; exact Nat.le_trans ok.most (by decide)) fun b _ => by rw [depth_eK] <;> decide) q
    obtain ⟨dx, x, qp, xs, h1, h2⟩ := hD.ex e2
    exact ev_pr (mk_key_by E) hr ⟨sg, cur.f, cur.s, t⟩ ⟨ok.f, ok.s, ok.t t ht⟩ (eac (ev_ot E (ev_v (i := 0) rfl fun _ => rfl) h1 h2) (eac (ev_os E (ev_v (i := 0) rfl fun _ => rfl) h1) (eac (ev_v (i := 1) rfl fun _ => hx) ea0)))) (fun _ _ _ _ _ _ us hl => match us, hl with | [_], _ => rfl)
abbrev p_key_here (K : Frag) : Sp := PrS K (fun t : List Nat => [rS t]) (fun z t => rD (eK (keyF z.cur.f z.cur.s t))) (fun z t => OkZ z ∧ OkT z.sg t)
theorem mk_key_here (E : En w K mg base) : CalF P w K mg base (He.fAd K ("Shelf", some "key_here")) 4 [] (p_key_here K) :=
  calF_of E D_Shelf_key_here 28 sc_Shelf_key_here (fun vs H Q EE h => by obtain ⟨a, z, b, ws, S, rfl, _, _, h, _⟩ := h; obtain ⟨v, rfl, _⟩ := one_arg h; rfl) (fun cdv Ar outer s H vs Q EE hr h => by
    obtain ⟨a, ⟨sg, cur, past⟩, t, ws, S, rfl, hD, _, hw, ok, q⟩ := h
    obtain ⟨v, rfl, hv⟩ := one_arg hw
    obtain ⟨ok, okt⟩ : OkP sg cur ∧ OkT sg t := ok
    have hD : ShD K H a sg cur past := hD
    have hD2 := hD
    obtain ⟨dx, x, qp, xs, h1, h2⟩ := hD2
    refine w_do (ev_pr (mk_need_text E) hr ⟨sg, cur.f, t⟩ ⟨okt, ok.f.sn.most⟩ (eac (ev_ot E (ev_v (i := 0) rfl fun _ => rfl) h1 h2) (eac (ev_v (i := 1) (ρ := rS t) rfl fun _ => hv) ea0))) fun H1 e1 => ?_
    obtain ⟨dx, x, qp, xs, h1, h2⟩ := hD.ex e1
    exact w_ret (ev_pr (mk_key_by E) hr ⟨sg, cur.f, cur.s, t⟩ ⟨ok.f, ok.s, okt⟩ (eac (ev_ot E (ev_v (i := 0) rfl fun _ => rfl) h1 h2) (eac (ev_os E (ev_v (i := 0) rfl fun _ => rfl) h1) (eac (ev_v (i := 1) (ρ := rS t) rfl fun _ => Im.ex hv e1) ea0)))) (q.mono e1)) (fun _ _ _ _ _ _ us hl => match us, hl with | [_, _], _ => rfl)
abbrev p_getitem (K : Frag) : Sp := PrS K (fun i : Nat => [rI (i : Int)]) (fun z i => rS ((lineF z.cur.f z.cur.s z.cur.ts).getD i [])) (fun z i => OkZ z ∧ i < z.cur.ts.length)
theorem lineF_len (f : Fn) (s : Int) (ts : List (List Nat)) : (lineF f s ts).length = ts.length := by rw [lineF, List.length_map, orderF_most]
theorem mk_getitem (E : En w K mg base) : CalF P w K mg base (He.fAd K ("Shelf", some "__getitem__")) 8 [] (p_getitem K) :=
  calF_of E D_Shelf___getitem__ 24 sc_Shelf___getitem__ (fun vs H Q EE h => by obtain ⟨a, z, b, ws, S, rfl, _, _, h, _⟩ := h; obtain ⟨v, rfl, _⟩ := one_arg h; rfl) (fun cdv Ar outer s H vs Q EE hr h => by
    obtain ⟨a, ⟨sg, cur, past⟩, i, ws, S, rfl, hD, _, hw, ok, q⟩ := h
    obtain ⟨v, rfl, hv⟩ := one_arg hw
    obtain ⟨ok, oki⟩ : OkP sg cur ∧ i < cur.ts.length := ok
    have hD : ShD K H a sg cur past := hD
    have hD2 := hD
    obtain ⟨dx, x, qp, xs, h1, h2⟩ := hD2
    refine w_no (et_not (et_v (ev_among E hr (v := (i : Int)) (lo := 0) (hi := (cur.ts.length : Int) - 1) (ev_v (i := 1) rfl fun _ => hv) ev_int (ev_sub (ev_d (ev_lenN E.len (ev_ox E (ev_v (i := 0) rfl fun _ => rfl) h1 h2)) (by rw [List.length_map])) ev_int) (by omega)))) fun H1 e1 => ?_
    exact w_ret (ev_ixt (ev_prS E (E.prS 2) (mk_gline E) hr (ev_v (i := 0) rfl fun _ => rfl) (hD.ex e1) () rfl ok) (ev_v (i := 1) (ρ := rI (i : Int)) rfl fun _ => Im.ex hv e1) (getD_atS (by show i < (lineF cur.f cur.s cur.ts).length; rw [lineF_len]; exact oki))) (q.mono e1)) (fun _ _ _ _ _ _ us hl => match us, hl with | [_, _], _ => rfl)
end
end Lk

set_option maxHeartbeats 1000000
/-! The shape of data; triples; dict.get; list(d.items()). -/
namespace Lk
open PySem PySem.Spec PyProof.Rows L2
open Evl (Ex)
def Shp (n : Nat) (d : PyData) : Prop := d.canLay0 = true ∧ d.depth ≤ n
theorem shp_int (i : Int) (n : Nat) : Shp n (.int i) := ⟨rfl, by simp [PyData.depth]⟩
theorem shp_all {n : Nat} : ∀ {xs : List PyData}, (∀ x ∈ xs, Shp n x) → PyData.canLayAll0 xs = true ∧ PyData.depthAll xs ≤ n
  | [], _ => ⟨rfl, by simp [PyData.depthAll]⟩
  | x :: xs, h => by
    obtain ⟨h1, h2⟩ := h x (List.mem_cons_self ..)
    obtain ⟨i1, i2⟩ := shp_all fun y hy => h y (List.mem_cons_of_mem _ hy)
    exact ⟨by simp [PyData.canLayAll0, h1, i1], by simp only [PyData.depthAll]; omega⟩
theorem shp_tup {n : Nat} {xs : List PyData} (h : ∀ x ∈ xs, Shp n x) : Shp (n + 1) (.tuple xs) := by
  obtain ⟨h1, h2⟩ := shp_all h
  exact ⟨h1, by simp only [PyData.depth]; omega⟩
theorem shp_lst {n : Nat} {xs : List PyData} (h : ∀ x ∈ xs, Shp n x) : Shp (n + 1) (.list xs) := by
  obtain ⟨h1, h2⟩ := shp_all h
  exact ⟨h1, by simp only [PyData.depth]; omega⟩
theorem Shp.ok {n : Nat} {d : PyData} (h : Shp n d) (hn : n ≤ 64 := by decide) : SeqAt.shaped d = true := by
  unfold SeqAt.shaped
  rw [h.1, decide_eq_true (Nat.le_trans h.2 hn)] <;> rfl
theorem Shp.mono {n m : Nat} {d : PyData} (h : Shp n d) (hn : n ≤ m) : Shp m d := ⟨h.1, Nat.le_trans h.2 hn⟩
theorem shp_map {α : Type} {n : Nat} {g : α → PyData} {xs : List α} (h : ∀ x ∈ xs, Shp n (g x)) : ∀ d ∈ xs.map g, Shp n d := fun d hd => by
  obtain ⟨x, hx, rfl⟩ := List.mem_map.mp hd
  exact h x hx
theorem shp_eK (k : List Int) : Shp 1 (eK k) := shp_tup (shp_map fun i _ => shp_int i 0)
theorem eqvAll_ints : ∀ (a b : List Int), PyData.eqvAll (a.map .int) (b.map .int) = decide (a = b)
  | [], [] => rfl
  | [], _ :: _ => rfl
  | _ :: _, [] => rfl
  | x :: a, y :: b => by
    have ih := eqvAll_ints a b
    show (PyData.eqv (.int x) (.int y) && PyData.eqvAll (a.map .int) (b.map .int)) = _
    rw [ih]
    show ((x == y) && decide (a = b)) = _
    rw [Bool.eq_iff_iff]
    simp
theorem eqv_eK (a b : List Int) : PyData.eqv (eK a) (eK b) = decide (a = b) := eqvAll_ints a b
theorem eqv_nil {xs : List PyData} : PyData.eqv (.list xs) (.list []) = xs.isEmpty := by
  cases xs <;> rfl
section
variable {X : Cx} {σ : L2.St} {H H' : Hp} {e a b c o f : Expr} {es : List Expr} {pos pos' p p2 p3 apos cpos : Pos} {D : Ends} {rest : List Stmt} {w : World}
/-- a turn whose target is three names -/
theorem tg_t3 {i j k : Nat} {x y z : Str} {q : Addr} {v w u : V} {kt : Nat} (hc : X.calm = true) (hN : X.N.Nodup) (h : H q = some (.tup [v, w, u])) (hi : X.N[i]? = some x := by rfl) (hj : X.N[j]? = some y := by rfl) (hk : X.N[k]? = some z := by rfl)
    (hx : Loc X.env.scope x := by first | exact .inl rfl | exact .inr rfl) (hy : Loc X.env.scope y := by first | exact .inl rfl | exact .inr rfl) (hz : Loc X.env.scope z := by first | exact .inl rfl | exact .inr rfl)
    (hf : X.fn x = true ∨ X.env.scope.names.lookup x = some .local := by first | exact .inl rfl | exact .inr rfl) (hf2 : X.fn y = true ∨ X.env.scope.names.lookup y = some .local := by first | exact .inl rfl | exact .inr rfl) (hf3 : X.fn z = true ∨ X.env.scope.names.lookup z = some .local := by first | exact .inl rfl | exact .inr rfl) :
    Tg X (.Tuple [.Name x p, .Name y p2, .Name z p3] kt pos) (.ref q) σ H (((σ.set i (some v)).set j (some w)).set k (some u)) := fun Q g =>
  ⟨_, pg_tup hc (pgs_cons (pg_name hN hi hx hf) (pgs_cons (pg_name hN hj hy hf2) (pgs_cons (pg_name hN hk hz hf3) pgs_nil))), q, _, rfl, SqT.of h, rfl, v, _, rfl, w, _, rfl, u, _, rfl, rfl, g⟩
theorem tn_30 {i j k : Nat} {x y z : Str} {kt : Nat} {elt : Expr} {scope : Scope} {vs : List Nat} {B : Hp} {d1 d2 d3 g : PyData} (hc : X.calm = true) (hN : X.N.Nodup)
    (h : ∀ v w u H, Ex B H → Im H v d1 → Im H w d2 → Im H u d3 → Bk X scope fun Y => Ev Y elt ((((wipe σ vs).set i (some v)).set j (some w)).set k (some u)) H (rD g))
    (hiv : i ∈ vs := by decide) (hjv : j ∈ vs := by decide) (hkv : k ∈ vs := by decide) (hi : X.N[i]? = some x := by rfl) (hj : X.N[j]? = some y := by rfl) (hk : X.N[k]? = some z := by rfl)
    (hx : Bk X scope fun Y => Loc Y.env.scope x := by intro _ _ _ _ _; first | exact .inl rfl | exact .inr rfl) (hy : Bk X scope fun Y => Loc Y.env.scope y := by intro _ _ _ _ _; first | exact .inl rfl | exact .inr rfl) (hz : Bk X scope fun Y => Loc Y.env.scope z := by intro _ _ _ _ _; first | exact .inl rfl | exact .inr rfl)
    (hf : Bk X scope fun Y => Y.fn x = true ∨ Y.env.scope.names.lookup x = some .local := by intro _ _ _ _ _; first | exact .inr rfl | exact .inl rfl) (hf2 : Bk X scope fun Y => Y.fn y = true ∨ Y.env.scope.names.lookup y = some .local := by intro _ _ _ _ _; first | exact .inr rfl | exact .inl rfl)
    (hf3 : Bk X scope fun Y => Y.fn z = true ∨ Y.env.scope.names.lookup z = some .local := by intro _ _ _ _ _; first | exact .inr rfl | exact .inl rfl) :
    Tn X (.Tuple [.Name x p, .Name y p2, .Name z p3] kt pos) [] elt scope vs σ B (.tuple [d1, d2, d3]) true g := fun zz H e im => by
  obtain ⟨q, xs, rfl, h2, h3⟩ := Im.etup im
  cases h3 with
  | cons m1 h3 =>
    cases h3 with
    | cons m2 h3 =>
      cases h3 with
      | cons m3 h3 =>
        cases h3
        exact ⟨_, fun s H0 C cl fp => tg_t3 (X := X.blk s H0 scope (compEnvC scope cl C X.env) fp) hc hN h2 hi hj hk (hx s H0 C cl fp) (hy s H0 C cl fp) (hz s H0 C cl fp) (hf s H0 C cl fp) (hf2 s H0 C cl fp) (hf3 s H0 C cl fp), by rw [wipe_set hkv, wipe_set hjv, wipe_set hiv, wipe_wipe], fun _ _ _ _ _ => ets0, fun _ => h _ _ _ H e m1 m2 m3⟩
/-- d.get(k, x) -/
theorem ev_get {ks : Kd} {k : Key} {d : PyData} (hu : X.A.units + 1 < cLine) (ho : Ev X o σ H (rM ks)) (he : Ev X e σ H (rV (kV k))) (hf : Ev X f σ H (rD d)) (m : M2 X o "get" apos e f cpos := by exact ⟨rfl, rfl, rfl, rfl⟩) : Ev X (.Call (.Attribute o "get" apos) [e, f] [] cpos) σ H (rD ((lookK ks k).getD d)) := fun H1 e1 Q q =>
  ⟨_, pe_dget2 hu we_ok we_ok we_ok m, ho H1 e1 _ fun x H2 e2 h2 => by
    obtain ⟨p, kvs, rfl, h4, h5⟩ := h2
    refine ⟨p, rfl, .inl ⟨kvs, h4⟩, he H2 (e1.trans e2) _ fun y H3 e3 h3 => hf H3 ((e1.trans e2).trans e3) _ fun z H4 e4 hz => ?_⟩
    have h3 : y = kV k := h3
    subst h3
    refine ⟨_, dget_rd (Evl.ex_rd (e3.trans e4) h4), q _ H4 ((e2.trans e3).trans e4) ?_⟩
    have h6 := h5.ex (tu_ex (e3.trans e4))
    show Im H4 _ _
    cases l : lookK ks k with
    | none =>
      rw [h6.get.2 l]
      exact hz
    | some d' =>
      obtain ⟨v, v1, v2⟩ := (h6.get (k := k)).1 d' l
      rw [v1]
      exact v2⟩
/-- list(d.items()) -/
theorem ev_items {ks : Kd} {q : Addr} {kvs : List (Key × V)} (hc : X.calm = true) (hm : X.mg "list" = none) (he : Ev X e σ H (rV (.ref q))) (hq : H q = some (.dK kvs)) (hk : DkR H kvs ks) (hg : Gl X "list" := by rfl) (hbase : attributeBase e "items" X.env (eval e X.env) = eval e X.env := by rfl) (hline : (apos.endLine == cpos.line) = true := by rfl)
    (hs : starEach [.Call (.Attribute e "items" apos) [] [] cpos] X.env = (false, eval (.Call (.Attribute e "items" apos) [] [] cpos) X.env) :: starEach [] X.env := by rfl) :
    Ev X (.Call (.Name "list" p) [.Call (.Attribute e "items" apos) [] [] cpos] [] pos) σ H (rF (ks.map fun k => .tuple [kD k.1, k.2])) := fun H1 e1 Q g =>
  ⟨_, LiI.pe_listItems hc we_ok hg hm (by decide +kernel) hbase hline hs, he H1 e1 _ fun x H2 e2 hx => by
    have hx : x = .ref q := hx
    subst hx
    refine ⟨q, kvs, rfl, (e1.trans e2) _ _ hq, fun H' l ts k1 k2 k5 k6 k3 k4 => g _ H' (e2.trans fun b u z => k1 b u z) ⟨l, _, rfl, Evl.fresh_back e2 k2, k3, ?_⟩⟩
    have dk := (hk.ex (tu_ex (e1.trans e2))).ex (fun b xs z => k1 b _ z : Tu H2 H')
    clear hk hq k3 k2 k5 k6 g
    induction dk generalizing ts with
    | nil =>
      cases k4
      exact .nil
    | cons r t ih =>
      cases k4 with
      | cons s1 s2 =>
        obtain ⟨r1, r2⟩ := r
        refine .cons (.tup s1 (.cons ?_ (.one r2))) (ih _ s2)
        rw [r1]
        exact im_k _ _⟩
end
end Lk

set_option maxHeartbeats 1000000
/-! groups, headings, places_by. -/
namespace Lk
open PySem PySem.Spec PyProof.Rows L2
open Evl (Ex)
theorem Ims.set {H : Hp} {v : V} {d : PyData} (h' : Im H v d) : ∀ {ds : List PyData} {xs : List V} (j : Nat), Ims H xs ds → Ims H (xs.set j v) (ds.set j d)
  | [], _, j, h => by
    cases h
    exact .nil
  | e :: ds, _, 0, h => by
    cases h with
    | cons h1 h2 => exact .cons h' h2
  | e :: ds, _, j + 1, h => by
    cases h with
    | cons h1 h2 => exact .cons h1 (Ims.set h' j h2)
abbrev Gr := List Int × Nat × Nat
def eG (g : Gr) : PyData := .tuple [eK g.1, .int (g.2.1 : Int), .int (g.2.2 : Int)]
def gstep (acc : List Gr) (k : List Int) (i : Nat) : List Gr := match acc.getLast? with
  | some g => if g.1 = k then acc.set (acc.length - 1) (k, g.2.1, g.2.2 + 1) else acc ++ [(k, i, 1)]
  | none => acc ++ [(k, i, 1)]
def grp (ks : List (List Int)) : Nat → List Gr
  | 0 => []
  | n + 1 => match ks[n]? with
    | some k => gstep (grp ks n) k n
    | none => grp ks n
theorem gstep_len (acc : List Gr) (k : List Int) (i : Nat) : (gstep acc k i).length ≤ acc.length + 1 := by
  unfold gstep
  split
  · split
    · rw [List.length_set]
      omega
    · simp
  · simp
theorem grp_len (ks : List (List Int)) : ∀ n, (grp ks n).length ≤ n
  | 0 => Nat.le_refl _
  | n + 1 => by
    have ih := grp_len ks n
    unfold grp
    split
    · have := gstep_len (grp ks n) ‹_› n
      omega
    · omega
def groupsF (ks : List (List Int)) : List (Nat × Nat) := (grp ks ks.length).map (·.2)
section
variable {P : Program} {w : World} {K : Frag} {mg : Str → Option Value} {base : Heap}
abbrev p_groups (K : Frag) : Sp := PrS K (fun _ : Unit => []) (fun z _ => rT ((groupsF (sortK (keysF z.cur.f z.cur.s z.cur.ts))).map eNN)) (fun z _ => OkZ z)
theorem mk_groups (E : En w K mg base) : CalF P w K mg base (He.fAd K ("Shelf", some "groups")) 5 [] (p_groups K) :=
  calF_of E D_Shelf_groups 31 sc_Shelf_groups (fun vs H Q EE h => by obtain ⟨a, z, b, ws, S, rfl, _, _, h, _⟩ := h; cases h; rfl) (fun cdv Ar outer s H vs Q EE hr h => by
    obtain ⟨a, ⟨sg, cur, past⟩, _, ws, S, rfl, hD, _, hw, ok, q⟩ := h
    cases hw
    have ok : OkP sg cur := ok
    have hD : ShD K H a sg cur past := hD
    have kz : (sortK (keysF cur.f cur.s cur.ts)).length ≤ 200 := by rw [(sortK_perm _).length_eq, keysF, List.length_map]; exact ok.most
    refine w_set (i := 1) sc_Shelf_groups.nd ev_nil fun v H1 e1 ⟨l, xs0, ev, hl, hl1, im0⟩ => ?_
    subst ev
    have hq : Go (rT ((groupsF (sortK (keysF cur.f cur.s cur.ts))).map eNN)) H Q := q
    clear q
    refine w_for (B := H) rfl (wk_e E.enum (ev_m0 E (E.meS 102) (mk_all_keys E) hr (ev_v (i := 0) rfl fun _ => rfl) hD () rfl ok)) e1 fun H2 G e2 g1 g2 g3 => ⟨fun i σ' H' => Ex H H' ∧ Ex (off l H2) H' ∧ ∃ x y z xs, σ' = [some (.ref a), some (.ref l), x, y, z] ∧ H' l = some (.lst xs) ∧ Ims H' xs ((grp (sortK (keysF cur.f cur.s cur.ts)) i).map eG),
      ⟨e1.trans e2, off_ex, none, none, none, xs0, rfl, e2 _ _ hl1, im0.ex e2⟩, fun i σ' H' _ p => g2 _ _ (g3 l _ hl1 (fun ys z => by cases z) hl) p.2.1, fun i d σ' H' x H3 hd p e3 hx => ?_, fun σ' H' p => ?_⟩
    · obtain ⟨p1, p2, x1, y1, z1, xs, rfl, p3, p4⟩ := p
      obtain ⟨d', hd', rfl⟩ := enu_inv hd
      have hd' : ((sortK (keysF cur.f cur.s cur.ts)).map eK)[i]? = some d' := hd'
      rw [List.getElem?_map] at hd'
      have gl := grp_len (sortK (keysF cur.f cur.s cur.ts)) i
      generalize hks : sortK (keysF cur.f cur.s cur.ts) = ks at hd' p4 gl kz ⊢
      cases hk : ks[i]? with
      | none => rw [hk] at hd'; cases hd'
      | some k =>
        rw [hk] at hd'
        cases hd'
        have hi : i < 200 := by
          have z := (List.getElem?_eq_some_iff.mp hk).1
          omega
        obtain ⟨t, u1, u2, rfl, ht, m1, m2⟩ := im2 hx
        refine wg_t2 (i := 2) (j := 3) rfl sc_Shelf_groups.nd ht ?_
        have lf : ∀ {H4 : Hp}, Ex H3 H4 → ∀ S, (rL ((grp ks i).map eG)).r S (.ref l) H4 := fun e S => ⟨l, xs, rfl, e _ _ (e3 _ _ p3), p4.ex (e3.trans e)⟩
        have ke : ∀ {H4 : Hp}, Ex H3 H4 → ∀ S, (rD (eK k)).r S u2 H4 := fun e S => m2.ex e
        have sh : Shp 3 (.list ((grp ks i).map eG)) := shp_lst (shp_map fun g _ => shp_tup (n := 1) fun d hd => by
          simp only [List.mem_cons, List.not_mem_nil, or_false] at hd
          rcases hd with rfl | rfl | rfl
          · exact shp_eK _
          · exact shp_int _ _
          · exact shp_int _ _)
        have gs : grp ks (i + 1) = gstep (grp ks i) k i := by
          show (match ks[i]? with
            | some k => gstep (grp ks i) k i
            | none => grp ks i) = _
          rw [hk]
        have fin : ∀ {H5 : Hp} {ys : List V}, Ex H3 H5 → Ims (upd H5 l (.lst ys)) ys ((gstep (grp ks i) k i).map eG) → Ex H (upd H5 l (.lst ys)) ∧ Ex (off l H2) (upd H5 l (.lst ys)) ∧ ∃ x y z xs, [some (.ref a), some (.ref l), some u1, some u2, z1] = [some (.ref a), some (.ref l), x, y, z] ∧ (upd H5 l (.lst ys)) l = some (.lst xs) ∧ Ims (upd H5 l (.lst ys)) xs ((grp ks (i + 1)).map eG) :=
          fun e im => ⟨Ex.mut ((p1.trans e3).trans e) hl, ex_updl ((p2.trans e3).trans e), _, _, _, _, rfl, upd_same, by rw [gs]; exact im⟩
        have more : (lt : (grp ks i).getLast? = none ∨ ∃ g, (grp ks i).getLast? = some g ∧ ¬ g.1 = k) → gstep (grp ks i) k i = grp ks i ++ [(k, i, 1)] := fun lt => by
          unfold gstep
          rcases lt with z | ⟨g, z, n⟩
          · rw [z]
          · rw [z]
            show (if g.1 = k then _ else _) = _
            rw [if_neg n]
        refine w_if (et_or (t := (grp ks i).isEmpty) (u := match (grp ks i).getLast? with
          | some g => !decide (g.1 = k)
          | none => true) (et_b (et_cmp (op_eqD hr.units) (ev_v (i := 1) (ρ := rL ((grp ks i).map eG)) rfl (lf (Ex.refl _))) (ev_l ev_nil) (r_eql (d := (grp ks i).map eG) (d' := []) sh.ok (shp_lst (n := 0) (fun _ z => by cases z)).ok) (nomark _)) (by rw [eqv_nil, List.isEmpty_map])) fun hne => ew_or1 ?_) (fun ht H4 e4 => ?_) fun hf H4 e4 => ?_
        · cases gl0 : (grp ks i).getLast? with
          | none =>
            rw [List.getLast?_eq_none_iff] at gl0
            rw [gl0] at hne
            cases hne
          | some g =>
            have ne : grp ks i ≠ [] := fun z => by rw [z] at gl0; cases gl0
            have ge : (grp ks i).getLast ne = g := by
              rw [List.getLast?_eq_some_getLast ne] at gl0
              exact Option.some.inj gl0
            have ne2 : (grp ks i).map eG ≠ [] := by simpa using ne
            exact et_b (et_cmp (op_neD hr.units) (ev_ixt (ds := [eK g.1, .int (g.2.1 : Int), .int (g.2.2 : Int)]) (ev_ixl (ev_v (i := 1) (ρ := rL ((grp ks i).map eG)) rfl (lf (Ex.refl _))) (ev_neg ev_int) (by rw [atI_end ne2, List.getLast_map, ge] <;> rfl)) ev_int (d := eK g.1) rfl) (ev_v (i := 3) (ρ := rD (eK k)) rfl (ke (Ex.refl _))) (r_ned (d := eK g.1) (d' := eK k) (shp_eK _).ok (shp_eK _).ok) (nomark _)) (by rw [eqv_eK])
        · have ge : gstep (grp ks i) k i = grp ks i ++ [(k, i, 1)] := by
            refine more ?_
            cases gl0 : (grp ks i).getLast? with
            | none => exact .inl rfl
            | some g =>
              refine .inr ⟨g, rfl, fun z => ?_⟩
              rw [gl0] at ht
              have ne : (grp ks i).isEmpty = false := by
                cases h0 : grp ks i with
                | nil => rw [h0] at gl0; cases gl0
                | cons _ _ => rfl
              simp [ne, z] at ht
          refine w_app (a := l) (xs := xs) (ev_v (i := 1) rfl fun _ => rfl) (ev_t3 (ev_v (i := 3) (ρ := rD (eK k)) rfl (ke e4)) (ev_v (i := 2) (ρ := rI (i : Int)) rfl fun _ => m1.ex e4) (ev_int (i := 1))) (e4 _ _ (e3 _ _ p3)) (by rw [p4.len, List.length_map]; omega) fun v5 H5 e5 hv5 => w_end (w_end (fin (e4.trans e5) ?_))
          rw [ge, List.map_append, List.map_singleton]
          exact ((p4.ex ((e3.trans e4).trans e5)).snoc hv5).tu (tu_upd ((e4.trans e5) _ _ (e3 _ _ p3)) (fun ys z => by cases z))
        · cases gl0 : (grp ks i).getLast? with
          | none =>
            rw [gl0, Bool.or_true] at hf
            cases hf
          | some g =>
            have ne : grp ks i ≠ [] := fun z => by rw [z] at gl0; cases gl0
            have lst : (grp ks i).getLast ne = g := by
              rw [List.getLast?_eq_some_getLast ne] at gl0
              exact Option.some.inj gl0
            have ne2 : (grp ks i).map eG ≠ [] := by simpa using ne
            rw [gl0] at hf
            have gk : g.1 = k := by
              have z : (!decide (g.1 = k)) = false := by
                cases h0 : (grp ks i).isEmpty with
                | true => rw [h0] at hf; cases hf
                | false => rw [h0] at hf; exact hf
              simpa using z
            have ge : gstep (grp ks i) k i = (grp ks i).set ((grp ks i).length - 1) (k, g.2.1, g.2.2 + 1) := by
              unfold gstep
              rw [gl0]
              show (if g.1 = k then _ else _) = _
              rw [if_pos gk]
            have pos : 0 < (grp ks i).length := List.length_pos_iff.mpr ne
            have at1 : ∀ {H4 : Hp} {p1 p2 p3 p4 : Pos} {jj : Nat} (e : Ex H3 H4), Ev (Bx P w K mg base N_Shelf_groups D_Shelf_groups cdv Ar outer s H EE) (.Subscript (.Name "found" p1) (.UnaryOp .USub (.Constant (.int 1) jj p2) p4) p3) [some (.ref a), some (.ref l), some u1, some u2, z1] H4 (rT [eK g.1, .int (g.2.1 : Int), .int (g.2.2 : Int)]) := fun e =>
              ev_ixl (ev_v (i := 1) (ρ := rL ((grp ks i).map eG)) rfl (lf e)) (ev_neg ev_int) (by rw [atI_end ne2, List.getLast_map, lst] <;> rfl)
            refine w_lput (a := l) (xs := xs) (n := -1) (j := xs.length - 1) (ev_t3 (ev_v (i := 3) (ρ := rD (eK k)) rfl (ke e4)) (ev_ixt (ds := [eK g.1, .int (g.2.1 : Int), .int (g.2.2 : Int)]) (at1 e4) ev_int (d := .int (g.2.1 : Int)) rfl) (ev_add (ev_ixt (ds := [eK g.1, .int (g.2.1 : Int), .int (g.2.2 : Int)]) (at1 e4) ev_int (d := .int (g.2.2 : Int)) rfl) (ev_int (i := 1)))) (ev_v (i := 1) rfl fun _ => rfl) (ev_neg ev_int) (e4 _ _ (e3 _ _ p3)) ?_ fun v5 H5 e5 hv5 => w_end (w_end (fin (e4.trans e5) ?_))
            · have xl : 0 < xs.length := by
                rw [p4.len, List.length_map]
                exact pos
              unfold ixN
              rw [if_neg (by omega), if_pos (by omega)]
              congr 1
              omega
            · rw [ge, List.map_set]
              have z := (Ims.set hv5 ((grp ks i).length - 1) (p4.ex ((e3.trans e4).trans e5))).tu (tu_upd (u := .lst (xs.set (xs.length - 1) v5)) ((e4.trans e5) _ _ (e3 _ _ p3)) (fun ys z => by cases z))
              rw [p4.len, List.length_map] at z ⊢
              exact z
    · obtain ⟨p1, p2, x1, y1, z1, xs, rfl, p3, p4⟩ := p
      rw [enu_len, List.length_map] at p4
      have p4 : Ims H' xs ((grp (sortK (keysF cur.f cur.s cur.ts)) (sortK (keysF cur.f cur.s cur.ts)).length).map eG) := p4
      refine w_ret (ev_tuple E.tup (ev_qf (ev_f (ev_lc (own := [("place", 2), ("key", 3), ("many", 4)]) (lc_all (grp (sortK (keysF cur.f cur.s cur.ts)) (sortK (keysF cur.f cur.s cur.ts)).length) eG (fun g => eNN g.2) (wk_v (ev_v (i := 1) rfl fun _ => rfl) p3 p4) rfl (by have := grp_len (sortK (keysF cur.f cur.s cur.ts)) (sortK (keysF cur.f cur.s cur.ts)).length; omega) fun g hg => tn_30 (i := 3) (j := 2) (k := 4) rfl sc_Shelf_groups.nd fun v w u H4 e4 m1 m2 m3 s H0 C cl fp => ev_t2 (ev_v (i := 2) rfl fun _ => m2) (ev_v (i := 4) rfl fun _ => m3)) rfl sc_Shelf_groups.nd) (ds' := (groupsF (sortK (keysF cur.f cur.s cur.ts))).map eNN) (by rw [groupsF, List.map_map] <;> rfl)))) (hq.mono p1)) (fun _ _ _ _ _ _ us hl => match us, hl with | [_], _ => rfl)
end
end Lk

set_option maxHeartbeats 1000000
/-! headings, places_by. -/
namespace Lk
open PySem PySem.Spec PyProof.Rows L2
open Evl (Ex)
/-- the heading of a text -/
def hdF (f : Fn) (t : List Nat) : Int := match rowF f t with
  | [] => 0
  | u :: _ => u.1
abbrev Hc := List (Int × Nat)
def cput (c : Hc) (h : Int) : Hc := if (c.any fun p => decide (p.1 = h)) = true then c.map (fun p => if p.1 = h then (p.1, p.2 + 1) else p) else c ++ [(h, 1)]
def cget (c : Hc) (h : Int) : Nat := ((c.find? fun p => decide (p.1 = h)).map (·.2)).getD 0
def cntH (hs : List Int) : Hc := hs.foldl cput []
def ksH (c : Hc) : Kd := c.map fun p => (.inl p.1, .int (p.2 : Int))
def eIN (p : Int × Nat) : PyData := .tuple [.int p.1, .int (p.2 : Int)]
theorem inl_inj {a b : Int} : ((Sum.inl a : Key) = Sum.inl b) = (a = b) := by simp
theorem lookH (c : Hc) (h : Int) : (lookK (ksH c) (.inl h)).getD (.int 0) = .int (cget c h : Int) := by
  unfold lookK cget ksH
  rw [List.find?_map]
  have e : ((fun p : Key × PyData => decide (p.1 = Sum.inl h)) ∘ fun p : Int × Nat => ((Sum.inl p.1 : Key), PyData.int (p.2 : Int))) = fun p => decide (p.1 = h) := by
    funext p
    show decide ((Sum.inl p.1 : Key) = Sum.inl h) = _
    simp
  rw [e]
  cases c.find? (fun p => decide (p.1 = h)) <;> rfl
theorem cget_has {c : Hc} {h : Int} (nd : (c.map (·.1)).Nodup) : ∀ p ∈ c, p.1 = h → cget c h = p.2 := by
  induction c with
  | nil => exact fun p hp => by cases hp
  | cons q c ih =>
    rw [List.map_cons, List.nodup_cons] at nd
    intro p hp e
    unfold cget
    rw [List.find?_cons]
    rcases List.mem_cons.mp hp with rfl | hp
    · rw [decide_eq_true e] <;> rfl
    · have n : ¬ q.1 = h := fun z => nd.1 (List.mem_map.mpr ⟨p, hp, by rw [e, z]⟩)
      rw [decide_eq_false n]
      exact ih nd.2 p hp e
theorem cput_keys (c : Hc) (h : Int) : (cput c h).map (·.1) = if (c.any fun p => decide (p.1 = h)) = true then c.map (·.1) else c.map (·.1) ++ [h] := by
  unfold cput
  split
  · rw [List.map_map]
    refine List.map_congr_left fun p _ => ?_
    show (if p.1 = h then (p.1, p.2 + 1) else p).1 = p.1
    split <;> rfl
  · rw [List.map_append] <;> rfl
theorem any_mem {c : Hc} {h : Int} : (c.any fun p => decide (p.1 = h)) = true ↔ h ∈ c.map (·.1) := by
  rw [List.any_eq_true, List.mem_map]
  constructor
  · rintro ⟨p, hp, e⟩
    exact ⟨p, hp, of_decide_eq_true e⟩
  · rintro ⟨p, hp, e⟩
    exact ⟨p, hp, decide_eq_true e⟩
theorem cput_nd {c : Hc} {h : Int} (nd : (c.map (·.1)).Nodup) : ((cput c h).map (·.1)).Nodup := by
  rw [cput_keys]
  split
  · exact nd
  · rename_i n
    have n := fun z => n (any_mem.mpr z)
    rw [List.nodup_append]
    refine ⟨nd, by simp, fun a ha b hb e => ?_⟩
    rw [List.mem_singleton] at hb
    exact n (hb ▸ e ▸ ha)
theorem cntH_snoc (hs : List Int) (h : Int) : cntH (hs ++ [h]) = cput (cntH hs) h := by
  unfold cntH
  rw [List.foldl_append] <;> rfl
theorem cntH_nd (hs : List Int) : ((cntH hs).map (·.1)).Nodup := by
  have go : ∀ (hs : List Int) (c : Hc), (c.map (·.1)).Nodup → ((hs.foldl cput c).map (·.1)).Nodup := by
    intro hs
    induction hs with
    | nil => exact fun _ h => h
    | cons x xs ih => exact fun c h => ih _ (cput_nd h)
  exact go hs [] List.nodup_nil
theorem cput_len (c : Hc) (h : Int) : (cput c h).length ≤ c.length + 1 := by
  unfold cput
  split <;> simp
theorem cntH_len (hs : List Int) : (cntH hs).length ≤ hs.length := by
  have go : ∀ (hs : List Int) (c : Hc), (hs.foldl cput c).length ≤ c.length + hs.length := by
    intro hs
    induction hs with
    | nil => exact fun _ => Nat.le_refl _
    | cons x xs ih =>
      intro c
      have a := ih (cput c x)
      have b := cput_len c x
      rw [List.foldl_cons, List.length_cons]
      omega
  have z := go hs []
  simpa [cntH] using z
theorem pK_cput {c : Hc} {h : Int} (nd : (c.map (·.1)).Nodup) : pK (ksH c) (.inl h) (.int ((cget c h : Int) + 1)) = ksH (cput c h) := by
  have an : ((ksH c).any fun p => decide (p.1 = Sum.inl h)) = c.any fun p => decide (p.1 = h) := by
    unfold ksH
    rw [List.any_map]
    congr 1
    funext p
    show decide ((Sum.inl p.1 : Key) = Sum.inl h) = _
    simp
  unfold pK cput
  rw [an]
  split
  · unfold ksH
    rw [List.map_map, List.map_map]
    refine List.map_congr_left fun p hp => ?_
    show (if (Sum.inl p.1 : Key) = Sum.inl h then ((Sum.inl p.1 : Key), PyData.int ((cget c h : Int) + 1)) else ((Sum.inl p.1 : Key), PyData.int (p.2 : Int))) = _
    by_cases e : p.1 = h
    · rw [if_pos (by rw [e]), cget_has nd p hp e]
      show _ = ((Sum.inl (if p.1 = h then (p.1, p.2 + 1) else p).1 : Key), PyData.int (((if p.1 = h then (p.1, p.2 + 1) else p).2 : Nat) : Int))
      rw [if_pos e] <;> rfl
    · rw [if_neg (fun z => e (Sum.inl.inj z))]
      show _ = ((Sum.inl (if p.1 = h then (p.1, p.2 + 1) else p).1 : Key), PyData.int (((if p.1 = h then (p.1, p.2 + 1) else p).2 : Nat) : Int))
      rw [if_neg e]
  · rename_i n
    have g0 : cget c h = 0 := by
      unfold cget
      rw [List.find?_eq_none.mpr fun p hp z => n (List.any_eq_true.mpr ⟨p, hp, z⟩)] <;> rfl
    rw [g0]
    unfold ksH
    rw [List.map_append] <;> rfl
theorem alike_eIN (a b : Int × Nat) : PySem.W.alike (eIN a) (eIN b) = true := by
  simp [eIN, PySem.W.alike, PySem.W.alikeAll]
theorem depth_eIN (a : Int × Nat) : (eIN a).depth ≤ 32 := by
  simp [eIN, PyData.depth, PyData.depthAll]
def headsF (f : Fn) (ls : List (List Nat)) : List (Int × Nat) := (cntH (ls.map (hdF f))).mergeSort (PySem.W.dataLe false eIN)
theorem atI_zero {α : Type} (x : α) (xs : List α) : atI (x :: xs) 0 = some x := by
  unfold atI
  rw [show (0 : Int) = ((0 : Nat) : Int) from rfl, Evl.ixN_nat (by simp)] <;> rfl
theorem eqv_unit {us : List U} : PyData.eqv (.tuple (us.map eU)) (.tuple []) = us.isEmpty := by
  cases us <;> rfl
theorem shp_eU (u : U) : Shp 1 (eU u) := shp_tup (n := 0) fun d hd => by
  simp only [List.mem_cons, List.not_mem_nil, or_false] at hd
  rcases hd with rfl | rfl | rfl <;> exact shp_int _ _
section
variable {P : Program} {w : World} {K : Frag} {mg : Str → Option Value} {base : Heap}
abbrev p_headings (K : Frag) : Sp := PrS K (fun _ : Unit => []) (fun z _ => rT ((headsF z.cur.f (lineF z.cur.f z.cur.s z.cur.ts)).map eIN)) (fun z _ => OkZ z)
theorem lineF_mem {f : Fn} {s : Int} {ts : List (List Nat)} {t : List Nat} (h : t ∈ lineF f s ts) : t ∈ ts := by
  obtain ⟨n, hn, rfl⟩ := List.mem_map.mp h
  have z := orderF_ts hn
  rw [List.getD_eq_getElem?_getD, List.getElem?_eq_getElem z]
  exact List.getElem_mem z
theorem mk_headings (E : En w K mg base) : CalF P w K mg base (He.fAd K ("Shelf", some "headings")) 8 [] (p_headings K) :=
  calF_of E D_Shelf_headings 32 sc_Shelf_headings (fun vs H Q EE h => by obtain ⟨a, z, b, ws, S, rfl, _, _, h, _⟩ := h; cases h; rfl) (fun cdv Ar outer s H vs Q EE hr h => by
    obtain ⟨a, ⟨sg, cur, past⟩, _, ws, S, rfl, hD, _, hw, ok, q⟩ := h
    cases hw
    have ok : OkP sg cur := ok
    have hD : ShD K H a sg cur past := hD
    have hq : Go (rT ((headsF cur.f (lineF cur.f cur.s cur.ts)).map eIN)) H Q := q
    clear q
    have lz : (lineF cur.f cur.s cur.ts).length ≤ 200 := by rw [lineF_len]; exact ok.most
    refine w_set (i := 1) sc_Shelf_headings.nd ev_d0 fun v H1 e1 ⟨l, kv0, ev, hl, hl1, dk0⟩ => ?_
    subst ev
    refine w_for (B := H) rfl (wk_t (ev_prS E (E.prS 2) (mk_gline E) hr (ev_v (i := 0) rfl fun _ => rfl) hD () rfl ok)) e1 fun H2 G e2 g1 g2 g3 => ⟨fun i σ' H' => Ex H H' ∧ Ex (off l H2) H' ∧ ∃ x y z kvs, σ' = [some (.ref a), some (.ref l), x, y, z] ∧ H' l = some (.dK kvs) ∧ DkR H' kvs (ksH (cntH (((lineF cur.f cur.s cur.ts).take i).map (hdF cur.f)))),
      ⟨e1.trans e2, off_ex, none, none, none, kv0, rfl, e2 _ _ hl1, dk0.ex (tu_ex e2)⟩, fun i σ' H' _ p => g2 _ _ (g3 l _ hl1 (fun ys z => by cases z) hl) p.2.1, fun i d σ' H' x H3 hd p e3 hx => ?_, fun σ' H' p => ?_⟩
    · obtain ⟨p1, p2, x1, y1, z1, kvs, rfl, p3, p4⟩ := p
      have hd : ((lineF cur.f cur.s cur.ts).map eS)[i]? = some d := hd
      rw [List.getElem?_map] at hd
      cases ht : (lineF cur.f cur.s cur.ts)[i]? with
      | none => rw [ht] at hd; cases hd
      | some t =>
        rw [ht] at hd
        cases hd
        have okt : OkT sg t := ok.t t (lineF_mem (List.mem_of_getElem? ht))
        have nx : (lineF cur.f cur.s cur.ts).take (i + 1) = (lineF cur.f cur.s cur.ts).take i ++ [t] := take_snoc ht
        have cl := cntH_len (((lineF cur.f cur.s cur.ts).take i).map (hdF cur.f))
        have cz : ((lineF cur.f cur.s cur.ts).take i).length ≤ 200 := by rw [List.length_take]; omega
        generalize hc : cntH (((lineF cur.f cur.s cur.ts).take i).map (hdF cur.f)) = c at p4 cl
        have cnd : (c.map (·.1)).Nodup := by rw [← hc]; exact cntH_nd _
        refine wg_n (i := 2) sc_Shelf_headings.nd ?_
        have hD3 : ShD K H3 a sg cur past := hD.ex (p1.trans e3)
        obtain ⟨dx, xx, qp, xs, h1, h2⟩ := hD3
        obtain ⟨rl, ro⟩ := rowF_len ok.f okt.ok
        have tm := okt.most
        refine w_set (i := 3) sc_Shelf_headings.nd (ev_pr (mk_units_of E) hr ⟨sg, cur.f, cuts cur.f t⟩ ⟨ok.f, (cuts_len ok.f t.length t (Nat.le_refl _) okt.ok).2, by have := (cuts_len ok.f t.length t (Nat.le_refl _) okt.ok).1; show (cuts cur.f t).length ≤ 1000; omega⟩ (eac (ev_ot E (ev_v (i := 0) rfl fun _ => rfl) h1 h2) (eac (ev_l (ev_pr (mk_cut_all E) hr ⟨sg, cur.f, t⟩ ⟨ok.f, okt⟩ (eac (ev_ot E (ev_v (i := 0) rfl fun _ => rfl) h1 h2) (eac (ev_v (i := 2) (ρ := rS t) rfl fun _ => hx) ea0)))) ea0))) fun v4 H4 e4 hv4 => ?_
        have hv4 : Im H4 v4 (.tuple ((rowF cur.f t).map eU)) := hv4
        have xu : ∀ {H5 : Hp}, Ex H4 H5 → ∀ S, (rT ((rowF cur.f t).map eU)).r S v4 H5 := fun e S => hv4.ex e
        refine w_set (i := 4) sc_Shelf_headings.nd (ρ := rI (hdF cur.f t)) (ev_if (et_cmp (op_neD hr.units) (ev_v (i := 3) (ρ := rT ((rowF cur.f t).map eU)) rfl (xu (Ex.refl _))) ev_unit (r_ned (d := .tuple ((rowF cur.f t).map eU)) (d' := .tuple []) (shp_tup (shp_map fun u _ => shp_eU u)).ok (shp_tup (n := 0) (fun _ z => by cases z)).ok) (nomark _)) (fun h => ?_) fun h => ?_) fun v5 H5 e5 hv5 => ?_
        · rw [eqv_unit] at h
          cases hr0 : rowF cur.f t with
          | nil => rw [hr0] at h; cases h
          | cons u us =>
            have e0 : hdF cur.f t = u.1 := by rw [hdF, hr0]
            rw [e0]
            exact ev_ixt (ds := [.int u.1, .int u.2.1, .int u.2.2]) (ev_ixt (ds := (rowF cur.f t).map eU) (ev_v (i := 3) rfl (xu (Ex.refl _))) ev_int (d := eU u) (by rw [hr0, List.map_cons]; exact atI_zero _ _)) ev_int rfl
        · rw [eqv_unit] at h
          cases hr0 : rowF cur.f t with
          | nil =>
            have e0 : hdF cur.f t = 0 := by rw [hdF, hr0]
            rw [e0]
            exact ev_int
          | cons u us => rw [hr0] at h; cases h
        · have hv5 := Im.eint hv5
          subst hv5
          have dk5 := p4.ex (tu_ex ((e3.trans e4).trans e5))
          have l5 := (e4.trans e5) _ _ (e3 _ _ p3)
          have xh : ∀ {H6 : Hp} S, (rI (hdF cur.f t)).r S (.int (hdF cur.f t)) H6 := fun S => .int _
          refine w_dput (a := l) (kvs := kvs) (k := .inl (hdF cur.f t)) (ρ := rI ((cget c (hdF cur.f t) : Int) + 1)) (hu_of hr) (ev_add (ev_d (ev_get (ks := ksH c) (k := .inl (hdF cur.f t)) (hu_of hr) (ev_v (i := 1) rfl fun _ => ⟨l, kvs, rfl, .inl l5, dk5⟩) (ev_ki (ev_v (i := 4) rfl xh)) (ev_int (i := 0))) (lookH _ _)) ev_int) (ev_v (i := 1) rfl fun _ => rfl) (ev_ki (ev_v (i := 4) rfl xh)) l5 (by rw [dk5.len, ksH, List.length_map]; rw [List.length_map] at cl; omega) fun v6 H6 e6 hv6 => ?_
          have l6 := e6 _ _ l5
          refine w_end ⟨Ex.mut ((((p1.trans e3).trans e4).trans e5).trans e6) hl, ex_updl ((((p2.trans e3).trans e4).trans e5).trans e6), _, _, _, _, rfl, upd_same, ?_⟩
          rw [nx, List.map_append, List.map_singleton, cntH_snoc, hc, ← pK_cput cnd]
          exact ((dk5.ex (tu_ex e6)).put hv6).ex (tu_upd l6 fun ys z => by cases z)
    · obtain ⟨p1, p2, x1, y1, z1, kvs, rfl, p3, p4⟩ := p
      rw [List.length_map, List.take_length] at p4
      have cl := cntH_len ((lineF cur.f cur.s cur.ts).map (hdF cur.f))
      rw [List.length_map] at cl
      exact w_ret (ev_tuple E.tup (ev_qf (ev_sorted (cntH ((lineF cur.f cur.s cur.ts).map (hdF cur.f))) eIN E.srt hr.units (ev_l (ev_items rfl E.lst (ev_v (i := 1) rfl fun _ => rfl) p3 p4)) (by rw [ksH, List.map_map] <;> rfl) (.of alike_eIN) (.inr fun d hd => by obtain ⟨k, _, rfl⟩ := List.mem_map.mp hd; exact ⟨_, rfl⟩) (by omega) fun b _ => depth_eIN b))) (hq.mono p1))
    (fun _ _ _ _ _ _ us hl => match us, hl with | [_], _ => rfl)
end
end Lk

set_option maxHeartbeats 1000000
/-! places_by, keep. -/
namespace Lk
open PySem PySem.Spec PyProof.Rows L2
open Evl (Ex)
/-- where the places of near lie in far -/
def placesF (far near : List Nat) : List Int := near.map fun n => (far.idxOf n : Int)
theorem orderF_nd (ks : List (List Int)) : (orderF ks).Nodup := (orderF_perm ks).nodup_iff.mpr List.nodup_range
theorem idx_at {l : List Nat} {n : Nat} (h : n ∈ l) : l[l.idxOf n]? = some n := by
  have z := List.idxOf_lt_length_of_mem h
  rw [List.getElem?_eq_getElem z, List.getElem_idxOf]
/-- a tuple of such values -/
def rTV (vs : List V) : Rp := ⟨fun _ v H => ∃ q, v = .ref q ∧ H q = some (.tup vs), fun e ⟨q, h1, h2⟩ => ⟨q, h1, e _ _ h2⟩, fun _ h => h⟩
/-- xs and one more -/
def rSt1 (xs : List V) (ρ : Rp) : Rp := ⟨fun S v H => ∃ q u, v = .ref q ∧ H q = some (.tup (xs ++ [u])) ∧ ρ.r S u H, fun e ⟨q, u, h1, h2, h3⟩ => ⟨q, u, h1, e _ _ h2, ρ.m e h3⟩, fun e ⟨q, u, h1, h2, h3⟩ => ⟨q, u, h1, h2, ρ.n e h3⟩⟩
section
variable {X : Cx} {σ : L2.St} {H : Hp} {a b c e : Expr} {p pos : Pos} {kk : Nat} {ρ : Rp}
theorem ev_tv3 {v1 v2 v3 : V} (ha : Ev X a σ H (rV v1)) (hb : Ev X b σ H (rV v2)) (hc : Ev X c σ H (rV v3)) (hs : starEach [a, b, c] X.env = (false, eval a X.env) :: starEach [b, c] X.env := by rfl) (hs2 : starEach [b, c] X.env = (false, eval b X.env) :: starEach [c] X.env := by rfl)
    (hs3 : starEach [c] X.env = (false, eval c X.env) :: starEach [] X.env := by rfl) : Ev X (.Tuple [a, b, c] kk pos) σ H (rTV [v1, v2, v3]) := fun H1 e1 Q q =>
  ⟨_, pe_tup wa_ok, eac ha (eac hb (eac hc ea0 hs3) hs2) hs H1 e1 _ fun vs H2 e2 hv => by
    obtain ⟨u1, u2, u3, rfl, r1, r2, r3⟩ := three_arg hv
    cases r1
    cases r2
    cases r3
    exact ⟨sz6 (by simp), fun p hp => q _ _ (e2.trans (Ex.new hp)) ⟨p, rfl, upd_same⟩⟩⟩
/-- ( *xs, x) -/
theorem ev_star1 {q : Addr} {xs : List V} (ha : Ev X e σ H (rV (.ref q))) (hq : H q = some (.tup xs)) (hz : xs.length ≤ 100000) (hb : Ev X b σ H ρ) (hs : starEach [.Starred e p, b] X.env = (true, eval e X.env) :: starEach [b] X.env := by rfl) (hs2 : starEach [b] X.env = (false, eval b X.env) :: starEach [] X.env := by rfl) :
    Ev X (.Tuple [.Starred e p, b] kk pos) σ H (rSt1 xs ρ) := fun H1 e1 Q g =>
  ⟨_, pe_tup (StX.pa_star we_ok (wa_ok (es := [b])) hs), ha H1 e1 _ fun v H2 e2 hv => by
    have hv : v = .ref q := hv
    subst hv
    refine ⟨q, xs, rfl, .inl (SqT.of ((e1.trans e2) _ _ hq)), eac hb ea0 hs2 H2 (e1.trans e2) _ fun vs H3 e3 hvs => ?_⟩
    obtain ⟨u, rfl, hu⟩ := one_arg hvs
    exact ⟨sz6 (by rw [List.length_append, List.length_singleton]; omega), fun r hr => g _ _ ((e2.trans e3).trans (Ex.new hr)) ⟨r, u, rfl, upd_same, ρ.m (Ex.new hr) (ρ.n e2 hu)⟩⟩⟩
end
section
variable {X : Cx} {σ : L2.St} {H : Hp} {a b c e : Expr} {p pos : Pos} {kk : Nat}
theorem ev_starN {ds : List PyData} {d : PyData} (ha : Ev X e σ H (rTN ds)) (hz : ds.length ≤ 100000) (hb : Ev X b σ H (rD d)) (hs : starEach [.Starred e p, b] X.env = (true, eval e X.env) :: starEach [b] X.env := by rfl) (hs2 : starEach [b] X.env = (false, eval b X.env) :: starEach [] X.env := by rfl) :
    Ev X (.Tuple [.Starred e p, b] kk pos) σ H (rTN (ds ++ [d])) := fun H1 e1 Q g =>
  ⟨_, pe_tupN (StX.pa_star we_ok (wa_ok (es := [b])) hs), ha H1 e1 _ fun v H2 e2 hv => by
    obtain ⟨q, xs, rfl, h1, h2⟩ := hv
    refine ⟨q, xs, rfl, .inl h1.sq, eac hb ea0 hs2 H2 (e1.trans e2) _ fun vs H3 e3 hvs => ?_⟩
    obtain ⟨u, rfl, hu⟩ := one_arg hvs
    have l2 := h2.len
    exact ⟨sz6 (by rw [List.length_append, List.length_singleton]; omega), fun r ob hr hd => g _ _ ((e2.trans e3).trans (Ex.new hr)) ⟨r, _, rfl, .inr ⟨ob, upd_same, hd⟩, ((h2.ex e3).snoc hu).ex (Ex.new hr)⟩⟩⟩
end
section
variable {P : Program} {w : World} {K : Frag} {mg : Str → Option Value} {base : Heap}
/-- the other table, its lookup, the strength -/
abbrev Pb := Fn × Int
abbrev p_places_by (K : Frag) : Sp := fun vs H Q _ => ∃ (a : Addr) (sg : List Nat) (cur : Pe) (past : List Pe) (tv : V) (f : Fn) (s : Int), vs = [.ref a, tv, .int s] ∧ ShD K H a sg cur past ∧ (rTb K sg f).r H tv H ∧ OkP sg cur ∧ OkF sg f ∧ OkS s ∧ Go (rF ((placesF (orderF (keysF f s cur.ts)) (orderF (keysF cur.f cur.s cur.ts))).map .int)) H Q
theorem mk_places_by (E : En w K mg base) : CalF P w K mg base (He.fAd K ("Shelf", some "places_by")) 6 [] (p_places_by K) :=
  calF_of E D_Shelf_places_by 34 sc_Shelf_places_by (fun vs H Q EE h => by obtain ⟨a, sg, cur, past, tv, f, s, rfl, _⟩ := h; rfl) (fun cdv Ar outer s H vs Q EE hr h => by
    obtain ⟨a, sg, cur, past, tv, f, st, rfl, hD, ht, ok, okf, oks, q⟩ := h
    have hD2 := hD
    obtain ⟨dx, x, qp, xs, h1, h2⟩ := hD2
    have far0 : ∀ n ∈ orderF (keysF f st cur.ts), n < cur.ts.length := fun n h => orderF_ts h
    have mem : ∀ n ∈ orderF (keysF cur.f cur.s cur.ts), n ∈ orderF (keysF f st cur.ts) := fun n h => (orderF_perm _).mem_iff.mpr (List.mem_range.mpr (by rw [keysF, List.length_map]; exact orderF_ts h))
    have fz : (orderF (keysF f st cur.ts)).length ≤ 200 := by rw [orderF_most]; exact ok.most
    have fnd := orderF_nd (keysF f st cur.ts)
    refine w_set (i := 3) sc_Shelf_places_by.nd (ev_dc (own := [("place", 4), ("number", 5)]) (orderF (keysF f st cur.ts)).zipIdx (fun p => .tuple [.int (p.2 : Int), eN p.1]) (fun p => .inl (p.1 : Int)) (fun p => .int (p.2 : Int)) rfl sc_Shelf_places_by.nd (wk_e E.enum (ev_pr (mk_order_by E) hr ⟨sg, f, st, cur.ts⟩ ⟨okf, oks, ok.t, Nat.le_trans ok.most (by decide)⟩ (eac (ev_v (i := 1) (ρ := rTb K sg f) rfl fun S => rTb_S ht) (eac (ev_v (i := 2) (ρ := rI st) rfl fun _ => .int _) (eac (ev_ox E (ev_v (i := 0) rfl fun _ => rfl) h1 h2) ea0))))) (enu_map eN (orderF (keysF f st cur.ts))) (by rw [List.length_zipIdx]; omega) ?_ fun p hp => ?_) fun v H1 e1 ⟨l, kvs, ev, _, hl, dk⟩ => ?_
    · have e : (orderF (keysF f st cur.ts)).zipIdx.map (fun p => (Sum.inl (p.1 : Int) : Key)) = ((orderF (keysF f st cur.ts)).zipIdx.map (·.1)).map fun n : Nat => (Sum.inl (n : Int) : Key) := by
        rw [List.map_map] <;> rfl
      rw [e, List.zipIdx_map_fst]
      exact List.Pairwise.map _ (fun a b n z => n (by have := Sum.inl.inj z; omega)) fnd
    · intro x0 G eG hx
      obtain ⟨t, u1, u2, rfl, ht2, m1, m2⟩ := im2 hx
      exact ⟨((wipe [some (V.ref a), some tv, some (V.int st), none, none, none] [4, 5]).set 4 (some u1)).set 5 (some u2), fun s H0 C cl fp => tg_t2 (i := 4) (j := 5) rfl sc_Shelf_places_by.nd ht2, rfl, fun s H0 C cl fp => ev_ki (ev_v (i := 5) (ρ := rI (p.1 : Int)) rfl fun _ => m2), fun s H0 C cl fp => ev_v (i := 4) rfl fun _ => m1⟩
    subst ev
    have nd2 : (((orderF (keysF f st cur.ts)).zipIdx.map fun p => ((Sum.inl (p.1 : Int) : Key), PyData.int (p.2 : Int))).map (·.1)).Nodup := by
      have e : ((orderF (keysF f st cur.ts)).zipIdx.map fun p => ((Sum.inl (p.1 : Int) : Key), PyData.int (p.2 : Int))).map (·.1) = ((orderF (keysF f st cur.ts)).zipIdx.map (·.1)).map fun n : Nat => (Sum.inl (n : Int) : Key) := by
        rw [List.map_map, List.map_map] <;> rfl
      rw [e, List.zipIdx_map_fst]
      exact List.Pairwise.map _ (fun a b n z => n (by have := Sum.inl.inj z; omega)) fnd
    refine w_ret (ev_f (ev_lc (own := [("number", 5)]) (lc_all (orderF (keysF cur.f cur.s cur.ts)) eN (fun n => .int ((orderF (keysF f st cur.ts)).idxOf n : Int)) (wk_l (ev_m0 E (E.meS 100) (mk_numbers E) hr (ev_v (i := 0) rfl fun _ => rfl) (hD.ex e1) () rfl ok)) rfl (by rw [orderF_most]; have := ok.most; omega) fun n hn => tn_0 (j := 5) sc_Shelf_places_by.nd fun x2 H2 e2 hx2 s H0 C cl fp => ?_) rfl sc_Shelf_places_by.nd) (by rw [placesF, List.map_map] <;> rfl)) (q.mono e1)
    refine ev_ixd (ks := (orderF (keysF f st cur.ts)).zipIdx.map fun p => ((Sum.inl (p.1 : Int) : Key), PyData.int (p.2 : Int))) (k := .inl (n : Int)) (hu_of hr) (ev_v (i := 3) rfl fun _ => ⟨l, kvs, rfl, .inl (e2 _ _ hl), dk.ex (tu_ex e2)⟩) (ev_ki (ev_v (i := 5) (ρ := rI (n : Int)) rfl fun _ => hx2)) (lookK_some (List.mem_map.mpr ⟨(n, (orderF (keysF f st cur.ts)).idxOf n), ?_, rfl⟩) nd2)
    exact List.mem_zipIdx_iff_getElem?.mpr (idx_at (mem n hn))) (fun _ _ _ _ _ _ us hl => match us, hl with | [_, _, _], _ => rfl)
/-! ### keep -/
def p_keep (K : Frag) : Sp := fun vs H Q _ => ∃ (a : Addr) (sg : List Nat) (cur : Pe) (past : List Pe) (new : Pe) (x : V), vs = [.ref a, .ref new.tv, .int new.s, x] ∧ ShD K H a sg cur past ∧ (rTb K sg new.f).r H (.ref new.tv) H ∧ (rTN (new.ts.map eS)).r H x H ∧ new.ts.length ≤ 200 ∧ past.length ≤ 10000 ∧
  ∀ H', Ex (off a H) H' → ShD K H' a sg new (past ++ [cur]) → Q .non H'
theorem PsR.snoc {K : Frag} {H : Hp} {sg : List Nat} {v : V} {p : Pe} (h : ∃ q t, v = .ref q ∧ H q = some (.tup [.ref p.tv, .int p.s, t]) ∧ (rTN (p.ts.map eS)).r H t H ∧ (rTb K sg p.f).r H (.ref p.tv) H) : ∀ {xs : List V} {ps : List Pe}, PsR K H sg xs ps → PsR K H sg (xs ++ [v]) (ps ++ [p])
  | _, _, .nil => .cons h .nil
  | _, _, .cons a t => .cons a (PsR.snoc h t)
theorem PsR.len {K : Frag} {H : Hp} {sg : List Nat} : ∀ {xs : List V} {ps : List Pe}, PsR K H sg xs ps → xs.length = ps.length
  | _, _, .nil => rfl
  | _, _, .cons _ t => by simp only [List.length_cons, PsR.len t]
theorem mk_keep (E : En w K mg base) : CalF P w K mg base (He.fAd K ("Shelf", some "keep")) 1 [] (p_keep K) :=
  calF_of E D_Shelf_keep 26 sc_Shelf_keep (fun vs H Q EE h => by obtain ⟨a, sg, cur, past, new, x, rfl, _⟩ := h; rfl) (fun cdv Ar outer s H vs Q EE hr h => by
    obtain ⟨a, sg, cur, past, new, x, rfl, hD, ht, hx, hz, hpz, q⟩ := h
    obtain ⟨dx, x0, qp, xs, h1, h2⟩ := hD
    refine w_no (et_b (et_cmp op_gt (ev_d (ev_lenN E.len (ev_v (i := 3) (ρ := rTN (new.ts.map eS)) rfl fun _ => hx)) (by rw [List.length_map])) (ev_gi (E.num 92)) r_gt (nomark _)) (decide_eq_false (by omega))) fun H1 e1 => ?_
    have v0 : ∀ {Hx : Hp} S, (rV (.ref a)).r S (.ref a) Hx := fun _ => rfl
    have a1 := e1 _ _ h1
    have s1 := h2.ex e1
    have pl := s1.ps.len
    refine w_fld E.clsS (E.noS 99) (ev_star1 (ρ := rTV [.ref cur.tv, .int cur.s, x0]) (ev_opV E (ev_v (i := 0) rfl v0) a1) s1.q (by omega) (ev_tv3 (ev_otV E (ev_v (i := 0) rfl v0) a1) (ev_fld E.clsS (E.noS 97) (ev_v (i := 0) rfl v0) a1 (lk_str ..)) (ev_oxV E (ev_v (i := 0) rfl v0) a1))) (ev_v (i := 0) rfl v0) a1 (by simp [shF]) fun v2 H2 e2 hv2 => ?_
    obtain ⟨q2, u2, rfl, hq2, qu, rfl, hu2⟩ := hv2
    rw [put_past]
    refine w_fld E.clsS (E.noS 96) (ev_v (i := 1) (ρ := rV (.ref new.tv)) rfl fun _ => rfl) (ev_v (i := 0) rfl v0) upd_same (by simp [shF]) fun v3 H3 e3 hv3 => ?_
    have hv3 : v3 = .ref new.tv := hv3
    subst hv3
    rw [put_tab]
    refine w_fld E.clsS (E.noS 97) (ev_v (i := 2) (ρ := rV (.int new.s)) rfl fun _ => rfl) (ev_v (i := 0) rfl v0) upd_same (by simp [shF]) fun v4 H4 e4 hv4 => ?_
    have hv4 : v4 = .int new.s := hv4
    subst hv4
    rw [put_str]
    refine w_fld E.clsS (E.noS 98) (ev_v (i := 3) (ρ := rV x) rfl fun _ => rfl) (ev_v (i := 0) rfl v0) upd_same (by simp [shF]) fun v5 H5 e5 hv5 => w_end ?_
    have hv5 : v5 = x := hv5
    subst hv5
    rw [put_texts]
    have a2 := e2 _ _ a1
    -- what is not the shelf, behind the new past
    have G0 : Ex (off a H2) (upd H5 a (.ins (He.ga K "Shelf") dx (shF new.tv new.s v5 (.ref q2)))) := ex_updl ((ex_updl ((ex_updl ((ex_updl off_ex).trans e3)).trans e4)).trans e5)
    have n2 := not_ins a2
    have sh : ShP K (off a H2) sg cur past x0 qp xs := (s1.ex e2).off n2
    have hx2 : (rTN (new.ts.map eS)).r H v5 (off a H2) := tn_off ((rTN _).m (e1.trans e2) hx) n2
    have ht2 : (rTb K sg new.f).r H (.ref new.tv) (off a H2) := tb_off ((rTb K sg new.f).m (e1.trans e2) ht) n2
    have p2 : PsR K (off a H2) sg (xs ++ [.ref qu]) (past ++ [cur]) := PsR.snoc ⟨qu, x0, rfl, n2.tup _ _ hu2, sh.x, sh.tb⟩ sh.ps
    exact q _ ((off_mono (e1.trans e2)).trans G0) ⟨dx, v5, q2, _, upd_same, ⟨(rTN _).m G0 hx2, G0 _ _ (n2.tup _ _ hq2), p2.ex G0, rTb_S ((rTb K sg new.f).m G0 ht2)⟩⟩) (fun _ _ _ _ _ _ us hl => match us, hl with | [_, _, _, _], _ => rfl)
end
end Lk

set_option maxHeartbeats 1000000
/-! put. -/
namespace Lk
open PySem PySem.Spec PyProof.Rows L2
open Evl (Ex)
/-- a ≤ b of tuples of ints -/
def leB (ns ms : List Int) : Bool := Ob.lexAt (fun j => decide (ns.getD j 0 = ms.getD j 0)) (fun j => decide (ns.getD j 0 ≤ ms.getD j 0)) (decide (ns.length ≤ ms.length)) 0 (min ns.length ms.length)
theorem lexAt_same (e r : Nat → Bool) (he : ∀ j, e j = true) : ∀ (n i : Nat), Ob.lexAt e r true i n = true
  | 0, _ => rfl
  | n + 1, i => by
    have ih := lexAt_same e r he n (i + 1)
    unfold Ob.lexAt
    rw [he i]
    exact ih
theorem leB_refl (k : List Int) : leB k k = true := by
  unfold leB
  rw [decide_eq_true (Nat.le_refl _)]
  exact lexAt_same _ _ (fun j => decide_eq_true rfl) _ _
theorem r_leK {K : Frag} {i j : List Int} {H : Hp} (S : Hp) (x y : V) (H2 : Hp) (Q : VK) (_ : Ex H S) (_ : Ex S H2) (hx : (rD (eK i)).r S x H2) (hy : (rD (eK j)).r S y H2) (q : Go (rB (leB i j)) H2 Q) : rLeT K x y H2 Q := by
  obtain ⟨a, xs, rfl, h1, h2⟩ := Im.etup hx
  obtain ⟨b, ys, rfl, h3, h4⟩ := Im.etup hy
  have e1 := h2.ints
  have e2 := h4.ints
  subst e1 e2
  exact ⟨a, b, i, j, rfl, rfl, SqT.of h1, SqT.of h3, q.at (.bl _)⟩
/-- how many of ks are at most k -/
def cntLe (ks : List (List Int)) (k : List Int) : Nat := (ks.filter fun x => leB x k).length
theorem cntLe_add (ks : List (List Int)) (k : List Int) : cntLe (sortK (ks ++ [k])) k = cntLe ks k + 1 := by
  unfold cntLe
  rw [((sortK_perm (ks ++ [k])).filter _).length_eq, List.filter_append, List.length_append, List.filter_cons, if_pos (leB_refl k)] <;> rfl
section
variable {X : Cx} {σ : L2.St} {H H' : Hp} {e a b c o : Expr} {es : List Expr} {pos pos' p p2 apos : Pos} {ρs : Rps} {D : Ends} {rest : List Stmt} {w : World} {k k' : Nat} {m : Str} {dvs : List V} {sp : Sp}
/-- o.m(e, ..), as a statement -/
theorem w_meth {C g : Addr} (c : Cls X.K C) (hm : Meth X.K C m g) (F : CalF X.prog X.w X.K X.mg X.base g k dvs sp) (hr : Room k' X.A) {q dx : Addr} {fs : List (Str × V)} (ha : Ev X a σ H (rV (.ref q))) (h1 : H q = some (.ins C dx fs)) (h2 : fs.lookup m = none) (hes : Ea X (e :: es) σ H ρs)
    (post : ∀ vs H2, Ex H H2 → ρs.r H vs H2 → sp (.ref q :: (vs ++ dvs)) H2 (fun _ H3 => Wm X rest D σ H3) E0) (hk : k ≤ k' := by decide)
    (hB : ∀ {fd : FuncData} {ps : List Str} {ds : List Value}, Cls X.K C → Meth X.K C m g → FnOk X.prog X.w X.K X.mg X.base CX0 k g fd ps sp → Room k X.A → Binds X.K fd ps ds → Vals dvs ds → PE X (.Call (.Attribute a m apos) (e :: es) [] pos) (tMeth C m sp dvs E0 (We X a) (Wa X (e :: es))) := by
      exact fun c hm F hr hb hd => pe_meth we_ok c hm F hr hb hd pass0 wa_ok) (hs : swapsWith (.Call (.Attribute a m apos) (e :: es) [] pos) none pos'.line X.env = pure false := by rfl) : Wm X (.Expr (.Call (.Attribute a m apos) (e :: es) [] pos) pos' :: rest) D σ H :=
  w_expr (we_meth c hm F hr ha h1 h2 (fun H1 e1 => hes H1 e1 _ fun vs H2 e2 hv => post vs H2 (e1.trans e2) (ρs.n e1 hv)) hk hB) hs
end
section
variable {P : Program} {w : World} {K : Frag} {mg : Str → Option Value} {base : Heap}
def addT (cur : Pe) (t : List Nat) : Pe := ⟨cur.tv, cur.f, cur.s, cur.ts ++ [t]⟩
def p_put (K : Frag) : Sp := fun vs H Q _ => ∃ (a : Addr) (sg : List Nat) (cur : Pe) (past : List Pe) (v : V) (t : List Nat), vs = [.ref a, v] ∧ ShD K H a sg cur past ∧ (rS t).r H v H ∧ OkP sg cur ∧ OkT sg t ∧ cur.ts.length + 1 ≤ 200 ∧ past.length ≤ 10000 ∧
  ∀ H', Ex (off a H) H' → ShD K H' a sg (addT cur t) (past ++ [cur]) → Q (.int ((cntLe (sortK (keysF cur.f cur.s (cur.ts ++ [t]))) (keyF cur.f cur.s t) : Int) - 1)) H'
theorem mk_put (E : En w K mg base) : CalF P w K mg base (He.fAd K ("Shelf", some "put")) 5 [] (p_put K) :=
  calF_of E D_Shelf_put 29 sc_Shelf_put (fun vs H Q EE h => by obtain ⟨a, sg, cur, past, v, t, rfl, _⟩ := h; rfl) (fun cdv Ar outer s H vs Q EE hr h => by
    obtain ⟨a, sg, cur, past, v, t, rfl, hD, hv, ok, okt, hz, hpz, q⟩ := h
    have v0 : ∀ {Hx : Hp} S, (rV (.ref a)).r S (.ref a) Hx := fun _ => rfl
    refine w_set (i := 2) sc_Shelf_put.nd (ev_m1 (ρs := rC (rS t) r0) E (E.meS 103) (mk_key_here E) hr (ev_v (i := 0) rfl v0) hD t (eac (ev_v (i := 1) (ρ := rS t) rfl fun _ => hv) ea0) ⟨ok, okt⟩) fun u H1 e1 hu => ?_
    have hD1 := hD.ex e1
    have hD1' := hD1
    obtain ⟨dx, x0, qp, xs, h1, h2⟩ := hD1'
    have okn : OkP sg (addT cur t) := ⟨ok.f, ok.s, fun z hz => by
      rcases List.mem_append.mp hz with z1 | z1
      · exact ok.t z z1
      · rw [List.mem_singleton.mp z1]
        exact okt, by show (cur.ts ++ [t]).length ≤ 200; rw [List.length_append]; exact hz⟩
    refine w_meth E.clsS (E.meS 101) (mk_keep E) hr (ev_v (i := 0) rfl v0) h1 (by rfl) (eac (ev_otV E (ev_v (i := 0) rfl v0) h1) (eac (ev_fld E.clsS (E.noS 97) (ev_v (i := 0) rfl v0) h1 (lk_str ..)) (eac (ev_starN (ev_ox E (ev_v (i := 0) rfl v0) h1 h2) (by rw [List.length_map]; omega) (ev_v (i := 1) (ρ := rS t) rfl fun _ => Im.ex hv e1)) ea0))) fun vs H2 e2 hvs => ?_
    obtain ⟨w1, w2, w3, rfl, r1, r2, r3⟩ := three_arg hvs
    cases r1
    cases r2
    refine ⟨a, sg, cur, past, addT cur t, w3, by rw [List.append_nil] <;> rfl, hD1.ex e2, rTb_S ((rTb K sg cur.f).m e2 h2.tb), ?_, okn.most, hpz, fun H3 e3 hD3 => ?_⟩
    · show (rTN ((cur.ts ++ [t]).map eS)).r H2 w3 H2
      rw [List.map_append, List.map_singleton]
      exact r3
    · have na := not_ins h1
      have e4 : Ex (off a H) H3 := (off_mono (e1.trans e2)).trans e3
      have ku : Im H3 u (eK (keyF cur.f cur.s t)) := ((hu.tu na.tup).ex ((off_mono e2).trans e3))
      have lz : (sortK (keysF cur.f cur.s (cur.ts ++ [t]))).length ≤ 200 := by
        rw [(sortK_perm _).length_eq, keysF, List.length_map, List.length_append]
        exact hz
      refine w_ret (ρ := rI ((cntLe (sortK (keysF cur.f cur.s (cur.ts ++ [t]))) (keyF cur.f cur.s t) : Int) - 1)) (ev_sub (ev_d (ev_len E.len (ev_qf (ev_lc (own := [("key", 3)]) (lc_if (sortK (keysF cur.f cur.s (cur.ts ++ [t]))) eK (fun k => leB k (keyF cur.f cur.s t)) (fun _ => .int 1) (wk_l (ev_m0 E (E.meS 102) (mk_all_keys E) hr (ev_v (i := 0) rfl v0) hD3 () rfl okn)) rfl (by omega) fun k hk => tn_n (j := 3) sc_Shelf_put.nd fun x H4 e4 hx => ⟨fun s H0 C cl fp => ets1 (et_cmp (op_leT (by have := hu_of hr; exact Nat.lt_of_le_of_lt (Nat.le_succ _) this)) (ev_v (i := 3) rfl fun _ => hx) (ev_v (i := 2) (ρ := rD (eK (keyF cur.f cur.s t))) rfl fun _ => ku.ex e4) r_leK (nomark _)), fun _ s H0 C cl fp => ev_int⟩) rfl sc_Shelf_put.nd))) (by rw [List.length_map] <;> rfl)) ev_int) fun v5 H5 e5 hv5 => ?_
      have hv5 := Im.eint hv5
      subst hv5
      exact q H5 (e4.trans e5) (hD3.ex e5)) (fun _ _ _ _ _ _ us hl => match us, hl with | [_, _], _ => rfl)
end
end Lk

set_option maxHeartbeats 1000000
/-! take, change. -/
namespace Lk
open PySem PySem.Spec PyProof.Rows L2
open Evl (Ex)
theorem idx_first {α : Type} [BEq α] [LawfulBEq α] {n : α} : ∀ {l : List α} {m : Nat}, m < l.idxOf n → l[m]? ≠ some n
  | [], m, h => by simp at h
  | x :: l, m, h => by
    rw [List.idxOf_cons] at h
    cases e : x == n with
    | true => rw [e] at h; simp at h
    | false =>
      rw [e] at h
      have h : m < l.idxOf n + 1 := h
      cases m with
      | zero =>
        intro z
        simp at z
        subst z
        simp at e
      | succ m =>
        rw [List.getElem?_cons_succ]
        exact idx_first (by omega)
theorem idx_atG {α : Type} [BEq α] [LawfulBEq α] {l : List α} {n : α} (h : n ∈ l) : l[l.idxOf n]? = some n := by
  have z := List.idxOf_lt_length_of_mem h
  rw [List.getElem?_eq_getElem z, List.getElem_idxOf]
section
variable {X : Cx} {σ : L2.St} {H H' : Hp} {e a b c o : Expr} {es : List Expr} {pos pos' p p2 apos cpos : Pos} {D : Ends} {rest : List Stmt}
theorem ev_idxT {ts : List (List Nat)} {t : List Nat} (ho : Ev X o σ H (rTN (ts.map eS))) (he : Ev X e σ H (rS t)) (h : t ∈ ts) (hse : starEach [e] X.env = (false, eval e X.env) :: starEach [] X.env := by rfl) (hbase : attributeBase o "index" X.env (eval o X.env) = eval o X.env := by rfl)
    (hfew : ((backTo cpos (starEach [e] X.env)).all (fun x => !x.1) && (backToKw cpos (keywordEach [] X.env)).all (fun x => x.1.isSome) && decide (([e] : List Expr).length + ([] : List Keyword).length + (if ([] : List Keyword).isEmpty then 0 else 1) < 30)) = true := by rfl)
    (hline : (apos.endLine == cpos.line) = true := by rfl) (hplain : (backTo cpos (starEach [] X.env)).any (·.1) = false := by rfl) : Ev X (.Call (.Attribute o "index" apos) [e] [] cpos) σ H (rI (ts.idxOf t : Int)) := fun H1 e1 Q q =>
  ⟨_, pe_idxN we_ok wa_ok hbase hfew hline hse hplain, ho H1 e1 _ fun x H2 e2 hx => by
    obtain ⟨l, xs, rfl, h1, h2⟩ := hx
    have h2 : Ims H2 xs ((ts.map T).map .str) := by rw [List.map_map]; exact h2
    have ex := h2.strs
    subst ex
    have sq := h1.sq (K := X.K)
    refine ⟨?_, eac he ea0 hse H2 (e1.trans e2) _ fun vs H3 e3 hv => ?_⟩
    · rcases h1 with ⟨_, z⟩ | ⟨ob, z1, z2⟩
      · have z : ts = [] := by simpa using z
        rw [z] at h
        cases h
      · exact ⟨l, ob, _, rfl, z1, z2⟩
    obtain ⟨v, rfl, hv1⟩ := one_arg hv
    have hv1 := Im.estr hv1
    subst hv1
    refine ⟨l, ts.map T, T t, ts.idxOf t, rfl, rfl, Evl.ex_t e3 sq, by rw [List.getElem?_map, idx_atG h] <;> rfl, fun m hm z => ?_, q _ H3 (e2.trans e3) (.int _)⟩
    rw [List.getElem?_map] at z
    cases hz : ts[m]? with
    | none => rw [hz] at z; cases z
    | some t' =>
      rw [hz] at z
      have z := T_inj.mp (Option.some.inj z)
      subst z
      exact idx_first hm hz⟩
theorem ev_idxL {ns : List Nat} {n : Nat} (ho : Ev X o σ H (rL (ns.map eN))) (he : Ev X e σ H (rI (n : Int))) (h : n ∈ ns) (hse : starEach [e] X.env = (false, eval e X.env) :: starEach [] X.env := by rfl)
    (hb : PE X (.Call (.Attribute o "index" apos) [e] [] cpos) (tBM X.K "list" (rIndex X.K) (We X o) (Wa X [e])) := by exact pe_bm PySem.F.plainAttrs_list PySem.F.slot_list_index PySem.F.type_list_index mt_index we_ok wa_ok) : Ev X (.Call (.Attribute o "index" apos) [e] [] cpos) σ H (rI (ns.idxOf n : Int)) := fun H1 e1 Q q =>
  ⟨_, hb, ho H1 e1 _ fun x H2 e2 hx => by
    obtain ⟨l, xs, rfl, h1, h2⟩ := hx
    have h2 : Ims H2 xs ((ns.map fun n : Nat => (n : Int)).map .int) := by rw [List.map_map]; exact h2
    have ex := h2.ints
    subst ex
    refine ⟨.inl ⟨rfl, _, SqL.of h1⟩, eac he ea0 hse H2 (e1.trans e2) _ fun vs H3 e3 hv => ?_⟩
    obtain ⟨v, rfl, hv1⟩ := one_arg hv
    have hv1 := Im.eint hv1
    subst hv1
    refine ⟨l, _, _, ns.idxOf n, .int (n : Int), rfl, rfl, SqL.of (e3 _ _ h1), rfl, ?_, by rw [List.getElem?_map, List.getElem?_map, idx_atG h] <;> rfl, by simp [eqV], fun m z' hm z => ?_, q _ H3 (e2.trans e3) (.int _)⟩
    · rw [List.all_map]
      exact List.all_eq_true.mpr fun _ _ => rfl
    · rw [List.getElem?_map, List.getElem?_map] at z
      cases hz : ns[m]? with
      | none => rw [hz] at z; cases z
      | some n' =>
        rw [hz] at z
        cases z
        have ne : n' ≠ n := fun w => idx_first hm (w ▸ hz)
        simp [eqV]
        omega⟩
/-- a text not in a tuple of texts -/
theorem et_ninT {ts : List (List Nat)} {t : List Nat} (ha : Ev X a σ H (rS t)) (hb : Ev X b σ H (rTN (ts.map eS))) (h : t ∈ ts) (hm : behindInMarks .NotIn b = false := by rfl) : Et X (.Compare a [.NotIn] [b] pos) σ H false :=
  et_cmp op_notIn_seq ha hb (fun S x y H2 Q _ _ hx hy q => by
    obtain ⟨l, xs, rfl, h1, h2⟩ := hy
    have h2 : Ims H2 xs ((ts.map T).map .str) := by rw [List.map_map]; exact h2
    have ex := h2.strs
    subst ex
    have hx := Im.estr hx
    subst hx
    refine ⟨l, _, rfl, .inr h1.sq, rfl, ?_, ?_⟩
    · rw [List.all_map]
      exact List.all_eq_true.mpr fun _ _ => rfl
    · have e : inV (.str (T t)) ((ts.map T).map V.str) = true := List.any_eq_true.mpr ⟨.str (T t), List.mem_map.mpr ⟨T t, List.mem_map.mpr ⟨t, h, rfl⟩, rfl⟩, by simp [eqV]⟩
      rw [e]
      exact q.at (.bl _)) hm
end
def dropT (cur : Pe) (n : Nat) : Pe := ⟨cur.tv, cur.f, cur.s, cur.ts.take n ++ cur.ts.drop (n + 1)⟩
section
variable {P : Program} {w : World} {K : Frag} {mg : Str → Option Value} {base : Heap}
def p_take (K : Frag) : Sp := fun vs H Q _ => ∃ (a : Addr) (sg : List Nat) (cur : Pe) (past : List Pe) (v : V) (t : List Nat), vs = [.ref a, v] ∧ ShD K H a sg cur past ∧ (rS t).r H v H ∧ OkP sg cur ∧ t ∈ cur.ts ∧ past.length ≤ 10000 ∧
  ∀ H', Ex (off a H) H' → ShD K H' a sg (dropT cur (cur.ts.idxOf t)) (past ++ [cur]) → Q (.int ((orderF (keysF cur.f cur.s cur.ts)).idxOf (cur.ts.idxOf t) : Int)) H'
theorem mk_take (E : En w K mg base) : CalF P w K mg base (He.fAd K ("Shelf", some "take")) 6 [] (p_take K) :=
  calF_of E D_Shelf_take 30 sc_Shelf_take (fun vs H Q EE h => by obtain ⟨a, sg, cur, past, v, t, rfl, _⟩ := h; rfl) (fun cdv Ar outer s H vs Q EE hr h => by
    obtain ⟨a, sg, cur, past, v, t, rfl, hD, hv, ok, ht, hpz, q⟩ := h
    have v0 : ∀ {Hx : Hp} S, (rV (.ref a)).r S (.ref a) Hx := fun _ => rfl
    have v1 : ∀ {Hx : Hp}, Ex H Hx → ∀ S, (rS t).r S v Hx := fun e S => Im.ex hv e
    have hD0 := hD
    obtain ⟨dx, x0, qp, xs, h1, h2⟩ := hD0
    have il : cur.ts.idxOf t < cur.ts.length := List.idxOf_lt_length_of_mem ht
    refine w_do (ev_pr (mk_need_text E) hr ⟨sg, cur.f, t⟩ ⟨ok.t t ht, ok.f.sn.most⟩ (eac (ev_ot E (ev_v (i := 0) rfl v0) h1 h2) (eac (ev_v (i := 1) (ρ := rS t) rfl (v1 (Ex.refl _))) ea0))) fun H1 e1 => ?_
    refine w_no (et_ninT (ev_v (i := 1) (ρ := rS t) rfl (v1 e1)) (ev_ox E (ev_v (i := 0) rfl v0) (e1 _ _ h1) (h2.ex e1)) ht) fun H2 e2 => ?_
    refine w_set (i := 2) sc_Shelf_take.nd (ev_idxT (ev_ox E (ev_v (i := 0) rfl v0) ((e1.trans e2) _ _ h1) (h2.ex (e1.trans e2))) (ev_v (i := 1) (ρ := rS t) rfl (v1 (e1.trans e2))) ht) fun v3 H3 e3 hv3 => ?_
    have hv3 := Im.eint hv3
    subst hv3
    have e13 := (e1.trans e2).trans e3
    have nin : cur.ts.idxOf t ∈ orderF (keysF cur.f cur.s cur.ts) := (orderF_perm _).mem_iff.mpr (List.mem_range.mpr (by rw [keysF, List.length_map]; exact il))
    have n3 : ∀ {Hx : Hp} S, (rI (cur.ts.idxOf t : Int)).r S (.int (cur.ts.idxOf t : Int)) Hx := fun _ => .int _
    refine w_set (i := 3) sc_Shelf_take.nd (ev_idxL (ns := orderF (keysF cur.f cur.s cur.ts)) (ev_l (ev_m0 E (E.meS 100) (mk_numbers E) hr (ev_v (i := 0) rfl v0) (hD.ex e13) () rfl ok)) (ev_v (i := 2) rfl n3) nin) fun v4 H4 e4 hv4 => ?_
    have hv4 := Im.eint hv4
    subst hv4
    have e14 := e13.trans e4
    have h14 := e14 _ _ h1
    have s14 := h2.ex e14
    have tz := ok.most
    refine w_meth (ρs := rC (rV (.ref cur.tv)) (rC (rV (.int cur.s)) (rC (rTN ((dropT cur (cur.ts.idxOf t)).ts.map eS)) r0))) E.clsS (E.meS 101) (mk_keep E) hr (ev_v (i := 0) rfl v0) h14 (by rfl) (eac (ev_otV E (ev_v (i := 0) rfl v0) h14) (eac (ev_fld E.clsS (E.noS 97) (ev_v (i := 0) rfl v0) h14 (lk_str ..)) (eac (Ev.is (ev_addN (ev_slN (ev_ox E (ev_v (i := 0) rfl v0) h14 s14) ep0 (ep1 (ev_v (i := 2) rfl n3))) (ev_slN (ev_ox E (ev_v (i := 0) rfl v0) h14 s14) (ep1 (i := ((cur.ts.idxOf t + 1 : Nat) : Int)) (ev_d (ev_add (ev_v (i := 2) rfl n3) ev_int) (by congr 1))) ep0) ?_) ?_) ea0))) fun vs H5 e5 hvs => ?_
    · rw [cutL_hi, cutL_lo, List.length_take, List.length_drop, List.length_map]
      omega
    · rw [cutL_hi, cutL_lo, ← List.map_take, ← List.map_drop, ← List.map_append] <;> rfl
    · obtain ⟨w1, w2, w3, rfl, r1, r2, r3⟩ := three_arg hvs
      cases r1
      cases r2
      refine ⟨a, sg, cur, past, dropT cur (cur.ts.idxOf t), w3, by rw [List.append_nil] <;> rfl, (hD.ex e14).ex e5, rTb_S ((rTb K sg cur.f).m e5 s14.tb), r3, ?_, hpz, fun H6 e6 hD6 => ?_⟩
      · show (cur.ts.take _ ++ cur.ts.drop _).length ≤ 200
        rw [List.length_append, List.length_take, List.length_drop]
        omega
      · refine w_ret (ev_v (i := 3) (ρ := rI ((orderF (keysF cur.f cur.s cur.ts)).idxOf (cur.ts.idxOf t) : Int)) rfl fun _ => .int _) fun v7 H7 e7 hv7 => ?_
        have hv7 := Im.eint hv7
        subst hv7
        exact q H7 (((off_mono (e14.trans e5)).trans e6).trans e7) (hD6.ex e7)) (fun _ _ _ _ _ _ us hl => match us, hl with | [_, _], _ => rfl)
end
end Lk

set_option maxHeartbeats 1000000
/-! change, line for +=. -/
namespace Lk
open PySem PySem.Spec PyProof.Rows L2
open Evl (Ex)
section
variable {X : Cx} {σ : L2.St} {H H' : Hp} {e a b c o : Expr} {es : List Expr} {pos pos' p p2 apos : Pos} {ρ : Rp} {ρs : Rps} {w : World} {k k' : Nat} {m : Str} {dvs : List V} {sp : Sp}
theorem ev_methG {C g : Addr} (c : Cls X.K C) (hm : Meth X.K C m g) (F : CalF X.prog X.w X.K X.mg X.base g k dvs sp) (hr : Room k' X.A) {q dx : Addr} {fs : List (Str × V)} (ha : Ev X a σ H (rV (.ref q))) (h1 : H q = some (.ins C dx fs)) (h2 : fs.lookup m = none) (hes : Ea X (e :: es) σ H ρs)
    (post : ∀ S vs H2 Q, Ex H S → Ex S H2 → ρs.r S vs H2 → Go ρ H2 Q → sp (.ref q :: (vs ++ dvs)) H2 Q E0) (hk : k ≤ k' := by decide)
    (hB : ∀ {fd : FuncData} {ps : List Str} {ds : List Value}, Cls X.K C → Meth X.K C m g → FnOk X.prog X.w X.K X.mg X.base CX0 k g fd ps sp → Room k X.A → Binds X.K fd ps ds → Vals dvs ds → PE X (.Call (.Attribute a m apos) (e :: es) [] pos) (tMeth C m sp dvs E0 (We X a) (Wa X (e :: es))) := by
      exact fun c hm F hr hb hd => pe_meth we_ok c hm F hr hb hd pass0 wa_ok) : Ev X (.Call (.Attribute a m apos) (e :: es) [] pos) σ H ρ := fun H1 e1 Q q' =>
  we_meth c hm F hr (ha.mono e1) (e1 _ _ h1) h2 (fun H2 e2 => hes H2 (e1.trans e2) _ fun vs H3 e3 hv => post H2 vs H3 Q (e1.trans e2) e3 hv (q'.mono (e2.trans e3))) hk hB
end
section
variable {P : Program} {w : World} {K : Frag} {mg : Str → Option Value} {base : Heap}
/-- how many pairs turn over -/
def turnsBy (cur : Pe) (f : Fn) (s : Int) : Nat := (turnsF (placesF (orderF (keysF f s cur.ts)) (orderF (keysF cur.f cur.s cur.ts)))).length
def p_change (K : Frag) : Sp := fun vs H Q _ => ∃ (a : Addr) (sg : List Nat) (cur : Pe) (past : List Pe) (tv : Addr) (f : Fn) (s : Int), vs = [.ref a, .ref tv, .int s] ∧ ShD K H a sg cur past ∧ (rTb K sg f).r H (.ref tv) H ∧ OkP sg cur ∧ OkF sg f ∧ OkS s ∧ past.length ≤ 10000 ∧
  ∀ H', Ex (off a H) H' → ShD K H' a sg ⟨tv, f, s, cur.ts⟩ (past ++ [cur]) → Q (.int (turnsBy cur f s : Int)) H'
theorem body_change (E : En w K mg base) (cdv : Value) (Ar : Around) (outer : List Env) (s : Shared) (H : Hp) (vs : List V) (Q : VK) (EE : XK) (hr : Room 6 (Ar.deeper (envOfC D_Shelf_change.qual D_Shelf_change.scope s.heap.objs.size (He.fAd K D_Shelf_change.at_) cdv))) (h : p_change K vs H Q EE) :
    Wm (Bx P w K mg base N_Shelf_change D_Shelf_change cdv Ar outer s H EE) D_Shelf_change.body { nx := fun _ H' => Q .non H', rt := Q } (start N_Shelf_change vs) H := by
  obtain ⟨a, sg, cur, past, tv, f, st, rfl, hD, ht, ok, okf, oks, hpz, q⟩ := h
  have v0 : ∀ {Hx : Hp} S, (rV (.ref a)).r S (.ref a) Hx := fun _ => rfl
  have v1 : ∀ {Hx : Hp}, Ex H Hx → ∀ S, (rTb K sg f).r S (.ref tv) Hx := fun e S => rTb_S ((rTb K sg f).m e ht)
  have v2 : ∀ {Hx : Hp} S, (rI st).r S (.int st) Hx := fun _ => .int _
  have hD0 := hD
  obtain ⟨dx, x0, qp, xs, h1, h2⟩ := hD0
  refine w_no (et_b (et_cmp op_ne (ev_signs E (ev_v (i := 1) rfl (v1 (Ex.refl _)))) (ev_signs E (ev_ot E (ev_v (i := 0) rfl v0) h1 h2)) r_nes (nomark _)) (by rw [decide_eq_true rfl] <;> rfl)) fun H1 e1 => ?_
  refine w_do (ev_pr (mk_need_strength E) hr st oks (eac (ev_v (i := 2) rfl v2) ea0)) fun H2 e2 => ?_
  have e12 := e1.trans e2
  have hD2 := hD.ex e12
  have pz : (placesF (orderF (keysF f st cur.ts)) (orderF (keysF cur.f cur.s cur.ts))).length ≤ 200 := by
    rw [placesF, List.length_map, orderF_most]
    exact ok.most
  refine w_set (i := 3) sc_Shelf_change.nd (ev_d (ev_len E.len (ev_qf (ev_pr (mk_turns_of E) hr (placesF (orderF (keysF f st cur.ts)) (orderF (keysF cur.f cur.s cur.ts))) pz (eac (ev_l (ev_methG (ρs := rC (rV (.ref tv)) (rC (rI st) r0)) E.clsS (E.meS 109) (mk_places_by E) hr (ev_v (i := 0) rfl v0) (e12 _ _ h1) (by rfl) (eac (ev_v (i := 1) rfl fun _ => rfl) (eac (ev_v (i := 2) rfl v2) ea0)) fun S vs H5 Q5 e3 e4 hv g => ?_)) ea0)))) (d' := .int (turnsBy cur f st : Int)) (by rw [List.length_map] <;> rfl)) fun v3 H3 e3 hv3 => ?_
  · obtain ⟨w1, w2, rfl, r1, r2⟩ := two_arg hv
    cases r1
    have r2 := Im.eint r2
    subst r2
    exact ⟨a, sg, cur, past, .ref tv, f, st, by rw [List.append_nil] <;> rfl, (hD2.ex e3).ex e4, rTb_S ((rTb K sg f).m ((e12.trans e3).trans e4) ht), ok, okf, oks, g⟩
  · have hv3 := Im.eint hv3
    subst hv3
    have e13 := e12.trans e3
    have h13 := e13 _ _ h1
    have s13 := h2.ex e13
    refine w_meth (ρs := rC (rV (.ref tv)) (rC (rV (.int st)) (rC (rTN (cur.ts.map eS)) r0))) E.clsS (E.meS 101) (mk_keep E) hr (ev_v (i := 0) rfl v0) h13 (by rfl) (eac (ev_v (i := 1) rfl fun _ => rfl) (eac (ev_v (i := 2) rfl fun _ => rfl) (eac (ev_ox E (ev_v (i := 0) rfl v0) h13 s13) ea0))) fun vs H4 e4 hvs => ?_
    obtain ⟨w1, w2, w3, rfl, r1, r2, r3⟩ := three_arg hvs
    cases r1
    cases r2
    refine ⟨a, sg, cur, past, ⟨tv, f, st, cur.ts⟩, w3, by rw [List.append_nil] <;> rfl, (hD.ex e13).ex e4, rTb_S ((rTb K sg f).m (e13.trans e4) ht), r3, ok.most, hpz, fun H5 e5 hD5 => ?_⟩
    refine w_ret (ev_v (i := 3) (ρ := rI (turnsBy cur f st : Int)) rfl fun _ => .int _) fun v7 H7 e7 hv7 => ?_
    have hv7 := Im.eint hv7
    subst hv7
    exact q H7 (((off_mono (e13.trans e4)).trans e5).trans e7) (hD5.ex e7)
theorem mk_change3 (E : En w K mg base) : CalF P w K mg base (He.fAd K ("Shelf", some "change")) 7 [.int 3] (p_change K) :=
  calF_ofD E D_Shelf_change 33 sc_Shelf_change (fun vs H Q EE h => by obtain ⟨a, sg, cur, past, tv, f, s, rfl, _⟩ := h; rfl) (fun cdv Ar outer s H vs Q EE hr h => body_change E cdv Ar outer s H vs Q EE hr h) [.int 3] 2 0 rfl
    (fun _ _ _ _ _ _ _ us its hl hi => match us, hl, its, hi with | [_, _], _, [_], _ => ⟨_, rfl, rfl⟩) (by simp)
theorem mk_change (E : En w K mg base) : CalF P w K mg base (He.fAd K ("Shelf", some "change")) 7 [] (p_change K) :=
  calF_ofD E D_Shelf_change 33 sc_Shelf_change (fun vs H Q EE h => by obtain ⟨a, sg, cur, past, tv, f, s, rfl, _⟩ := h; rfl) (fun cdv Ar outer s H vs Q EE hr h => body_change E cdv Ar outer s H vs Q EE hr h) [.int 3] 3 1 rfl
    (fun _ _ _ _ _ _ _ us its hl hi => match us, hl, its, hi with | [_, _, _], _, [_], _ => ⟨_, rfl, rfl⟩) (by simp)
abbrev p_glineN (K : Frag) : Sp := PrS K (fun _ : Unit => []) (fun z _ => rTN ((lineF z.cur.f z.cur.s z.cur.ts).map eS)) (fun z _ => OkZ z)
theorem mk_glineN (E : En w K mg base) : CalF P w K mg base (pgA K "Shelf" "line") 6 [] (p_glineN K) :=
  calG_of E P_Shelf_line 2 sc_Shelf_line (fun vs H Q EE h => by obtain ⟨a, z, b, ws, S, rfl, _, _, h, _⟩ := h; cases h; rfl) (fun cdv Ar outer s H vs Q EE hr h => by
    obtain ⟨a, ⟨sg, cur, past⟩, _, ws, S, rfl, hD, _, hw, ok, q⟩ := h
    cases hw
    have ok : OkP sg cur := ok
    have hD : ShD K H a sg cur past := hD
    refine w_ret (ev_tupleN E.tup (ev_l (ev_f (ev_lc (own := [("number", 1)]) (lc_all (orderF (keysF cur.f cur.s cur.ts)) eN (fun n => eS (cur.ts.getD n [])) (wk_l (ev_m0 E (E.meS 100) (mk_numbers E) hr (ev_v (i := 0) rfl fun _ => rfl) hD () rfl ok)) rfl (by rw [orderF_most]; have := ok.most; omega) fun n hn => tn_0 (j := 1) sc_Shelf_line.nd fun x H2 e2 hx s H0 C cl fp => ?_) rfl sc_Shelf_line.nd) (ds' := (lineF cur.f cur.s cur.ts).map eS) (by rw [lineF, List.map_map] <;> rfl)))) q
    obtain ⟨dx, x, qp, xs, h1, h2⟩ := hD.ex e2
    exact ev_ixN (ev_ox E (ev_v (i := 0) rfl fun _ => rfl) h1 h2) (ev_v (i := 1) rfl fun _ => hx) (getD_atS (orderF_ts hn))) (fun _ _ _ _ _ _ us hl => match us, hl with | [_], _ => rfl)
end
end Lk

set_option maxHeartbeats 1000000
/-! shelf += shelf. -/
namespace Lk
open PySem PySem.Spec PyProof.Rows L2
open Evl (Ex)
section
variable {X : Cx} {σ : L2.St} {H H' : Hp} {e a b c o : Expr} {es : List Expr} {pos pos' p p2 apos : Pos} {w : World}
/-- isinstance(x, Shelf) of a shelf -/
theorem ev_isSh {q dx : Addr} {fs : List (Str × V)} (E : En w X.K X.mg X.base) (ha : Ev X a σ H (rV (.ref q))) (h1 : H q = some (.ins (He.ga X.K "Shelf") dx fs)) (hg : Gl X "isinstance" := by rfl) (hgt : Gl X "Shelf" := by rfl)
    (he : starEach [a, .Name "Shelf" p2] X.env = (false, eval a X.env) :: starEach [.Name "Shelf" p2] X.env := by rfl) (he2 : starEach [.Name "Shelf" p2] X.env = (false, eval (.Name "Shelf" p2) X.env) :: starEach [] X.env := by rfl)
    (hpl : (backTo pos (starEach [.Name "Shelf" p2] X.env)).any (·.1) = false := by rfl) : Ev X (.Call (.Name "isinstance" p) [a, .Name "Shelf" p2] [] pos) σ H (rB true) :=
  ev_cb call_isi E.isi (by decide +kernel) (eac ha (eac (ev_glo (E.glo 32) hgt) ea0 he2) he) (fun S vs H2 Q e1 e2 hv g => by
    obtain ⟨v, w, rfl, r1, r2⟩ := two_arg hv
    have r1 : v = .ref q := r1
    have r2 : w = .ref _ := r2
    subst r1 r2
    have si := sisiB_ok (E.exi 11)
    exact ⟨.ref q, .ref _, _, _, true, rfl, .own _, .base (.ins ((e1.trans e2) _ _ h1) E.clsS si.ca si.cn si.ct si.cm), of_decide_eq_true (E.exi 10), g.at (.bl _)⟩) hg (by decide) (by decide) he hpl
end
section
variable {P : Program} {w : World} {K : Frag} {mg : Str → Option Value} {base : Heap}
def addL (cur oth : Pe) : Pe := ⟨cur.tv, cur.f, cur.s, cur.ts ++ lineF oth.f oth.s oth.ts⟩
def p_iadd (K : Frag) : Sp := fun vs H Q _ => ∃ (a b : Addr) (sg : List Nat) (cur oth : Pe) (past past2 : List Pe), vs = [.ref a, .ref b] ∧ ShD K H a sg cur past ∧ ShD K H b sg oth past2 ∧ OkP sg cur ∧ OkP sg oth ∧ cur.ts.length + oth.ts.length ≤ 200 ∧ past.length ≤ 10000 ∧
  ∀ H', Ex (off a H) H' → ShD K H' a sg (addL cur oth) (past ++ [cur]) → Q (.ref a) H'
theorem mk_iadd (E : En w K mg base) : CalF P w K mg base (He.fAd K ("Shelf", some "__iadd__")) 8 [] (p_iadd K) :=
  calF_of E D_Shelf___iadd__ 25 sc_Shelf___iadd__ (fun vs H Q EE h => by obtain ⟨a, b, sg, cur, oth, past, past2, rfl, _⟩ := h; rfl) (fun cdv Ar outer s H vs Q EE hr h => by
    obtain ⟨a, b, sg, cur, oth, past, past2, rfl, hD, hD2, ok, ok2, hz, hpz, q⟩ := h
    have v0 : ∀ {Hx : Hp} S, (rV (.ref a)).r S (.ref a) Hx := fun _ => rfl
    have v1 : ∀ {Hx : Hp} S, (rV (.ref b)).r S (.ref b) Hx := fun _ => rfl
    have hD0 := hD
    have hD20 := hD2
    obtain ⟨dx, x0, qp, xs, h1, h2⟩ := hD0
    obtain ⟨dx2, x02, qp2, xs2, g1, g2⟩ := hD20
    refine w_no (et_not (et_v (ev_isSh E (ev_v (i := 1) rfl v1) g1))) fun H1 e1 => ?_
    refine w_no (et_b (et_cmp op_ne (ev_signs E (ev_ot E (ev_v (i := 1) rfl v1) (e1 _ _ g1) (g2.ex e1))) (ev_signs E (ev_ot E (ev_v (i := 0) rfl v0) (e1 _ _ h1) (h2.ex e1))) r_nes (nomark _)) (by rw [decide_eq_true rfl] <;> rfl)) fun H2 e2 => ?_
    have e12 := e1.trans e2
    have h12 := e12 _ _ h1
    have s12 := h2.ex e12
    refine w_meth (ρs := rC (rV (.ref cur.tv)) (rC (rV (.int cur.s)) (rC (rTN ((addL cur oth).ts.map eS)) r0))) E.clsS (E.meS 101) (mk_keep E) hr (ev_v (i := 0) rfl v0) h12 (by rfl) (eac (ev_otV E (ev_v (i := 0) rfl v0) h12) (eac (ev_fld E.clsS (E.noS 97) (ev_v (i := 0) rfl v0) h12 (lk_str ..)) (eac (Ev.is (ev_addN (ev_ox E (ev_v (i := 0) rfl v0) h12 s12) (ev_prS E (E.prS 2) (mk_glineN E) hr (ev_v (i := 1) rfl v1) (hD2.ex e12) () rfl ok2) ?_) ?_) ea0))) fun vs H4 e4 hvs => ?_
    · show (cur.ts.map eS).length + ((lineF oth.f oth.s oth.ts).map eS).length ≤ 1000000
      rw [List.length_map, List.length_map, lineF_len]
      omega
    · show rTN (cur.ts.map eS ++ (lineF oth.f oth.s oth.ts).map eS) = _
      rw [← List.map_append] <;> rfl
    · obtain ⟨w1, w2, w3, rfl, r1, r2, r3⟩ := three_arg hvs
      cases r1
      cases r2
      refine ⟨a, sg, cur, past, addL cur oth, w3, by rw [List.append_nil] <;> rfl, (hD.ex e12).ex e4, rTb_S ((rTb K sg cur.f).m e4 s12.tb), r3, ?_, hpz, fun H5 e5 hD5 => ?_⟩
      · show (cur.ts ++ lineF oth.f oth.s oth.ts).length ≤ 200
        rw [List.length_append, lineF_len]
        exact hz
      · refine w_ret (ev_v (i := 0) (ρ := rV (.ref a)) rfl v0) fun v7 H7 e7 hv7 => ?_
        have hv7 : v7 = .ref a := hv7
        subst hv7
        exact q H7 (((off_mono (e12.trans e4)).trans e5).trans e7) (hD5.ex e7)) (fun _ _ _ _ _ _ us hl => match us, hl with | [_, _], _ => rfl)
end
end Lk

set_option maxHeartbeats 1000000
/-! == and != with an empty list or tuple; e.f as a target; undo. -/
namespace Lk
open PySem PySem.Spec PyProof.Rows L2
open Evl (Ex)
section
variable {X : Cx}
theorem op_eqT0 (hu : X.A.units < cLine) : OpR X (compareOp .Eq) (fun x y H Q => ∃ a b xs, x = .ref a ∧ y = .ref b ∧ SqT X.K H a xs ∧ SqT X.K H b [] ∧ Q (.bl xs.isEmpty) H) := by
  intro pins s σ H x y v u Q I rx ry h
  obtain ⟨a, b, xs, rfl, rfl, ha, hb, q⟩ := h
  cases rx
  cases ry
  obtain ⟨its, r1, p1, _⟩ := I.tuple ha
  obtain ⟨its2, r2, p2, _⟩ := I.tuple hb
  cases r2
  have k := SeqAt.RcAt.tuples (e := fun _ => true) (show s.heap.IsTuple a its.toArray from p1) (show s.heap.IsTuple b ([] : List Value).toArray from p2) hu (fun j _ h2 => by simp at h2)
  have e : ((List.range (min its.toArray.size ([] : List Value).toArray.size)).all (fun _ => true) && its.toArray.size == ([] : List Value).toArray.size) = xs.isEmpty := by
    have l := r1.length
    cases xs with
    | nil =>
      cases r1
      rfl
    | cons x xs =>
      cases r1
      simp
  rw [e] at k
  exact k _ _ _ _ ⟨.bl _, H, I, rfl, q⟩
theorem op_eqL0 (hu : X.A.units < cLine) : OpR X (compareOp .Eq) (fun x y H Q => ∃ a b xs, x = .ref a ∧ y = .ref b ∧ SqL X.K H a xs ∧ SqL X.K H b [] ∧ Q (.bl xs.isEmpty) H) := by
  intro pins s σ H x y v u Q I rx ry h
  obtain ⟨a, b, xs, rfl, rfl, ha, hb, q⟩ := h
  cases rx
  cases ry
  obtain ⟨its, r1, p1, _⟩ := I.list ha
  obtain ⟨its2, r2, p2, _⟩ := I.list hb
  cases r2
  cases xs with
  | nil =>
    cases r1
    exact SeqAt.RcAt.lists (e := fun _ => true) p1.isList p2.isList rfl hu (fun j _ h2 => by simp at h2) _ _ _ _ ⟨.bl _, H, I, rfl, q⟩
  | cons x xs =>
    cases r1
    exact SeqAt.RcAt.lists_lengths p1.isList p2.isList (by simp) hu _ _ _ _ ⟨.bl _, H, I, rfl, q⟩
theorem op_neL0 (hu : X.A.units < cLine) : OpR X (compareOp .NotEq) (fun x y H Q => ∃ a b xs, x = .ref a ∧ y = .ref b ∧ SqL X.K H a xs ∧ SqL X.K H b [] ∧ Q (.bl (!xs.isEmpty)) H) := by
  intro pins s σ H x y v u Q I rx ry h
  obtain ⟨a, b, xs, rfl, rfl, ha, hb, q⟩ := h
  cases rx
  cases ry
  obtain ⟨its, r1, p1, _⟩ := I.list ha
  obtain ⟨its2, r2, p2, _⟩ := I.list hb
  cases r2
  cases xs with
  | nil =>
    cases r1
    exact SeqAt.RcNeAt.lists (e := fun _ => true) p1.isList p2.isList rfl hu (fun j _ h2 => by simp at h2) _ _ _ _ ⟨.bl _, H, I, rfl, q⟩
  | cons x xs =>
    cases r1
    exact SeqAt.RcNeAt.lists_lengths p1.isList p2.isList (by simp) hu _ _ _ _ ⟨.bl _, H, I, rfl, q⟩
/-! e.f as a target -/
def gFld (K : Frag) (ta : TE) (f : Str) : TG := fun v σ H Q => ta σ H fun x H1 => ∃ a C dx fs, x = .ref a ∧ H1 a = some (.ins C dx fs) ∧ Cls K C ∧ NoAttr K C f ∧ fs.length < 1000 ∧ Q σ (upd H1 a (.ins C dx (putF f v fs)))
theorem pg_fld {o : Expr} {f : Str} {pos : Pos} {ta : TE} (ho : PE X o ta) (ha : ∀ v, assign (.Attribute o f pos) X.env v = (do
      let ov ← holding [v] (eval o X.env)
      standAt pos.atName
      holding [v, ov] (setAttr ov f v)
      release [v, ov] []) := by intro _; rfl) : PG X (.Attribute o f pos) (gFld X.K ta f) := by
  refine ⟨fun pins s σ H v u Q I r h => ?_⟩
  rw [ha]
  refine wpAny_bind (wpAny_holding (thn (ho.run pins s σ H _ I h) fun ov s1 ⟨x, H1, I1, r1, a, C, dx, fs, ex, ea, c, n, l, q1⟩ => ?_))
  subst ex
  have ro : ov = Value.ref a := r1
  subst ro
  refine wpAny_bind (wpAny_standAt (wpAny_bind (wpAny_holding (setattr_ok I1 ea c n l r fun s3 I3 => ?_))))
  exact wpAny_release ⟨σ, _, I3, q1⟩
end
end Lk

set_option maxHeartbeats 400000
/-! undo of a shelf with deeds behind it. -/
namespace Lk
open PySem PySem.Spec PyProof.Rows L2
open Evl (Ex)
theorem PsR.last {K : Frag} {H : Hp} {sg : List Nat} {p : Pe} : ∀ (ps : List Pe) {xs : List V}, PsR K H sg xs (ps ++ [p]) → ∃ ys v, xs = ys ++ [v] ∧ PsR K H sg ys ps ∧ ∃ q t, v = .ref q ∧ H q = some (.tup [.ref p.tv, .int p.s, t]) ∧ (rTN (p.ts.map eS)).r H t H ∧ (rTb K sg p.f).r H (.ref p.tv) H
  | [], xs, h => by
    have h : PsR K H sg xs [p] := h
    unfold PsR at h
    cases h with
    | cons hh t =>
      cases t
      exact ⟨[], _, rfl, .nil, hh⟩
  | r :: ps, xs, h => by
    have h : PsR K H sg xs (r :: (ps ++ [p])) := h
    unfold PsR at h
    cases h with
    | cons hh t =>
      obtain ⟨ys, v, e, r1, r2⟩ := PsR.last ps t
      refine ⟨_ :: ys, v, ?_, .cons hh r1, r2⟩
      rw [e, List.cons_append]
section
variable {X : Cx} {σ : L2.St} {H H' : Hp} {e a b c o tg : Expr} {pos p2 : Pos} {ρ : Rp} {D : Ends} {rest : List Stmt}
theorem Ev.app (h : Ev X e σ H ρ) {Q : VK} (k : ∀ v H1, Ex H H1 → ρ.r H v H1 → Q v H1) : We X e σ H Q := h H (Ex.refl H) Q fun v H1 e1 r => k v H1 e1 r
/-- target = e, by the target's rule -/
theorem w_asgT {gt : TG} (he : Ev X e σ H ρ) (hg : PG X tg gt) (k : ∀ v H1, Ex H H1 → ρ.r H v H1 → gt v σ H1 (Wm X rest D)) (hs : swapsWithSole [tg] e pos.line X.env = pure false := by rfl) (hw : swappedStores [tg] e X.env = pure none := by rfl)
    (h1 : (assignEach [tg] X.env).map (·.2) = [assign tg X.env] := by rfl) : Wm X (.Assign [tg] e pos :: rest) D σ H := w_cons ⟨_, ps_asg we_ok hg hs hw h1, he H (Ex.refl H) _ fun v H1 e1 h => k v H1 e1 h⟩
/-- t[-1] of a tuple of any values -/
theorem ev_lastV {q : Addr} {xs : List V} {v : V} {i : Int} (ha : Ev X a σ H (rV (.ref q))) (hq : H q = some (.tup xs)) (hb : Ev X b σ H (rI i)) (h : atI xs i = some v) (hs : PlainIx b := by exact fun _ _ => rfl) : Ev X (.Subscript a b pos) σ H (rV v) := fun H1 e1 Q g =>
  ⟨_, pe_ix ix_tup we_ok we_ok hs, ha H1 e1 _ fun x H2 e2 h2 => hb H2 (e1.trans e2) _ fun y H3 e3 h3 => by
    have h2 : x = .ref q := h2
    have h3 := Im.eint h3
    subst h2 h3
    exact ⟨q, xs, i, v, rfl, rfl, SqT.of (((e1.trans e2).trans e3) _ _ hq), h, g v H3 (e2.trans e3) rfl⟩⟩
/-- t[lo:hi] of a tuple of any values -/
theorem ev_slV {q : Addr} {xs : List V} {lo hi : Option Expr} {i j : Option Int} (ha : Ev X a σ H (rV (.ref q))) (hq : H q = some (.tup xs)) (hl : Ep X lo σ H i) (hh : Ep X hi σ H j) : Ev X (.Subscript a (.Slice lo hi none p2) pos) σ H (rTV (cutV xs i j)) := fun H1 e1 Q g =>
  ⟨_, pe_slice sl_tupA we_ok wp_ok wp_ok, ha H1 e1 _ fun x H2 e2 h2 => hl H2 (e1.trans e2) _ fun H3 e3 => hh H3 ((e1.trans e2).trans e3) _ fun H4 e4 => by
    have h2 : x = .ref q := h2
    subst h2
    have hq4 := (((e1.trans e2).trans e3).trans e4) _ _ hq
    refine ⟨q, xs, rfl, SqT.of hq4, fun z => g _ H4 ((e2.trans e3).trans e4) ⟨q, rfl, ?_⟩, fun _ r hr => g _ _ (((e2.trans e3).trans e4).trans (Ex.new hr)) ⟨r, rfl, upd_same⟩⟩
    have e : cutV xs i j = xs := by
      unfold cutV
      rw [z.1, z.2, List.drop_zero, Nat.sub_zero, List.take_length]
    rw [e]
    exact hq4⟩
end
theorem cutV_last (ys : List V) (v : V) : cutV (ys ++ [v]) none (some (-1)) = ys := by
  unfold cutV
  rw [HT.sIx_none]
  have e : HT.sIx (ys ++ [v]).length (ys ++ [v]).length (some (-1)) = ys.length := by
    simp [HT.sIx]
    try omega
  rw [e]
  simp
section
variable {P : Program} {w : World} {K : Frag} {mg : Str → Option Value} {base : Heap}
def p_undo (K : Frag) : Sp := fun vs H Q _ => ∃ (a : Addr) (sg : List Nat) (cur p : Pe) (past : List Pe), vs = [.ref a] ∧ ShD K H a sg cur (past ++ [p]) ∧ ∀ H', Ex (off a H) H' → ShD K H' a sg p past → Q .non H'
theorem mk_undo (E : En w K mg base) : CalF P w K mg base (He.fAd K ("Shelf", some "undo")) 1 [] (p_undo K) :=
  calF_of E D_Shelf_undo 35 sc_Shelf_undo (fun vs H Q EE h => by obtain ⟨a, sg, cur, p, past, rfl, _⟩ := h; rfl) (fun cdv Ar outer s H vs Q EE hr h => by
    obtain ⟨a, sg, cur, p, past, rfl, hD, q⟩ := h
    have v0 : ∀ {Hx : Hp} S, (rV (.ref a)).r S (.ref a) Hx := fun _ => rfl
    obtain ⟨dx, x0, qp, xs, h1, h2⟩ := hD
    obtain ⟨ys, v, rfl, r1, q1, t1, rfl, r2, r3, r4⟩ := PsR.last past h2.ps
    have hu : (Bx P w K mg base N_Shelf_undo D_Shelf_undo cdv Ar outer s H EE).A.units < cLine := by have := hu_of hr; exact Nat.lt_of_le_of_lt (Nat.le_succ _) this
    refine w_no (et_b (et_cmp (t := (ys ++ [V.ref q1]).isEmpty) (op_eqT0 hu) (ev_opV E (ev_v (i := 0) rfl v0) h1) (ev_unit) (fun S x y H2 Q2 e1 e2 hx hy g => by
      have hx : x = .ref qp := hx
      obtain ⟨qe, xe, rfl, he1, he2⟩ := Im.etup hy
      cases he2
      exact ⟨qp, qe, ys ++ [V.ref q1], hx, rfl, SqT.of ((e1.trans e2) _ _ h2.q), SqT.of he1, g.at (.bl _)⟩) (nomark _)) (by cases ys <;> rfl)) fun H1 e1 => ?_
    have a1 := e1 _ _ h1
    have s1 := h2.ex e1
    have r2' := e1 _ _ r2
    refine w_asgT (ev_lastV (v := .ref q1) (ev_opV E (ev_v (i := 0) rfl v0) a1) s1.q (ev_neg ev_int) (by rw [atI_last] <;> rfl)) (pg_tup (n := 3) rfl (pgs_cons (pg_fld we_ok) (pgs_cons (pg_fld we_ok) (pgs_cons (pg_fld we_ok) pgs_nil)))) fun v2 H2 e2 hv2 => ?_
    have hv2 : v2 = .ref q1 := hv2
    subst hv2
    have a2 := e2 _ _ a1
    refine ⟨q1, _, rfl, SqT.of (e2 _ _ r2'), rfl, _, _, rfl, Ev.app (ev_v (ρ := rV (.ref a)) (i := 0) rfl v0) fun v3 H3 e3 hv3 => ?_⟩
    have hv3 : v3 = .ref a := hv3
    subst hv3
    refine ⟨a, _, dx, _, rfl, e3 _ _ a2, E.clsS, E.noS 96, by simp [shF], ?_⟩
    rw [put_tab]
    refine ⟨_, _, rfl, Ev.app (ev_v (ρ := rV (.ref a)) (i := 0) rfl v0) fun v4 H4 e4 hv4 => ?_⟩
    have hv4 : v4 = .ref a := hv4
    subst hv4
    refine ⟨a, _, dx, _, rfl, e4 _ _ upd_same, E.clsS, E.noS 97, by simp [shF], ?_⟩
    rw [put_str]
    refine ⟨_, _, rfl, Ev.app (ev_v (ρ := rV (.ref a)) (i := 0) rfl v0) fun v5 H5 e5 hv5 => ?_⟩
    have hv5 : v5 = .ref a := hv5
    subst hv5
    refine ⟨a, _, dx, _, rfl, e5 _ _ upd_same, E.clsS, E.noS 98, by simp [shF], rfl, ?_⟩
    rw [put_texts]
    have b5 : Ex (off a H2) (upd H5 a (.ins (He.ga K "Shelf") dx (shF p.tv p.s t1 (.ref qp)))) := ex_updl ((ex_updl ((ex_updl (off_ex.trans e3)).trans e4)).trans e5)
    have n2 := not_ins a2
    have s2 := (s1.ex e2).off n2
    have q5 := b5 _ _ s2.q
    refine w_fld E.clsS (E.noS 99) (ev_slV (ev_fld E.clsS (E.noS 99) (ev_v (i := 0) rfl v0) upd_same (lk_pst ..)) q5 ep0 (ep1 (ev_neg ev_int))) (ev_v (i := 0) rfl v0) upd_same (by simp [shF]) fun v6 H6 e6 hv6 => w_end ?_
    obtain ⟨q6, rfl, h6⟩ := hv6
    rw [put_past]
    have c6 : cutV (ys ++ [V.ref q1]) none (some (-1)) = ys := cutV_last _ _
    have h6 : H6 q6 = some (.tup ys) := by rw [← c6]; exact h6
    have b6 : Ex (off a H2) (upd H6 a (.ins (He.ga K "Shelf") dx (shF p.tv p.s t1 (.ref q6)))) := ex_updl (b5.trans e6)
    have e12 := e1.trans e2
    refine q _ ((off_mono e12).trans b6) ⟨dx, t1, q6, ys, upd_same, ⟨(rTN _).m b6 (tn_off (S' := H) ((rTN _).m e12 r3) n2), ?_, ((r1.ex e12).off n2).ex b6, rTb_S ((rTb K sg p.f).m b6 (tb_off (S' := H) ((rTb K sg p.f).m e12 r4) n2))⟩⟩
    exact tu_upd (e6 _ _ upd_same) (fun _ z => by cases z) _ _ h6) (fun _ _ _ _ _ _ us hl => match us, hl with | [_], _ => rfl)
end
end Lk

set_option maxHeartbeats 1000000
/-! What is drawn: the state, _law_draw. -/
namespace Lk
open PySem PySem.Spec PyProof.Rows L2
open Evl (Ex)
def kyC : Key := .inr "cells"
def kyG : Key := .inr "great"
def kyN : Key := .inr "spot"
def mD (c g : Addr) (n : Int) : List (Key × V) := [(kyC, .ref c), (kyG, .ref g), (kyN, .int n)]
theorem mD_c (c g : Addr) (n : Int) : valV (mD c g n) kyC = some (.ref c) := by rfl
theorem mD_g (c g : Addr) (n : Int) : valV (mD c g n) kyG = some (.ref g) := by rfl
theorem mD_n (c g : Addr) (n : Int) : valV (mD c g n) kyN = some (.int n) := by rfl
theorem mD_pn (c g : Addr) (n n' : Int) : putK (mD c g n) kyN (.int n') = mD c g n' := by rfl
/-- the state of the drawing; r draws are left -/
structure Mst (m c g : Addr) (H : Hp) (r : Nat) : Prop where
  sm : ∃ n : Int, H m = some (.dK (mD c g n)) ∧ 0 ≤ n ∧ n + (r : Int) ≤ 2 ^ 40
  sc : ∃ cs, OkCs cs ∧ H c = some (.lst (cs.map V.int))
  sg : ∃ gs : List Int, H g = some (.lst (gs.map V.int))
  ne : c ≠ g
theorem Mst.ex {m c g : Addr} {H H' : Hp} {r : Nat} (s : Mst m c g H r) (e : Ex H H') : Mst m c g H' r := by
  obtain ⟨⟨n, h1, h2⟩, ⟨cs, h3, h4⟩, ⟨gs, h5⟩, ne⟩ := s
  exact ⟨⟨n, e _ _ h1, h2⟩, ⟨cs, h3, e _ _ h4⟩, ⟨gs, e _ _ h5⟩, ne⟩
theorem Mst.mono {m c g : Addr} {H : Hp} {r r' : Nat} (s : Mst m c g H r) (h : r' ≤ r) : Mst m c g H r' := by
  obtain ⟨⟨n, h1, h2, h3⟩, h4, h5, ne⟩ := s
  exact ⟨⟨n, h1, h2, by omega⟩, h4, h5, ne⟩
/-- what a draw leaves -/
structure Dr (m g : Addr) (H H' : Hp) : Prop where
  ex : Ex (off g (off m H)) H'
  em : H g = some (.lst []) → H' g = some (.lst [])
theorem Dr.keep {m g : Addr} {H H' : Hp} (d : Dr m g H H') {b : Addr} {u : HO} (h : H b = some u) (n : b ≠ m) (n2 : b ≠ g ∨ u = .lst []) : H' b = some u := by
  by_cases e : b = g
  · rcases n2 with z | z
    · exact absurd e z
    · subst z
      rw [e] at h ⊢
      exact d.em h
  · exact d.ex _ _ (by rw [off_ne e, off_ne n]; exact h)
theorem Dr.of {m g : Addr} {H H' : Hp} (e : Ex H H') : Dr m g H H' := ⟨off_ex.trans (off_ex.trans e), fun h => e _ _ h⟩
theorem Dr.trans {m g : Addr} {H H1 H2 : Hp} (a : Dr m g H H1) (b : Dr m g H1 H2) : Dr m g H H2 := by
  refine ⟨fun x u z => ?_, fun h => b.em (a.em h)⟩
  have n1 : x ≠ g := fun q => by rw [q, off_at] at z; cases z
  have n2 : x ≠ m := fun q => by rw [off_ne n1, q, off_at] at z; cases z
  exact b.ex _ _ (by rw [off_ne n1, off_ne n2]; exact a.ex _ _ z)
section
variable {X : Cx} {σ : L2.St} {H H' : Hp} {e a b : Expr} {pos : Pos}
/-- d[k] of a dict of any values -/
theorem ev_dV {q : Addr} {kvs : List (Key × V)} {k : Key} {v : V} (hu : X.A.units + 1 < cLine) (ha : Ev X a σ H (rV (.ref q))) (hb : Ev X b σ H (rV (kV k))) (hq : H q = some (.dK kvs)) (h : valV kvs k = some v) (hs : NoSl b := by exact fun _ _ => rfl) : Ev X (.Subscript a b pos) σ H (rV v) := fun H1 e1 Q g =>
  ⟨_, pe_dget hu we_ok we_ok hs, ha H1 e1 _ fun x H2 e2 h2 => hb H2 (e1.trans e2) _ fun y H3 e3 h3 => by
    have h2 : x = .ref q := h2
    have h3 : y = kV k := h3
    subst h2 h3
    exact ⟨q, v, rfl, by rw [← h]; exact dget_rd (.inl (((e1.trans e2).trans e3) _ _ hq)), g v H3 (e2.trans e3) rfl⟩⟩
end
section
variable {P : Program} {w : World} {K : Frag} {mg : Str → Option Value} {base : Heap}
def p_draw : Sp := fun vs H Q _ => ∃ (m c g : Addr) (lim : Int) (r : Nat), vs = [.ref m, .int lim] ∧ Mst m c g H (r + 1) ∧ 1 ≤ lim ∧ lim < 1000000 ∧ ∀ (H' : Hp) (k : Int), Dr m g H H' → Mst m c g H' r → 0 ≤ k → k < lim → Q (.int k) H'
theorem mk_draw (E : En w K mg base) : Cal P w K mg base "_law_draw" 2 [] p_draw :=
  cal_of E D__law_draw 38 35 sc__law_draw (fun vs H Q EE h => by obtain ⟨m, c, g, lim, r, rfl, _⟩ := h; rfl) (fun cdv Ar outer s H vs Q EE hr h => by
    obtain ⟨m, c, g, lim, r, rfl, st, l1, l2, q⟩ := h
    obtain ⟨⟨n, hm, n0, n1⟩, ⟨cs, okc, hc⟩, ⟨gs, hg⟩, ne⟩ := st
    have vm : ∀ {Hx : Hp} S, (rV (.ref m)).r S (.ref m) Hx := fun _ => rfl
    have vl : ∀ {Hx : Hp} S, (rI lim).r S (.int lim) Hx := fun _ => .int _
    have vn : ∀ {Hx : Hp} S, (rI n).r S (.int n) Hx := fun _ => .int _
    have mc : m ≠ c := fun z => by rw [z, hc] at hm; cases hm
    have mg' : m ≠ g := fun z => by rw [z, hg] at hm; cases hm
    obtain ⟨okl, okv⟩ := okc
    -- the last two rows, wherever they begin
    have fin : ∀ (x y z : Option V) (H' : Hp), Dr m g H H' → H' m = some (.dK (mD c g (n + 1))) → H' c = some (.lst (cs.map V.int)) → (∃ gs : List Int, H' g = some (.lst (gs.map V.int))) → Wm (Bx P w K mg base N__law_draw D__law_draw cdv Ar outer s H EE) (D__law_draw.body.drop 3) { nx := fun _ H' => Q .non H', rt := Q } [some (.ref m), some (.int lim), some (.int n), x, y, z] H' := fun x y z H' d fm fc fg => by
      refine w_set (i := 3) sc__law_draw.nd (ev_dV (k := kyC) (hu_of hr) (ev_v (i := 0) rfl vm) (ev_ks (ev_str)) fm (mD_c ..)) fun v5 H5 e5 hv5 => ?_
      have hv5 : v5 = .ref c := hv5
      subst hv5
      have em : n % 64 = ((n % 64).toNat : Int) := by omega
      have jl : (n % 64).toNat < cs.length := by rw [okl]; omega
      have cv := okv (cs.getD (n % 64).toNat 0) (by rw [List.getD_eq_getElem?_getD, List.getElem?_eq_getElem jl]; exact List.getElem_mem jl)
      have lc : ∀ S, (rL (cs.map .int)).r S (.ref c) H5 := fun _ => ⟨c, _, rfl, e5 _ _ fc, ims_ints _⟩
      generalize hx0 : cs.getD (n % 64).toNat 0 = x0 at cv
      have m1 := mixF_lt (x0 + 31 * (n / 64)) n
      refine w_ret (ev_mod (ev_toint E.int (ev_pr (mk_law_mixed E) hr (mixF (x0 + 31 * (n / 64)) n, n + 7) ⟨by omega, by show 0 ≤ n + 7 ∧ n + 7 < 10 ^ 15; omega⟩ (eac (ev_pr (mk_law_mixed E) hr (x0 + 31 * (n / 64), n) ⟨by show 0 ≤ x0 + 31 * (n / 64) ∧ x0 + 31 * (n / 64) < 10 ^ 15; omega, by show 0 ≤ n ∧ n < 10 ^ 15; omega⟩ (eac (ev_add (ev_ixl (ev_v (i := 3) rfl lc) (ev_mod (ev_toint E.int (ev_v (i := 2) rfl vn)) ev_int (by decide)) (by rw [em, ← hx0]; exact atI_int jl)) (ev_mul ev_int (ev_fdiv (ev_v (i := 2) rfl vn) ev_int ⟨by decide, by decide⟩) (cmulL (by decide)))) (eac (ev_v (i := 2) rfl vn) ea0))) (eac (ev_add (ev_v (i := 2) rfl vn) ev_int) ea0)))) (ev_v (i := 1) rfl vl) (by omega)) fun v6 H6 e6 hv6 => ?_
      have hv6 := Im.eint hv6
      subst hv6
      have e56 := e5.trans e6
      obtain ⟨gs', fg⟩ := fg
      exact q H6 _ (d.trans (.of e56)) ⟨⟨n + 1, e56 _ _ fm, by omega, by omega⟩, ⟨cs, ⟨okl, okv⟩, e56 _ _ fc⟩, ⟨gs', e56 _ _ fg⟩, ne⟩ (Int.emod_nonneg _ (by omega)) (Int.emod_lt_of_pos _ (by omega))
    refine w_set (i := 2) sc__law_draw.nd (ev_dV (k := kyN) (hu_of hr) (ev_v (i := 0) rfl vm) (ev_ks (ev_str)) hm (mD_n ..)) fun v1 H1 e1 hv1 => ?_
    have hv1 : v1 = .int n := hv1
    subst hv1
    refine w_dput (a := m) (kvs := mD c g n) (k := kyN) (hu_of hr) (ev_add (ev_v (i := 2) rfl vn) ev_int) (ev_v (i := 0) rfl vm) (ev_ks (ev_str)) (e1 _ _ hm) (by simp [mD]) fun v2 H2 e2 hv2 => ?_
    have hv2 := Im.eint hv2
    subst hv2
    rw [mD_pn]
    have m2 := (e1.trans e2) _ _ hm
    have G0 : Dr m g H (upd H2 m (.dK (mD c g (n + 1)))) := ⟨fun x u z => by
      have a1 : x ≠ g := fun q => by rw [q, off_at] at z; cases z
      have a2 : x ≠ m := fun q => by rw [off_ne a1, q, off_at] at z; cases z
      rw [upd_ne a2]
      exact (e1.trans e2) _ _ (by rw [off_ne a1, off_ne a2] at z; exact z), fun h => by rw [upd_ne mg'.symm]; exact (e1.trans e2) _ _ h⟩
    have c0 : upd H2 m (.dK (mD c g (n + 1))) c = some (.lst (cs.map V.int)) := by rw [upd_ne mc.symm]; exact (e1.trans e2) _ _ hc
    have g0 : upd H2 m (.dK (mD c g (n + 1))) g = some (.lst (gs.map V.int)) := by rw [upd_ne mg'.symm]; exact (e1.trans e2) _ _ hg
    have m0 : upd H2 m (.dK (mD c g (n + 1))) m = some (.dK (mD c g (n + 1))) := upd_same
    generalize upd H2 m (.dK (mD c g (n + 1))) = G at G0 c0 g0 m0 ⊢
    have hu : (Bx P w K mg base N__law_draw D__law_draw cdv Ar outer s H EE).A.units < cLine := by have := hu_of hr; exact Nat.lt_of_le_of_lt (Nat.le_succ _) this
    refine w_if (et_cmp (t := !(gs.map V.int).isEmpty) (op_neL0 hu) (ev_dV (k := kyG) (hu_of hr) (ev_v (i := 0) rfl vm) (ev_ks (ev_str)) m0 (mD_g ..)) ev_nil (fun S x y H3 Q3 e3 e4 hx hy gg => by
      have hx : x = .ref g := hx
      obtain ⟨qe, xe, rfl, _, he1, he2⟩ := hy
      cases he2
      exact ⟨g, qe, gs.map V.int, hx, rfl, SqL.of ((e3.trans e4) _ _ g0), SqL.of he1, gg.at (.bl _)⟩) (nomark _)) (fun hb H3 e3 => ?_) fun hb H3 e3 => ?_
    · have gl : 0 < gs.length := by
        cases gs with
        | nil => cases hb
        | cons _ _ => exact Nat.succ_pos _
      have m3 := e3 _ _ m0
      have g3 := e3 _ _ g0
      have lg : ∀ {Hx : Hp}, Ex H3 Hx → ∀ S, (rL (gs.map .int)).r S (.ref g) Hx := fun e _ => ⟨g, _, rfl, e _ _ g3, ims_ints _⟩
      have j0 := Int.emod_nonneg n (show (gs.length : Int) ≠ 0 by omega)
      have j1 := Int.emod_lt_of_pos n (show (0 : Int) < (gs.length : Int) by omega)
      have je : n % (gs.length : Int) = ((n % (gs.length : Int)).toNat : Int) := by omega
      have jl : (n % (gs.length : Int)).toNat < gs.length := by omega
      refine w_set (i := 3) sc__law_draw.nd (ev_dV (k := kyG) (hu_of hr) (ev_v (i := 0) rfl vm) (ev_ks (ev_str)) m3 (mD_g ..)) fun v4 H4 e4 hv4 => ?_
      have hv4 : v4 = .ref g := hv4
      subst hv4
      refine w_set (i := 4) sc__law_draw.nd (ev_mod (ev_toint E.int (ev_v (i := 2) rfl vn)) (ev_d (ev_len E.len (ev_ql (ev_v (i := 3) rfl (lg e4)))) (by rw [List.length_map])) (by omega)) fun v5 H5 e5 hv5 => ?_
      have hv5 := Im.eint hv5
      subst hv5
      have vh : ∀ {Hx : Hp} S, (rI (n % (gs.length : Int))).r S (.int (n % (gs.length : Int))) Hx := fun _ => .int _
      refine w_set (i := 5) sc__law_draw.nd (ev_ixl (ev_v (i := 3) rfl (lg (e4.trans e5))) (ev_v (i := 4) rfl vh) (by rw [je]; exact atI_int jl)) fun v6 H6 e6 hv6 => ?_
      have hv6 := Im.eint hv6
      subst hv6
      have e46 := (e4.trans e5).trans e6
      have vx : ∀ {Hx : Hp} S, (rI (gs.getD (n % (gs.length : Int)).toNat 0)).r S (.int (gs.getD (n % (gs.length : Int)).toNat 0)) Hx := fun _ => .int _
      refine w_if (et_cmp op_gt (ev_v (i := 5) rfl vx) ev_int r_gt (nomark _)) (fun hp H7 e7 => ?_) fun hp H7 e7 => ?_
      · have e47 := e46.trans e7
        refine w_lput (a := g) (xs := gs.map V.int) (j := (n % (gs.length : Int)).toNat) (n := n % (gs.length : Int)) (ev_fdiv (ev_v (i := 5) rfl vx) (ev_v (i := 1) rfl vl) ⟨by omega, by omega⟩) (ev_v (i := 3) (ρ := rV (.ref g)) rfl fun _ => rfl) (ev_v (i := 4) rfl vh) (e47 _ _ g3) (by rw [je, List.length_map]; exact Evl.ixN_nat jl) fun v8 H8 e8 hv8 => ?_
        have hv8 := Im.eint hv8
        subst hv8
        have e38 := e3.trans (e47.trans e8)
        refine w_ret (ev_mod (ev_toint E.int (ev_v (i := 5) rfl vx)) (ev_v (i := 1) rfl vl) (by omega)) fun v9 H9 e9 hv9 => ?_
        have hv9 := Im.eint hv9
        subst hv9
        have ne0 : gs ≠ [] := fun z => by rw [z] at gl; cases gl
        refine q H9 _ (G0.trans ((⟨ex_updl (off_ex.trans (off_ex.trans e38)), fun h => ?_⟩ : Dr m g G _).trans (.of e9))) ⟨⟨n + 1, ?_, by omega, by omega⟩, ⟨cs, ⟨okl, okv⟩, ?_⟩, ⟨gs.set (n % (gs.length : Int)).toNat _, e9 _ _ (by rw [upd_same, List.map_set])⟩, ne⟩ (Int.emod_nonneg _ (by omega)) (Int.emod_lt_of_pos _ (by omega))
        · rw [g0] at h
          have z := congrArg (fun u => match u with
            | some (HO.lst xs) => xs.length
            | _ => 0) h
          simp at z
          exact absurd z ne0
        · exact e9 _ _ (by rw [upd_ne mg']; exact e38 _ _ m0)
        · exact e9 _ _ (by rw [upd_ne ne]; exact e38 _ _ c0)
      · have e37 := e3.trans (e46.trans e7)
        exact w_end (w_end (fin _ _ _ H7 (G0.trans (.of e37)) (e37 _ _ m0) (e37 _ _ c0) ⟨gs, e37 _ _ g0⟩))
    · exact w_end (fin _ _ _ H3 (G0.trans (.of e3)) (e3 _ _ m0) (e3 _ _ c0) ⟨gs, e3 _ _ g0⟩)) (fun _ _ _ _ _ _ us hl => match us, hl with | [_, _], _ => rfl)
end
end Lk

set_option maxHeartbeats 1000000
/-! _law_begun. -/
namespace Lk
open PySem PySem.Spec PyProof.Rows L2
open Evl (Ex)
theorem mD_pg (c g g' : Addr) (n : Int) : putK (mD c g n) kyG (.ref g') = mD c g' n := by rfl
theorem merge3 (c g : Addr) (n : Int) : mergeK [] [(kyC, V.ref c), (kyG, V.ref g), (kyN, V.int n)] = mD c g n := by rfl
/-- a new state -/
def rMst : Rp := ⟨fun S v H => ∃ m c g, v = .ref m ∧ S m = none ∧ S c = none ∧ S g = none ∧ Mst m c g H (2 ^ 40), fun e ⟨m, c, g, h1, h2, h3, h4, h5⟩ => ⟨m, c, g, h1, h2, h3, h4, h5.ex e⟩, fun e ⟨m, c, g, h1, h2, h3, h4, h5⟩ => ⟨m, c, g, h1, Evl.fresh_back e h2, Evl.fresh_back e h3, Evl.fresh_back e h4, h5⟩⟩
section
variable {P : Program} {w : World} {K : Frag} {mg : Str → Option Value} {base : Heap}
abbrev p_law_begun : Sp := Pr (fun ns : List Int => [rSq K ns]) (fun _ => rMst) (fun ns => ns.length ≤ 1000)
theorem mk_law_begun (E : En w K mg base) : Cal P w K mg base "_law_begun" 2 [] (p_law_begun (K := K)) :=
  cal_pr E D__law_begun 39 36 sc__law_begun (fun _ => rfl) (fun ns cdv Ar outer s H vs Q EE S0 hr hz _ hv q => by
    obtain ⟨v, rfl, a, rfl, hs⟩ := one_arg hv
    refine w_setW (i := 1) sc__law_begun.nd ⟨_, pe_disp (pps_cons we_ok we_ok (pps_cons we_ok we_ok (pps_cons we_ok we_ok pps_nil))) rfl rfl (by simp) (by simp), fun m hm => ?_⟩
    have e0 : Ex H (upd H m (.dK [])) := Ex.new hm
    refine Ev.app (ρ := rV (kV kyC)) (ev_ks ev_str) fun x1 H1 e1 h1 => ?_
    refine Ev.app (ev_pr (mk_law_folded E) hr ns trivial (eac (ev_v (i := 0) (ρ := rSq K ns) rfl fun _ => ⟨a, rfl, Evl.ex_l (e0.trans e1) hs⟩) ea0)) fun x2 H2 e2 h2 => ?_
    refine Ev.app (ρ := rV (kV kyG)) (ev_ks ev_str) fun x3 H3 e3 h3 => ?_
    refine Ev.app ev_nil fun x4 H4 e4 h4 => ?_
    refine Ev.app (ρ := rV (kV kyN)) (ev_ks ev_str) fun x5 H5 e5 h5 => ?_
    refine Ev.app ev_int fun x6 H6 e6 h6 => ?_
    have h1 : x1 = kV kyC := h1
    have h3 : x3 = kV kyG := h3
    have h5 : x5 = kV kyN := h5
    have h6 := Im.eint h6
    subst h1 h3 h5 h6
    obtain ⟨c, cs, rfl, c0, okc, hc⟩ := h2
    obtain ⟨l, xs, rfl, l0, hl, im⟩ := h4
    cases im
    have e16 := ((((e1.trans e2).trans e3).trans e4).trans e5).trans e6
    have m6 := e16 _ _ (upd_same (H := H) (a := m) (o := .dK []))
    refine ⟨m6, [(kyC, .ref c), (kyG, .ref l), (kyN, .int 0)], rfl, by simp, ?_⟩
    rw [merge3]
    have cH : H c = none := Evl.fresh_back (e0.trans e1) c0
    have c6 : H6 c = some (.lst (cs.map V.int)) := (((e3.trans e4).trans e5).trans e6) _ _ hc
    have mc : c ≠ m := fun z => by rw [z, m6] at c6; cases c6
    have eG : Ex H (upd H6 m (.dK (mD c l 0))) := Ex.mut (e0.trans e16) hm
    have cG : upd H6 m (.dK (mD c l 0)) c = some (.lst (cs.map V.int)) := by rw [upd_ne mc]; exact c6
    have mG : upd H6 m (.dK (mD c l 0)) m = some (.dK (mD c l 0)) := upd_same
    generalize upd H6 m (.dK (mD c l 0)) = G at eG cG mG ⊢
    refine w_dput (a := m) (kvs := mD c l 0) (k := kyG) (hu_of hr) (ev_lc (own := [("_law_cell", 2)]) (lc_all ns .int (fun z => .int (if (10 ^ 18 : Int) ≤ z then z else 0)) (wk_q (ev_v (i := 0) rfl fun _ => rfl) (Evl.ex_l eG hs)) rfl (by omega) fun z hz => tn_0 (j := 2) sc__law_begun.nd fun x H7 e7 hx s H0 C cl fp => ?_) rfl sc__law_begun.nd) (ev_v (i := 1) rfl fun _ => rfl) (ev_ks ev_str) mG (by simp [mD]) fun v8 H8 e8 hv8 => ?_
    · refine ev_if (et_cmp op_ge (ev_v (i := 2) rfl fun _ => hx) (ev_pow ev_int ev_int ⟨by decide, by decide, by decide⟩) r_ge (nomark _)) (fun h => ?_) fun h => ?_
      · rw [if_pos (show (10 : Int) ^ 18 ≤ z from of_decide_eq_true h)]
        exact ev_v (i := 2) rfl fun _ => hx
      · rw [if_neg (show ¬ (10 : Int) ^ 18 ≤ z from of_decide_eq_false h)]
        exact ev_int
    · obtain ⟨g, ys, rfl, g0, hg, im⟩ := hv8
      have im : Ims H8 ys ((ns.map fun z => if (10 ^ 18 : Int) ≤ z then z else 0).map .int) := by rw [List.map_map]; exact im
      have ey := im.ints
      subst ey
      rw [mD_pg]
      have m8 := e8 _ _ mG
      have c8 := e8 _ _ cG
      have gm : g ≠ m := fun z => by rw [z, mG] at g0; cases g0
      have cg : c ≠ g := fun z => by rw [← z, cG] at g0; cases g0
      have gH : H g = none := Evl.fresh_back eG g0
      refine w_ret (ev_v (i := 1) (ρ := rV (.ref m)) rfl fun _ => rfl) fun v9 H9 e9 hv9 => ?_
      have hv9 : v9 = .ref m := hv9
      subst hv9
      exact q _ _ ((Ex.mut (eG.trans e8) hm).trans e9) ⟨m, c, g, rfl, hm, cH, gH, ⟨0, e9 _ _ upd_same, by omega, by omega⟩, ⟨cs, okc, e9 _ _ (by rw [upd_ne mc]; exact c8)⟩, ⟨_, e9 _ _ (by rw [upd_ne gm]; exact hg)⟩, cg⟩) (fun _ _ _ _ _ _ us hl => match us, hl with | [_], _ => rfl)
end
end Lk

set_option maxHeartbeats 1000000
/-! Expressions that draw. -/
namespace Lk
open PySem PySem.Spec PyProof.Rows L2
open Evl (Ex)
theorem Mst.tu {m c g : Addr} {H H' : Hp} {r : Nat} (s : Mst m c g H r) (d : Dr m g H H') : Tu H H' := fun a xs h => by
  obtain ⟨⟨n, hm, _⟩, _, ⟨gs, hg⟩, _⟩ := s
  refine d.keep h ?_ (.inl ?_)
  · rintro rfl
    rw [hm] at h
    cases h
  · rintro rfl
    rw [hg] at h
    cases h
/-- ρ outlives draws; what is new behind draws is new -/
structure Sv (ρ : Rp) : Prop where
  keep : ∀ {m c g : Addr} {S H H' : Hp} {r : Nat} {v : V}, S m ≠ none → S g ≠ none → Mst m c g H r → Dr m g H H' → ρ.r S v H → ρ.r S v H'
  back : ∀ {m g : Addr} {S S' H : Hp} {v : V}, S' m ≠ none → S' g ≠ none → Dr m g S S' → ρ.r S' v H → ρ.r S v H
theorem sv_d (d : PyData) : Sv (rD d) := ⟨fun _ _ s e h => h.tu (s.tu e), fun _ _ _ h => h⟩
theorem sv_v (v : V) : Sv (rV v) := ⟨fun _ _ _ _ h => h, fun _ _ _ h => h⟩
theorem Dr.fresh {m g : Addr} {S S' : Hp} (d : Dr m g S S') (h1 : S' m ≠ none) (h2 : S' g ≠ none) {p : Addr} (h : S' p = none) : S p = none := by
  cases e : S p with
  | none => rfl
  | some u =>
    have a1 : p ≠ m := fun z => h1 (z ▸ h)
    have a2 : p ≠ g := fun z => h2 (z ▸ h)
    rw [d.keep e a1 (.inl a2)] at h
    cases h
theorem sv_f (ds : List PyData) : Sv (rF ds) := ⟨fun hm hg s e h => by
  obtain ⟨p, xs, h1, h2, h3, h4⟩ := h
  exact ⟨p, xs, h1, h2, e.keep h3 (fun z => hm (z ▸ h2)) (.inl fun z => hg (z ▸ h2)), h4.tu (s.tu e)⟩, fun hm hg d h => by
  obtain ⟨p, xs, h1, h2, h3⟩ := h
  exact ⟨p, xs, h1, d.fresh hm hg h2, h3⟩⟩
section
variable {X : Cx} {σ : L2.St} {m c g : Addr} {H : Hp} {e a b : Expr} {es : List Expr} {pos p p2 : Pos} {ρ ρ1 ρ2 ρ3 : Rp} {k k1 k2 k3 : Nat} {x : Str}
/-- e draws at most k times; H: where it begins, or what draws have made of it -/
def Es (X : Cx) (e : Expr) (σ : L2.St) (m c g : Addr) (H : Hp) (k : Nat) (ρ : Rp) : Prop := ∀ (H1 : Hp) (r : Nat), Dr m g H H1 → Mst m c g H1 (r + k) → ∀ Q : VK, (∀ v H2, Dr m g H1 H2 → Mst m c g H2 r → ρ.r H1 v H2 → Q v H2) → We X e σ H1 Q
theorem es_ev (h : ∀ H1, Dr m g H H1 → Ev X e σ H1 ρ) : Es X e σ m c g H 0 ρ := fun H1 r d s Q q => h H1 d H1 (Ex.refl H1) Q fun v H2 e2 hv => q v H2 (.of e2) (s.ex e2) hv
theorem Es.le (h : Es X e σ m c g H k1 ρ) (hk : k1 ≤ k) : Es X e σ m c g H k ρ := fun H1 r d s Q q => h H1 r d (s.mono (by omega)) Q q
theorem Es.imp (h : Es X e σ m c g H k ρ1) (i : ∀ S v H1, ρ1.r S v H1 → ρ.r S v H1) : Es X e σ m c g H k ρ := fun H1 r d s Q q => h H1 r d s Q fun v H2 d2 s2 hv => q v H2 d2 s2 (i _ _ _ hv)
theorem Mst.some {r : Nat} (s : Mst m c g H r) : H m ≠ none ∧ H g ≠ none := by
  obtain ⟨⟨n, hm, _⟩, _, ⟨gs, hg⟩, _⟩ := s
  exact ⟨by rw [hm]; simp, by rw [hg]; simp⟩
/-- a call of a def that draws -/
theorem es_call {sp : Sp} {ρs : Rps} {k' : Nat} (C : Cal X.prog X.w X.K X.mg X.base x k1 [] sp) (hr : Room k' X.A) (ha : ∀ H1, Dr m g H H1 → Ea X (e :: es) σ H1 ρs) (h : ∀ (H1 H2 : Hp) (vs : List V) (r : Nat) (Q : VK), Dr m g H H1 → Ex H1 H2 → ρs.r H1 vs H2 → Mst m c g H2 (r + k) → (∀ v H3, Dr m g H2 H3 → Mst m c g H3 r → ρ.r H2 v H3 → Q v H3) → sp vs H2 Q E0) (sv : Sv ρ) (hk : k1 ≤ k' := by decide) (hg : Gl X x := by rfl)
    (hdb : (x == ("__debug__" : Str)) = false := by decide) (he : starEach (e :: es) X.env = (false, eval e X.env) :: starEach es X.env := by rfl) (hpl : (backTo pos (starEach es X.env)).any (·.1) = false := by rfl) : Es X (.Call (.Name x p) (e :: es) [] pos) σ m c g H k ρ := fun H1 r d s Q q =>
  we_call C hr (ha H1 d H1 (Ex.refl H1) _ fun vs H2 e2 hv => by
    rw [List.append_nil]
    exact h H1 H2 vs r Q d e2 hv (s.ex e2) fun v H3 d3 s3 hr3 => q v H3 ((Dr.of e2).trans d3) s3 (ρ.n e2 hr3)) hk hg hdb he hpl
/-- ρ told by any number below lim -/
def rBe (lim : Int) : Rp := ⟨fun _ v _ => ∃ k : Int, v = .int k ∧ 0 ≤ k ∧ k < lim, fun _ h => h, fun _ h => h⟩
/-- two operands -/
theorem es_op {op : Operator} {r2 : R2} (ho : OpR X (binaryOp op) r2) (ha : Es X a σ m c g H k1 ρ1) (hb : Es X b σ m c g H k2 ρ2) (sv : Sv ρ1) (svr : Sv ρ) (h : ∀ S S' x y H2 Q, Dr m g H S → Dr m g S S' → ρ1.r S x H2 → ρ2.r S' y H2 → Go ρ H2 Q → r2 x y H2 Q) (hk : k = k1 + k2 := by rfl) : Es X (.BinOp a op b pos) σ m c g H k ρ := fun H1 r d s Q q => by
  subst hk
  refine ⟨_, pe_op ho we_ok we_ok, ha H1 (r + k2) d (by rw [Nat.add_assoc, Nat.add_comm k2 k1]; exact s) _ fun x H2 d2 s2 hx => hb H2 r (d.trans d2) s2 _ fun y H3 d3 s3 hy => ?_⟩
  obtain ⟨n1, n2⟩ := s.some
  exact h H1 H2 x y H3 Q d d2 (sv.keep n1 n2 s2 d3 hx) hy fun v H4 e4 hv => q v H4 ((d2.trans d3).trans (.of e4)) (s3.ex e4) (svr.back s3.some.1 s3.some.2 (d2.trans d3) hv)
theorem sv_be (lim : Int) : Sv (rBe lim) := ⟨fun _ _ _ _ h => h, fun _ _ _ h => h⟩
theorem es_draw {w : World} {lim : Int} {k' : Nat} (E : En w X.K X.mg X.base) (hr : Room k' X.A) (C : Cal X.prog X.w X.K X.mg X.base "_law_draw" 2 [] p_draw) (ha : ∀ H1, Dr m g H H1 → Ev X a σ H1 (rV (.ref m))) (hb : ∀ H1, Dr m g H H1 → Ev X b σ H1 (rI lim)) (h1 : 1 ≤ lim) (h2 : lim < 1000000) (hk : 2 ≤ k' := by decide) (hg : Gl X "_law_draw" := by rfl)
    (he : starEach [a, b] X.env = (false, eval a X.env) :: starEach [b] X.env := by rfl) (he2 : starEach [b] X.env = (false, eval b X.env) :: starEach [] X.env := by rfl) (hpl : (backTo pos (starEach [b] X.env)).any (·.1) = false := by rfl) : Es X (.Call (.Name "_law_draw" p) [a, b] [] pos) σ m c g H 1 (rBe lim) :=
  es_call (ρs := rC (rV (.ref m)) (rC (rI lim) r0)) C hr (fun H1 d => eac (ha H1 d) (eac (hb H1 d) ea0 he2) he) (fun H1 H2 vs r Q d e2 hv s q => by
    obtain ⟨v1, v2, rfl, r1, r2⟩ := two_arg hv
    have r1 : v1 = .ref m := r1
    have r2 := Im.eint r2
    subst r1 r2
    exact ⟨m, c, g, lim, r, rfl, s, h1, h2, fun H' k d' s' k0 k1 => q _ H' d' s' ⟨k, rfl, k0, k1⟩⟩) (sv_be lim) hk hg (by decide) he hpl
end
/-- a def that draws at most `cost` times: the state, further arguments -/
def PrM {α : Type} (A : α → List Rp) (R : α → Rp) (cost : α → Nat) (ok : α → Prop) : Sp := fun vs H Q _ => ∃ (m c g : Addr) (a : α) (ws : List V) (S : Hp) (r : Nat), vs = .ref m :: ws ∧ Mst m c g H (r + cost a) ∧ ok a ∧ Ex S H ∧ (rAll (A a)).r S ws H ∧
  ∀ v H', Dr m g H H' → Mst m c g H' r → (R a).r H v H' → Q v H'
section
variable {X : Cx} {σ : L2.St} {m c g : Addr} {H : Hp} {e e2 a b : Expr} {es : List Expr} {pos p p2 : Pos} {k k' : Nat} {x : Str}
theorem es_pm {α : Type} {A : α → List Rp} {R : α → Rp} {cost : α → Nat} {ok : α → Prop} (C : Cal X.prog X.w X.K X.mg X.base x k [] (PrM A R cost ok)) (hr : Room k' X.A) (z : α) (hz : ok z) (sv : Sv (R z)) (hm : ∀ H1, Dr m g H H1 → Ev X a σ H1 (rV (.ref m))) (ha : ∀ H1, Dr m g H H1 → Ea X (e :: es) σ H1 (rAll (A z))) (hk : k ≤ k' := by decide) (hg : Gl X x := by rfl)
    (hdb : (x == ("__debug__" : Str)) = false := by decide) (he : starEach (a :: e :: es) X.env = (false, eval a X.env) :: starEach (e :: es) X.env := by rfl) (hpl : (backTo pos (starEach (e :: es) X.env)).any (·.1) = false := by rfl) : Es X (.Call (.Name x p) (a :: e :: es) [] pos) σ m c g H (cost z) (R z) :=
  es_call (ρs := rC (rV (.ref m)) (rAll (A z))) C hr (fun H1 d => eac (hm H1 d) (ha H1 d) he) (fun H1 H2 vs r Q d e2 hv s q => by
    obtain ⟨v1, ws, rfl, r1, r2⟩ := hv
    have r1 : v1 = .ref m := r1
    subst r1
    exact ⟨m, c, g, z, ws, H1, r, rfl, s, hz, e2, r2, q⟩) sv hk hg hdb he hpl
end
end Lk

set_option maxHeartbeats 1000000
/-! _law_order. -/
namespace Lk
open PySem PySem.Spec PyProof.Rows L2
open Evl (Ex)
section
variable {X : Cx} {σ : L2.St} {m c g : Addr} {H : Hp} {e a b o : Expr} {es : List Expr} {pos p p2 apos cpos : Pos} {k : Nat} {ρ : Rp} {D : Ends} {rest : List Stmt}
/-- list(range(n)) -/
theorem ev_lrg {n : Nat} (hc : X.calm = true) (hm : X.mg "list" = none) (hm2 : X.mg "range" = none) (ha : Ev X a σ H (rI (n : Int))) (hz : n ≤ 1000) (hg : Gl X "list" := by rfl) (hg2 : Gl X "range" := by rfl) (na : starEach [a] X.env = (false, eval a X.env) :: starEach [] X.env := by rfl)
    (nb : starEach [.Call (.Name "range" p2) [a] [] pos] X.env = (false, eval (.Call (.Name "range" p2) [a] [] pos) X.env) :: starEach [] X.env := by rfl) : Ev X (.Call (.Name "list" p) [.Call (.Name "range" p2) [a] [] pos] [] cpos) σ H (rF ((List.range n).map eN)) := fun H1 e1 Q q =>
  ⟨_, pe_listRg hc hg hm (prg_1 hg2 hm2 we_ok na) nb, ha H1 e1 _ fun x H2 e2 hx => by
    have hx := Im.eint hx
    subst hx
    refine ⟨(n : Int), rfl, RgOk.of_le (by omega) (by omega) (by omega) (by omega), fun q' hq => q _ _ (e2.trans (Ex.new hq)) ⟨q', _, rfl, Evl.fresh_back e2 hq, upd_same, ?_⟩⟩
    have e : rgV 0 (n : Int) = (List.range n).map fun i : Nat => V.int (i : Int) := by
      unfold rgV
      rw [show ((n : Int) - 0).toNat = n by omega]
      refine List.map_congr_left fun i _ => ?_
      rw [Int.zero_add]
    rw [e]
    have go : ∀ (HH : Hp) (l : List Nat), Ims HH (l.map fun i : Nat => V.int (i : Int)) (l.map eN) := fun HH l => by
      induction l with
      | nil => exact .nil
      | cons x l ih => exact .cons (.int _) ih
    exact go _ _⟩
end
/-- some order of 0 .. n - 1 -/
def rPm (n : Nat) : Rp := ⟨fun S v H => ∃ ns : List Nat, ns.Perm (List.range n) ∧ (rF (ns.map eN)).r S v H, fun e ⟨ns, h1, h2⟩ => ⟨ns, h1, (rF _).m e h2⟩, fun e ⟨ns, h1, h2⟩ => ⟨ns, h1, (rF _).n e h2⟩⟩
theorem sv_pm (n : Nat) : Sv (rPm n) := ⟨fun a b s e ⟨ns, h1, h2⟩ => ⟨ns, h1, (sv_f _).keep a b s e h2⟩, fun a b d ⟨ns, h1, h2⟩ => ⟨ns, h1, (sv_f _).back a b d h2⟩⟩
theorem Dr.mut {m g l : Addr} {H H' : Hp} {u : HO} (d : Dr m g H H') (h : H l = none) (hg : H g ≠ none) : Dr m g H (upd H' l u) := by
  refine ⟨fun b v z => ?_, fun z => ?_⟩
  · have n : b ≠ l := by
      rintro rfl
      have a1 : b ≠ g := fun q => by rw [q, off_at] at z; cases z
      have a2 : b ≠ m := fun q => by rw [off_ne a1, q, off_at] at z; cases z
      rw [off_ne a1, off_ne a2, h] at z
      cases z
    rw [upd_ne n]
    exact d.ex _ _ z
  · have n : g ≠ l := fun q => hg (q ▸ h)
    rw [upd_ne n]
    exact d.em z
theorem Mst.mut {m c g l : Addr} {H : Hp} {r : Nat} {u : HO} (s : Mst m c g H r) (h1 : l ≠ m) (h2 : l ≠ c) (h3 : l ≠ g) : Mst m c g (upd H l u) r := by
  obtain ⟨⟨n, a1, a2⟩, ⟨cs, a3, a4⟩, ⟨gs, a5⟩, ne⟩ := s
  exact ⟨⟨n, by rw [upd_ne h1.symm]; exact a1, a2⟩, ⟨cs, a3, by rw [upd_ne h2.symm]; exact a4⟩, ⟨gs, by rw [upd_ne h3.symm]; exact a5⟩, ne⟩
theorem Mst.cne {m c g : Addr} {H : Hp} {r : Nat} (s : Mst m c g H r) : H c ≠ none := by
  obtain ⟨_, ⟨cs, a3, a4⟩, _⟩ := s
  rw [a4]
  simp
def vN (n : Nat) : V := .int (n : Int)
theorem ims_N (H : Hp) : ∀ l : List Nat, Ims H (l.map vN) (l.map eN)
  | [] => .nil
  | x :: l => .cons (.int _) (ims_N H l)
theorem ims_vN {H : Hp} : ∀ {l : List Nat} {xs : List V}, Ims H xs (l.map eN) → xs = l.map vN
  | [], _, h => by
    cases h
    rfl
  | x :: l, _, h => by
    cases h with
    | cons h1 h2 => rw [Im.eint h1, ims_vN h2] <;> rfl
theorem erase_vN : ∀ (l : List Nat) (j : Nat), (l.map vN).eraseIdx j = (l.eraseIdx j).map vN
  | [], j => by simp
  | a :: r, 0 => by simp
  | a :: r, j + 1 => by
    have ih := erase_vN r j
    simp [ih]
section
variable {P : Program} {w : World} {K : Frag} {mg : Str → Option Value} {base : Heap}
abbrev p_order : Sp := PrM (fun n : Nat => [rI (n : Int)]) (fun n => rPm n) (fun n => n) (fun n => n ≤ 64)
def lenAt (H : Hp) : Option (Option V) → Nat
  | some (some (.ref a)) => match H a with
    | some (.lst xs) => xs.length
    | _ => 0
  | _ => 0
theorem mk_order (E : En w K mg base) : Cal P w K mg base "_law_order" 3 [] p_order :=
  cal_of E D__law_order 41 38 sc__law_order (fun vs H Q EE h => by obtain ⟨m, c, g, a, ws, S, r, rfl, _, _, _, h, _⟩ := h; obtain ⟨v, rfl, _⟩ := one_arg h; rfl) (fun cdv Ar outer s H vs Q EE hr h => by
    obtain ⟨m, c, g, n, ws, S, r, rfl, st, hn, _, hw, q⟩ := h
    obtain ⟨v, rfl, hv⟩ := one_arg hw
    have hv := Im.eint hv
    subst hv
    have vm : ∀ {Hx : Hp} S, (rV (.ref m)).r S (.ref m) Hx := fun _ => rfl
    have hu : (Bx P w K mg base N__law_order D__law_order cdv Ar outer s H EE).A.units < cLine := by have := hu_of hr; exact Nat.lt_of_le_of_lt (Nat.le_succ _) this
    refine w_par (i := 2) (j := 3) rfl sc__law_order.nd (ev_lrg rfl E.lst E.rng (ev_v (i := 1) rfl fun _ => .int _) (by omega)) ev_nil (by decide) fun v2 v3 H1 e1 h2 h3 => ?_
    obtain ⟨l1, xs1, rfl, l1n, hl1, im1⟩ := h2
    obtain ⟨l2, xs2, rfl, l2n, hl2, im2⟩ := h3
    have ex1 := ims_vN im1
    subst ex1
    cases im2
    obtain ⟨sm, sg⟩ := st.some
    have sc := st.cne
    have f1 : l1 ≠ m ∧ l1 ≠ c ∧ l1 ≠ g := ⟨fun z => sm (z ▸ l1n), fun z => sc (z ▸ l1n), fun z => sg (z ▸ l1n)⟩
    have f2 : l2 ≠ m ∧ l2 ≠ c ∧ l2 ≠ g := ⟨fun z => sm (z ▸ l2n), fun z => sc (z ▸ l2n), fun z => sg (z ▸ l2n)⟩
    have l12 : l1 ≠ l2 ∨ n = 0 := by
      cases n with
      | zero => exact .inr rfl
      | succ n =>
        refine .inl ?_
        rintro rfl
        rw [hl1] at hl2
        have z := congrArg (fun u => match u with
          | some (HO.lst xs) => xs.length
          | _ => 0) hl2
        simp at z
    refine w_while (fun σ' H' => lenAt H' (σ'[2]?)) (fun σ' H' => ∃ rs fs : List Nat, σ' = [some (.ref m), some (.int (n : Int)), some (.ref l1), some (.ref l2)] ∧ Dr m g H H' ∧ Mst m c g H' (r + rs.length) ∧ H' l1 = some (.lst (rs.map vN)) ∧ H' l2 = some (.lst (fs.map vN)) ∧ (fs ++ rs).Perm (List.range n))
      ⟨List.range n, [], rfl, .of e1, by rw [List.length_range]; exact st.ex e1, hl1, hl2, by rw [List.nil_append]⟩ fun σ' H' p => ?_
    obtain ⟨rs, fs, rfl, d, s1, a1, a2, pm⟩ := p
    have len := pm.length_eq
    rw [List.length_append, List.length_range] at len
    refine ⟨_, et_cmp (t := !(rs.map vN).isEmpty) (op_neL0 hu) (ev_v (i := 2) (ρ := rV (.ref l1)) rfl fun _ => rfl) ev_nil (fun S x y H3 Q3 e3 e4 hx hy gg => by
      have hx : x = .ref l1 := hx
      obtain ⟨qe, xe, rfl, _, he1, he2⟩ := hy
      cases he2
      exact ⟨l1, qe, rs.map vN, hx, rfl, SqL.of ((e3.trans e4) _ _ a1), SqL.of he1, gg.at (.bl _)⟩) (nomark _), fun hb H2 e2 => ?_, fun hb H2 e2 => ?_⟩
    · have rp : 0 < rs.length := by
        cases rs with
        | nil => cases hb
        | cons _ _ => exact Nat.succ_pos _
      have ll : l1 ≠ l2 := l12.resolve_right (by omega)
      have d2 := d.trans (.of e2)
      have s2 := s1.ex e2
      have b1 := e2 _ _ a1
      have b2 := e2 _ _ a2
      have rl : ∀ {Hx : Hp}, Dr m g H2 Hx → Hx l1 = some (.lst (rs.map vN)) := fun dd => dd.keep b1 f1.1 (.inl f1.2.2)
      refine w_expr ⟨_, pe_bm PySem.F.plainAttrs_list PySem.F.slot_list_append PySem.F.type_list_append mt_append we_ok wa_ok, Ev.app (ev_v (i := 3) (ρ := rV (.ref l2)) rfl fun _ => rfl) fun x3 H3 e3 h3 => ?_⟩
      have h3 : x3 = .ref l2 := h3
      subst h3
      refine ⟨.inl ⟨rfl, _, SqL.of (e3 _ _ b2)⟩, _, pa_cons (pe_bm PySem.F.plainAttrs_list PySem.F.slot_list_pop PySem.F.type_list_pop mt_popAt we_ok wa_ok) pa_nil rfl, Ev.app (ev_v (i := 2) (ρ := rV (.ref l1)) rfl fun _ => rfl) fun x4 H4 e4 h4 => ?_⟩
      have h4 : x4 = .ref l1 := h4
      subst h4
      have e34 := e3.trans e4
      refine ⟨.inl ⟨rfl, _, SqL.of (e34 _ _ b1)⟩, _, pa_cons we_ok pa_nil rfl, (es_draw (m := m) (c := c) (g := g) (H := H2) (lim := (rs.length : Int)) E hr (mk_draw E) (fun Hx dx => ev_v (i := 0) rfl vm) (fun Hx dx => ev_d (ev_len E.len (ev_ql (ev_v (i := 2) (ρ := rL (rs.map eN)) rfl fun _ => ⟨l1, _, rfl, rl dx, ims_N _ _⟩))) (by rw [List.length_map])) (by omega) (by omega)) H4 (r + (rs.length - 1)) (.of e34) ((s2.ex e34).mono (by omega)) _ fun v5 H5 d5 s5 hv5 => ?_⟩
      obtain ⟨k, rfl, k0, k1⟩ := hv5
      have d25 : Dr m g H2 H5 := (Dr.of e34).trans d5
      have c1 := rl d25
      have c2 : H5 l2 = some (.lst (fs.map vN)) := d25.keep b2 f2.1 (.inl f2.2.2)
      have kl : k.toNat < rs.length := by omega
      have gt : (rs.map vN)[k.toNat]? = some (vN (rs.getD k.toNat 0)) := by
        rw [List.getElem?_map, List.getD_eq_getElem?_getD, List.getElem?_eq_getElem kl] <;> rfl
      refine ⟨l1, rs.map vN, k, k.toNat, vN (rs.getD k.toNat 0), rfl, rfl, c1, by omega, by omega, ?_, gt, ?_⟩
      · rw [List.length_map]
        have z := (ixN_seq (Evl.ixN_nat kl)).1
        rw [show ((k.toNat : Nat) : Int) = k by omega] at z
        exact z
      · have u2 : upd H5 l1 (.lst ((rs.map vN).eraseIdx k.toNat)) l2 = some (.lst (fs.map vN)) := by rw [upd_ne ll.symm]; exact c2
        refine ⟨l2, fs.map vN, vN (rs.getD k.toNat 0), rfl, rfl, u2, by rw [List.length_map, sizeLine_eq]; omega, w_end ?_⟩
        have er : (rs.map vN).eraseIdx k.toNat = (rs.eraseIdx k.toNat).map vN := erase_vN _ _
        have ef : fs.map vN ++ [vN (rs.getD k.toNat 0)] = (fs ++ [rs.getD k.toNat 0]).map vN := by
          rw [List.map_append] <;> rfl
        have el : (rs.eraseIdx k.toNat).length = rs.length - 1 := List.length_eraseIdx_of_lt kl
        rw [er, ef]
        refine ⟨?_, rs.eraseIdx k.toNat, fs ++ [rs.getD k.toNat 0], rfl, ((d2.trans d25).mut l1n sg).mut l2n sg, ?_, ?_, upd_same, ?_⟩
        · show lenAt _ (some (some (.ref l1))) < lenAt H' (some (some (.ref l1)))
          unfold lenAt
          simp only [upd_ne ll, upd_same, a1, List.length_map]
          omega
        · rw [el]
          exact (s5.mut f1.1 f1.2.1 f1.2.2).mut f2.1 f2.2.1 f2.2.2
        · rw [upd_ne ll, upd_same]
        · rw [List.append_assoc]
          refine (List.Perm.append_left fs ?_).trans pm
          exact erase_perm rs k.toNat _ (by rw [List.getD_eq_getElem?_getD, List.getElem?_eq_getElem kl] <;> rfl)
    · have re : rs = [] := by
        cases rs with
        | nil => rfl
        | cons _ _ => cases hb
      subst re
      rw [List.append_nil] at pm
      refine w_ret (ev_v (i := 3) (ρ := rV (.ref l2)) rfl fun _ => rfl) fun v9 H9 e9 hv9 => ?_
      have hv9 : v9 = .ref l2 := hv9
      subst hv9
      exact q _ H9 (d.trans (.of (e2.trans e9))) (s1.ex (e2.trans e9)) ⟨fs, pm, l2, _, rfl, l2n, (e2.trans e9) _ _ a2, ims_N _ _⟩) (fun _ _ _ _ _ _ us hl => match us, hl with | [_, _], _ => rfl)
end
end Lk

set_option maxHeartbeats 1000000
/-! Comprehensions that draw. -/
namespace Lk
open PySem PySem.Spec PyProof.Rows L2
open Evl (Ex)
/-- a datum told by Q; a new list of data told by P -/
def rDp (Q : PyData → Prop) : Rp := ⟨fun _ v H => ∃ d, Q d ∧ Im H v d, fun e ⟨d, h1, h2⟩ => ⟨d, h1, h2.ex e⟩, fun _ h => h⟩
def rFp (P : List PyData → Prop) : Rp := ⟨fun S v H => ∃ ds, P ds ∧ (rF ds).r S v H, fun e ⟨d, h1, h2⟩ => ⟨d, h1, (rF _).m e h2⟩, fun e ⟨d, h1, h2⟩ => ⟨d, h1, (rF _).n e h2⟩⟩
theorem sv_dp (Q : PyData → Prop) : Sv (rDp Q) := ⟨fun _ _ s e ⟨d, h1, h2⟩ => ⟨d, h1, h2.tu (s.tu e)⟩, fun _ _ _ h => h⟩
theorem sv_fp (P : List PyData → Prop) : Sv (rFp P) := ⟨fun a b s e ⟨ns, h1, h2⟩ => ⟨ns, h1, (sv_f _).keep a b s e h2⟩, fun a b d ⟨ns, h1, h2⟩ => ⟨ns, h1, (sv_f _).back a b d h2⟩⟩
section
variable {X : Cx} {σ : L2.St} {m c g : Addr} {H : Hp} {e a b : Expr} {es : List Expr} {pos p p2 : Pos} {k k' : Nat}
/-- walking it, where it draws at most k times; the items' data are told by P -/
def Wks (X : Cx) (tg it : Expr) (σ : L2.St) (m c g : Addr) (H : Hp) (k : Nat) (P : List PyData → Prop) : Prop := ∀ (H1 : Hp) (r : Nat), Dr m g H H1 → Mst m c g H1 (r + k) → ∀ R : It → Hp → Prop,
  (∀ (J : It) (H2 : Hp) (G : Hp → Prop) (ds : List PyData), Dr m g H1 H2 → Mst m c g H2 r → P ds → G H2 → (∀ H3, Dr m g H2 H3 → G H3) → Walk J ds.length G (fun i H3 x H4 => Ex H3 H4 ∧ ∃ d, ds[i]? = some d ∧ Im H4 x d) → R J H2) → Wi X tg it σ H1 R
theorem wks_l {tg : Expr} {P : List PyData → Prop} (ha : Es X e σ m c g H k (rFp P)) : Wks X tg e σ m c g H k P := fun H1 r d s R q =>
  ⟨_, pi_list we_ok, ha H1 r d s _ fun v H2 d2 s2 hv => by
    obtain ⟨ds, hP, l, xs, rfl, l0, h2, h3⟩ := hv
    have n1 : l ≠ m := fun z => s.some.1 (z ▸ l0)
    have n2 : l ≠ g := fun z => s.some.2 (z ▸ l0)
    refine ⟨l, rfl, ⟨xs, SqL.of h2⟩, q _ H2 (fun H3 => H3 l = some (.lst xs) ∧ Ims H3 xs ds) ds d2 s2 hP ⟨h2, h3⟩ (fun H3 d3 => ⟨d3.keep h2 n1 (.inl n2), h3.tu (s2.tu d3)⟩) ?_⟩
    have w := walk_list (K := X.K) (a := l) (xs := xs)
    rw [h3.len] at w
    exact w.mono (fun H g => SqL.of g.1) fun i H x H' hi g y => by
      obtain ⟨y1, y2⟩ := y
      subst y1
      exact ⟨Ex.refl _, g.2.getv y2⟩⟩
theorem wks_r {tg : Expr} {ρ : Rp} {N : Nat} (hm : X.mg "range" = none) (ha : Es X a σ m c g H k ρ) (hb : ∀ S v H1, ρ.r S v H1 → ∃ n : Nat, v = .int (n : Int) ∧ n ≤ N) (hN : N ≤ 1000) (hg : Gl X "range" := by rfl) (hs : starEach [a] X.env = [(false, eval a X.env)] := by rfl) (hs' : starEach [a] X.env = (false, eval a X.env) :: starEach [] X.env := by rfl) :
    Wks X tg (.Call (.Name "range" p) [a] [] pos) σ m c g H k (fun ds => ∃ n : Nat, n ≤ N ∧ ds = rng 0 n) := fun H1 r d s R q =>
  ⟨_, pi_range1 hg hm wa_ok hs, _, pa_cons we_ok pa_nil hs', ha H1 r d s _ fun v H2 d2 s2 hv => by
    obtain ⟨n, rfl, hn⟩ := hb _ _ _ hv
    refine ⟨(n : Int), rfl, by omega, by omega, ?_⟩
    have w := walk_range (lo := 0) (n := n)
    have el : n = (rng 0 n).length := by simp [rng]
    rw [el] at w
    have z := q (Itr 0 (rng 0 n).length) H2 (fun _ => True) (rng 0 n) d2 s2 ⟨n, hn, rfl⟩ trivial (fun _ _ => trivial) (w.mono (fun _ _ => trivial) fun i H x H' hi g y => by
      obtain ⟨y1, y2⟩ := y
      subst y1
      subst y2
      refine ⟨Ex.refl _, .int (0 + (i : Int)), ?_, .int _⟩
      rw [rng, List.getElem?_map, List.getElem?_range (by rw [← el] at hi; exact hi)] <;> rfl)
    rw [← el] at z
    exact z⟩
/-- what one turn asks: d the item -/
def Ts1 (X : Cx) (tg elt : Expr) (scope : Scope) (vs : List Nat) (σ : L2.St) (m c g : Addr) (B : Hp) (ke : Nat) (Pe : PyData → PyData → Prop) (d : PyData) : Prop :=
  ∀ x H, Dr m g B H → Im H x d → ∃ σ2, Bk X scope (fun Y => Tg Y tg x (wipe σ vs) H σ2) ∧ wipe σ2 vs = wipe σ vs ∧ Bk X scope fun Y => Es Y elt σ2 m c g H ke (rDp (Pe d))
theorem es_lc {tg it elt : Expr} {scope : Scope} {own : List (Str × Nat)} {P : List PyData → Prop} (N ke : Nat) (Pe : PyData → PyData → Prop) (W : Wks X tg it σ m c g H k P) (hc : X.calm = true) (hN : X.N.Nodup) (hz : ∀ ds, P ds → ds.length ≤ N) (hz2 : N ≤ 100000) (t : ∀ ds d, P ds → d ∈ ds → Ts1 X tg elt scope (own.map (·.2)) σ m c g H ke Pe d)
    (ok : blkC X.N X.env.scope scope own = true := by rfl) (hs : ∀ x, foldedSetIterable it X.env x = pure x := by intro _; rfl) : Es X (.ListComp elt [⟨tg, it, [], 0⟩] scope pos) σ m c g H (k + N * ke) (rFp fun out => ∃ ds, P ds ∧ Paired Pe ds out) := fun H1 r d s Q q => by
  refine ⟨_, pe_lc (g := cG X scope tg) (tt := tYes) (te := cE X scope elt) hc hN wi_ok (blkOk_by ok) cg_ok (fun _ _ _ _ _ => pts_nil) ce_ok hs, ?_⟩
  refine W H1 (r + N * ke) d (by rw [Nat.add_assoc, Nat.add_comm (N * ke) k]; exact s) _ fun J H2 G ds d2 s2 hP g1 g2 wk Dl hD => ?_
  have dz := hz ds hP
  have fr : ∀ {H3 : Hp}, Dr m g H2 H3 → ∀ {u}, Dr m g H2 (upd H3 Dl u) := fun d3 => d3.mut hD s2.some.2
  have nm : Dl ≠ m := fun z => s2.some.1 (z ▸ hD)
  have ng : Dl ≠ g := fun z => s2.some.2 (z ▸ hD)
  have nc : Dl ≠ c := fun z => s2.cne (z ▸ hD)
  refine lc_it wk (g := cG X scope tg) (tt := tYes) (te := cE X scope elt) (vs := own.map (·.2)) (σ := σ) (Qd := Q (.ref Dl)) (fun i H' => Dr m g H2 H' ∧ Mst m c g H' (r + (N - i) * ke) ∧ ∃ xs out, H' Dl = some (.lst xs) ∧ Ims H' xs out ∧ Paired Pe (ds.take i) out) ⟨fr (.of (Ex.refl _)), s2.mut nm nc ng, [], [], upd_same, .nil, .nil⟩ (fun i H' _ p => g2 _ p.1) (fun i x H' H3 hi p y => ?_) (fun H' p => ?_)
  · obtain ⟨p1, p2, xs, out, p3, p4, p5⟩ := p
    obtain ⟨e3, dd, hd, im⟩ := y
    obtain ⟨σ2, t1, t2, t3⟩ := t ds dd hP (List.mem_of_getElem? hd) x H3 (((d.trans d2).trans p1).trans (.of e3)) im
    refine fun s' H0 C cl fp => t1 s' H0 C cl fp _ ⟨t2, ?_⟩
    simp only [tYes, ↓reduceIte]
    have st3 : Mst m c g H3 (r + (N - (i + 1)) * ke + ke) := (p2.ex e3).mono (by
      have e : N - i = N - (i + 1) + 1 := by omega
      rw [e, Nat.succ_mul]
      omega)
    have pl : out.length = i := by
      have z := Paired.length p5
      rw [List.length_take] at z
      omega
    refine fun s' H0 C cl fp => t3 s' H0 C cl fp H3 (r + (N - (i + 1)) * ke) (.of (Ex.refl _)) st3 _ fun v H4 d4 s4 hv => ?_
    obtain ⟨o, ho, him⟩ := hv
    have l4 := d4.keep (e3 _ _ p3) nm (.inl ng)
    have tu4 := tu_upd (u := .lst (xs ++ [v])) l4 (fun ys z => by cases z)
    refine ⟨xs, l4, by rw [p4.len, sizeLine_eq]; omega, fr ((p1.trans (.of e3)).trans d4), s4.mut nm nc ng, xs ++ [v], out ++ [o], upd_same, ((((p4.ex e3).tu ((p2.ex e3).tu d4)).snoc him)).tu tu4, ?_⟩
    rw [take_snoc hd]
    clear p4 pl
    generalize ds.take i = l at p5
    induction p5 with
    | nil => exact .cons ho .nil
    | cons h t ih => exact .cons h ih
  · obtain ⟨p1, p2, xs, out, p3, p4, p5⟩ := p
    rw [List.take_length] at p5
    exact q _ H' (d2.trans p1) (p2.mono (Nat.le_add_right _ _)) ⟨out, ⟨ds, hP, p5⟩, Dl, xs, rfl, d2.fresh s2.some.1 s2.some.2 hD, p3, p4⟩
end
end Lk

set_option maxHeartbeats 1000000
/-! Defs that are called while nothing is being shown; repr; _law_like. -/
namespace Lk
open PySem PySem.Spec PyProof.Rows L2
open Evl (Ex)
/-- a def's promise where no repr is under way -/
structure FnG (P : Program) (w : World) (K : Frag) (mg : Str → Option Value) (base : Heap) (k : Nat) (f : Addr) (fd : FuncData) (ps : List Str) (sp : Sp) : Prop where
  lenG : ∀ vs H Q E, sp vs H Q E → vs.length = ps.length
  runG : ∀ (A : Around) (outer : List Env) (s : Shared) (H : Hp) (ar : Args) (us : List Value) (vs : List V) (Q : VK) (E : XK), Room k A → A.guards = some [] → Env0 P w K mg base A outer s H → BindsTo s fd ar (ps.zip us) → Vals vs us → sp vs H Q E →
    codeAny (model P w) A (.call (.ref f) ar) (CR CX0 outer P w H s Q E) s
section
variable {P : Program} {w : World} {K : Frag} {mg : Str → Option Value} {base : Heap} {x qual : Str} {params : Arguments} {body : List Stmt} {scope : Scope} {dvs : List V} {kws : List (Str × V)} {f : Addr} {fd : FuncData}
theorem fnG_of {N ps : List Str} {k : Nat} {sp : Sp} (F : FunD K x qual params body scope dvs kws f fd) (S : FnScope N ps scope) (len : ∀ vs H Q E, sp vs H Q E → vs.length = ps.length)
    (hb : ∀ (cdv : Value) (A : Around) (outer : List Env) (s : Shared) (H : Hp) (vs : List V) (Q : VK) (E : XK), Room k (A.deeper (envOfC qual scope s.heap.objs.size f cdv)) → A.guards = some [] → sp vs H Q E →
      ∃ t, PSs (cxOf CX0 P w K mg base N qual scope f cdv A outer s H E) body t ∧ t { nx := fun _ H' => Q .non H', rt := Q } (start N vs) H) : FnG P w K mg base (k + 1) f fd ps sp := by
  obtain ⟨oc, od, dV, kV, doc, pm, an, cdv, ct, osl, rfl, lk, cod, _, _⟩ := F.ex
  refine ⟨len, fun A outer s H ar us vs Q E room gd env bnd rel sat => ?_⟩
  have ll := len _ _ _ _ sat
  have Kin : K.In s.heap := env.mod.kin.keeps fun b o e => (env.bs b o e).1
  have nl : s.heap.NoLimit := env.mod.nolimit.keeps fun b o e => (env.bs b o e).1
  have kinds : ∀ y ∈ ps.zip us, scope.names.lookup y.1 = some .local ∨ (scope.names.lookup y.1 = some .cell ∧ ((cellsFrom (s.heap.objs.size + 1) scope.names []).lookup y.1).isSome = true) := by
    rintro ⟨n, v⟩ hy
    exact (S.par n (List.of_mem_zip hy).1).imp id fun q => ⟨q, PySem.W.cellsFrom_some _ _ _ (.inl q)⟩
  refine codeAny_call_function room.depth (Kin _ _ lk) rfl S.co S.gen rfl (PySem.W.codeRec_of Kin cod) (bnd _ _ _ _ ?_)
  refine wpAny_newFunctionEnv_cells S.kind kinds fun e0 he s1 xx => ?_
  subst he
  refine ⟨nl.keeps xx.toInCall.keep, codeAny_func ?_⟩
  obtain ⟨t, ht, hq⟩ := hb cdv A outer s H vs Q E (room.deeper _) gd sat
  have J0 : Inv (cxOf CX0 P w K mg base N qual scope f cdv A outer s H E) [] (start N vs) H s1 := inv_start S room.hd env ll rel xx
  refine wpAny_mono (ht.run [] s1 (start N vs) H _ J0 hq) (fun fl s' hs => ?_) fun _ _ z => z
  match fl, hs with
  | .ret u, ⟨v, σ', H', J, rv, q⟩ => exact ⟨v, H', J.os, J.bare, J.base, J.hok, rv, q⟩
  | .next, ⟨σ', H', J, q⟩ => exact ⟨V.non, H', J.os, J.bare, J.base, J.hok, rfl, q⟩
  | .brk, ⟨_, _, _, q⟩ => exact q.elim
  | .cont, ⟨_, _, _, q⟩ => exact q.elim
/-- a def that can be called by its name -/
def CalG (P : Program) (w : World) (K : Frag) (mg : Str → Option Value) (base : Heap) (x : Str) (k : Nat) (sp : Sp) : Prop :=
  ∃ f fd ps, FnG P w K mg base k f fd ps sp ∧ mg x = some (.ref f) ∧ PySem.W.keepIn K (.ref f) = true ∧ Binds K fd ps []
theorem calGd_of (E : En w K mg base) (d : He.DefD) {x : Str} {N ps : List Str} {k : Nat} {sp : Sp} (i j : Nat) (S : FnScope N ps d.scope) (len : ∀ vs H Q E, sp vs H Q E → vs.length = ps.length)
    (body : ∀ (cdv : Value) (A : Around) (outer : List Env) (s : Shared) (H : Hp) (vs : List V) (Q : VK) (E : XK), Room k (A.deeper (envOfC d.qual d.scope s.heap.objs.size (He.fAd K d.at_) cdv)) → A.guards = some [] → sp vs H Q E →
      Wm (Bx P w K mg base N d cdv A outer s H E) d.body { nx := fun _ H' => Q .non H', rt := Q } (start N vs) H)
    (hb : ∀ (kV doc pm : Value) (an : Option Addr) (cdv ct : Value) (us : List Value), us.length = ps.length → bindArgs (PySem.W.fnOf d.name d.qual d.params d.body d.scope .none kV doc pm an cdv ct) ⟨us, []⟩ = pure (ps.zip us))
    (hd : fnl[i]? = some d := by rfl) (hg : fas[j]? = some (.glo x) := by rfl) (hx : d.at_ = (x, none) := by rfl) (h0 : d.dfl = [] := by rfl) (h1 : d.kwd = [] := by rfl) : CalG P w K mg base x (k + 1) sp := by
  obtain ⟨fd, F⟩ := E.fn d (List.mem_of_getElem? hd)
  have e0 : d.dvs K = [] := by rw [He.DefD.dvs, h0] <;> rfl
  have e1 : d.kws K = [] := by rw [He.DefD.kws, h1] <;> rfl
  rw [e0, e1] at F
  refine ⟨He.fAd K d.at_, fd, ps, fnG_of F S len fun cdv A outer s H vs Q E hr g h => ?_, ?_, F.kp, F.bindsN hb⟩
  · obtain ⟨t, h1, h2⟩ := body cdv A outer s H vs Q E hr g h
    exact ⟨t, h1.nox, h2⟩
  · rw [hx]
    exact E.glo j hg
end
section
variable {X : Cx} {σ : L2.St} {H H' : Hp} {e a b c : Expr} {es : List Expr} {pos p p2 : Pos} {ρ ρ1 ρ2 ρ3 : Rp} {ρs : Rps} {x : Str} {k k' : Nat} {sp : Sp}
theorem pe_callG {f : Addr} {fd : FuncData} {ps : List Str} {t : TA} (F : FnG X.prog X.w X.K X.mg X.base k f fd ps sp) (hr : Room k X.A) (gd : X.A.guards = some []) (hg : Gl X x) (hm : X.mg x = some (.ref f)) (hk : PySem.W.keepIn X.K (.ref f) = true) (hb : Binds X.K fd ps [])
    (ha : PA X (e :: es) t) (hdb : (x == ("__debug__" : Str)) = false := by decide) (he : starEach (e :: es) X.env = (false, eval e X.env) :: starEach es X.env := by rfl) (hpl : (backTo pos (starEach es X.env)).any (·.1) = false := by rfl) :
    PE X (.Call (.Name x p) (e :: es) [] pos) (tCall sp [] E0 t) := ⟨fun pins s σ H Q I h => by
  refine wpAny_Call_Name_kw (ld_glob I hg hm (PySem.W.callWith_K (h₀ := X.base) I.ok.mod.kin hk (thn (ha.run pos pins s σ H _ I h) fun us s1 ⟨vs, H1, I1, r, q⟩ => ⟨I1.kIn, ?_⟩) he hpl) hdb)
  have q : sp (vs ++ []) H1 Q E0 := q
  rw [List.append_nil] at q
  have bb := hb s1 us I1.kIn (by rw [List.append_nil, ← r.length]; exact F.lenG _ _ _ _ q)
  rw [List.append_nil] at bb
  refine wpAny_call (codeAny_mono (F.runG X.A X.stack s1 H1 ⟨us, []⟩ us vs Q E0 hr gd I1.env0 bb r q) fun r2 s' hq => ?_)
  match r2, hq with
  | .error e, hq => exact pass0 pins σ H1 s1 e s' I1 hq
  | .ok (.ret u), hq => exact I1.after hq
  | .ok .next, hq => exact hq.elim
  | .ok .brk, hq => exact hq.elim
  | .ok .cont, hq => exact hq.elim⟩
theorem we_callG {Q : VK} (C : CalG X.prog X.w X.K X.mg X.base x k sp) (gd : X.A.guards = some []) (hr : Room k' X.A) (h : Wa X (e :: es) σ H fun vs H1 => sp vs H1 Q E0) (hk : k ≤ k' := by decide) (hg : Gl X x := by rfl) (hdb : (x == ("__debug__" : Str)) = false := by decide)
    (he : starEach (e :: es) X.env = (false, eval e X.env) :: starEach es X.env := by rfl) (hpl : (backTo pos (starEach es X.env)).any (·.1) = false := by rfl) : We X (.Call (.Name x p) (e :: es) [] pos) σ H Q := by
  obtain ⟨f, fd, ps, F, hm, hkp, hb⟩ := C
  refine ⟨_, pe_callG F (hr.mono hk) gd hg hm hkp hb wa_ok hdb he hpl, ?_⟩
  show Wa X (e :: es) σ H fun vs H1 => sp (vs ++ []) H1 Q E0
  simp only [List.append_nil]
  exact h
/-! repr -/
/-- data that can be shown: its weight at most n, its depth at most m -/
structure Shw (n m : Nat) (d : PyData) : Prop where
  lv : d.leavesShort 13 = true
  sh : d.showable = true
  nd : d.hasDict = false
  wt : d.weight ≤ n
  dp : d.depth ≤ m
theorem Shw.mono {n m n' m' : Nat} {d : PyData} (h : Shw n m d) (a : n ≤ n') (b : m ≤ m') : Shw n' m' d := ⟨h.lv, h.sh, h.nd, Nat.le_trans h.wt a, Nat.le_trans h.dp b⟩
theorem shw_int {i : Int} (h : i.natAbs < 10 ^ 12) : Shw 40 0 (.int i) := by
  have l : i.natAbs.log2 < 40 := by
    by_cases z : i.natAbs = 0
    · rw [z]
      decide
    · exact (Nat.log2_lt z).mpr (Nat.lt_trans h (by decide))
  refine ⟨?_, ?_, by simp [PyData.hasDict], ?_, by simp [PyData.depth]⟩
  · unfold PyData.leavesShort
    exact decide_eq_true (PyData.shown_int_le h)
  · simp only [PyData.showable]
    exact decide_eq_true (by omega)
  · simp only [PyData.weight]
    split <;> omega
theorem shw_nat {i : Nat} (h : i < 10 ^ 12) : Shw 40 0 (.int (i : Int)) := shw_int (by simpa using h)
theorem shw_str {l : List Nat} {n : Nat} (h : ∀ c ∈ l, c < 1000000) (hz : l.length ≤ n) : Shw n 0 (.str (T l)) := by
  refine ⟨?_, by simp [PyData.showable], by simp [PyData.hasDict], ?_, by simp [PyData.depth]⟩
  · unfold PyData.leavesShort
    rw [List.all_eq_true]
    intro c hc
    rw [T_list] at hc
    exact decide_eq_true (Nat.lt_trans (h c hc) (by decide))
  · simp only [PyData.weight]
    simpa [T] using hz
theorem shw_all {n m : Nat} : ∀ {xs : List PyData}, (∀ x ∈ xs, Shw n m x) → PyData.leavesShortAll 13 xs = true ∧ PyData.showableAll xs = true ∧ PyData.hasDictAll xs = false ∧ PyData.weightAll xs ≤ xs.length * (n + 1) ∧ PyData.depthAll xs ≤ m
  | [], _ => ⟨rfl, by simp [PyData.showableAll], by simp [PyData.hasDictAll], by simp [PyData.weightAll], by simp [PyData.depthAll]⟩
  | x :: xs, h => by
    obtain ⟨i1, i2, i3, i4, i5⟩ := shw_all (xs := xs) fun y hy => h y (List.mem_cons_of_mem _ hy)
    obtain ⟨a1, a2, a3, a4, a5⟩ := h x (List.mem_cons_self ..)
    refine ⟨by simp only [PyData.leavesShortAll, a1, i1, Bool.and_self], by simp only [PyData.showableAll, a2, i2, Bool.and_self], by simp only [PyData.hasDictAll, a3, i3, Bool.or_self], ?_, by simp only [PyData.depthAll]; omega⟩
    simp only [PyData.weightAll, List.length_cons, Nat.succ_mul]
    omega
theorem shw_tup {n m : Nat} {xs : List PyData} (h : ∀ x ∈ xs, Shw n m x) : Shw (xs.length * (n + 1)) (m + 1) (.tuple xs) := by
  obtain ⟨i1, i2, i3, i4, i5⟩ := shw_all h
  exact ⟨by simpa only [PyData.leavesShort] using i1, by simpa only [PyData.showable] using i2, by simpa only [PyData.hasDict] using i3, by simpa only [PyData.weight] using i4, by simp only [PyData.depth]; omega⟩
theorem shw_lst {n m : Nat} {xs : List PyData} (h : ∀ x ∈ xs, Shw n m x) : Shw (xs.length * (n + 1)) (m + 1) (.list xs) := by
  obtain ⟨i1, i2, i3, i4, i5⟩ := shw_all h
  exact ⟨by simpa only [PyData.leavesShort] using i1, by simpa only [PyData.showable] using i2, by simpa only [PyData.hasDict] using i3, by simpa only [PyData.weight] using i4, by simp only [PyData.depth]; omega⟩
abbrev Sh (d : PyData) : Prop := Shw 1000000 8 d
/-- an int, or an object -/
def Shn (v : V) : Prop := (∃ i, v = .int i) ∨ ∃ q, v = .ref q
theorem cr_repr (gd : X.A.guards = some []) (hu : X.A.units + 64 < cLine) : CallR X (.builtin "repr") (fun vs H Q => ∃ (v : V) (d : PyData), vs = [v] ∧ Shn v ∧ Dp X.K H v d ∧ Sh d ∧ Q (.str d.shown) H) := by
  intro pins s σ H vs us Q I r h
  obtain ⟨v, d, rfl, ht, hd, sw, qq⟩ := h
  rcases ht with ⟨i, rfl⟩ | ⟨q, rfl⟩
  · cases hd
    refine SkE.call_repr_int pins s σ H _ us Q I r ⟨i, rfl, ?_, ?_⟩
    · have z := sw.sh
      simp only [PyData.showable] at z
      exact of_decide_eq_true z
    · simpa only [PyData.shown] using qq
  · obtain ⟨u, rfl, ru⟩ := vals1 r
    cases ru
    obtain ⟨as, rd⟩ := Dp.reads I d _ _ hd rfl
    refine repr_of_reads' rd sw.sh (fun z => by rw [sw.nd] at z; cases z) gd (by have := sw.dp; omega) (fun _ _ z => z) (fun h' u tk kp => ?_) (PyData.shown_fits (by decide) (by decide) sw.lv (Nat.le_trans sw.wt (by decide)))
    exact ⟨.str d.shown, H, I.kept kp, ⟨_, rfl⟩, qq⟩
/-- what can be told apart by repr: an int or a list -/
def rY : PyData → Rp
  | .list ds => rL ds
  | d => rD d
def Yn : PyData → Prop
  | .list _ => True
  | .int _ => True
  | .tuple _ => True
  | _ => False
theorem rY_dp {K : Frag} {d : PyData} (y : Yn d) {S H : Hp} {v : V} (h : (rY d).r S v H) : Shn v ∧ Dp K H v d := by
  cases d with
  | list ds =>
    obtain ⟨p, xs, rfl, h1, h2⟩ := h
    exact ⟨.inr ⟨p, rfl⟩, .lst (SqL.of h1) (Ims.dp ds h2)⟩
  | int i =>
    have e := Im.eint h
    subst e
    exact ⟨.inl ⟨i, rfl⟩, .int i⟩
  | tuple ds =>
    obtain ⟨p, xs, e, h1, h2⟩ := Im.etup h
    exact ⟨.inr ⟨p, e⟩, Im.dp _ h⟩
  | none => exact y.elim
  | bool _ => exact y.elim
  | str _ => exact y.elim
  | dict _ => exact y.elim
theorem ev_repr {d : PyData} (gd : X.A.guards = some []) (hu : X.A.units + 64 < cLine) (hm : X.mg "repr" = none) (ha : Ev X a σ H (rY d)) (y : Yn d) (sw : Sh d) (hg : Gl X "repr" := by rfl) (he : starEach [a] X.env = (false, eval a X.env) :: starEach [] X.env := by rfl)
    (hpl : (backTo pos (starEach [] X.env)).any (·.1) = false := by rfl) : Ev X (.Call (.Name "repr" p) [a] [] pos) σ H (rD (.str d.shown)) := ev_cb (cr_repr gd hu) hm (by decide +kernel) (eac ha ea0 he) (fun S vs H2 Q _ _ hv q => by
  obtain ⟨v, rfl, h1⟩ := one_arg hv
  obtain ⟨z1, z2⟩ := rY_dp (K := X.K) y h1
  exact ⟨v, d, rfl, z1, z2, sw, q.at (.str _)⟩) hg (by decide) (by decide) he hpl
end
section
variable {P : Program} {w : World} {K : Frag} {mg : Str → Option Value} {base : Heap}
/-- both are the same: it says True -/
abbrev p_like : Sp := Pr (fun d : PyData => [rY d, rY d]) (fun _ => rB true) (fun d => Yn d ∧ Sh d)
theorem mk_like (E : En w K mg base) : CalG P w K mg base "_law_like" 1 p_like :=
  calGd_of E D__law_like 40 37 sc__law_like (fun vs H Q EE ⟨a, S0, _, _, h, _⟩ => rAll_len h) (fun cdv Ar outer s H vs Q EE hr gd ⟨d, S0, ⟨y, sw⟩, _, hv, q⟩ => by
    obtain ⟨v1, v2, rfl, h1, h2⟩ := two_arg hv
    have rr : ∀ {S' : Hp} {v : V}, (rY d).r S0 v H → (rY d).r S' v H := fun {S' v} h => by
      cases d with
      | list ds => exact h
      | _ => exact h
    exact w_ret (ev_cmp (ρ := rB true) op_eq (ev_repr gd hr.units E.repr (ev_v (i := 0) rfl fun _ => rr h1) y sw) (ev_repr gd hr.units E.repr (ev_v (i := 1) rfl fun _ => rr h2) y sw) (fun S x z H2 Q2 _ _ hx hz g => by
      rw [Im.estr hx, Im.estr hz]
      exact ⟨rfl, g.at (by rw [decide_eq_true rfl]; exact .bl _)⟩) (nomark _)) q) (fun _ _ _ _ _ _ us hl => match us, hl with | [_, _], _ => rfl)
end
end Lk

set_option maxHeartbeats 1000000
/-! More expressions that draw; _law_signs, _law_unit, _law_units, _law_text. -/
namespace Lk
open PySem PySem.Spec PyProof.Rows L2
open Evl (Ex)
section
variable {X : Cx} {σ : L2.St} {m c g : Addr} {H : Hp} {e a b o : Expr} {es : List Expr} {pos p p2 apos : Pos} {ρ ρ1 ρ2 ρ3 : Rp} {k k1 k2 k3 k' : Nat} {x : Str} {lo hi : Option Expr} {i j : Option Int}
theorem es_slf {P R : List PyData → Prop} (ha : Es X a σ m c g H k (rFp P)) (hl : ∀ H1, Dr m g H H1 → Ep X lo σ H1 i) (hh : ∀ H1, Dr m g H H1 → Ep X hi σ H1 j) (h : ∀ ds, P ds → R (cutL ds i j)) : Es X (.Subscript a (.Slice lo hi none p2) pos) σ m c g H k (rFp R) := fun H1 r d s Q q =>
  ⟨_, pe_slice sl_list we_ok wp_ok wp_ok, ha H1 r d s _ fun x H2 d2 s2 hx => hl H2 (d.trans d2) H2 (Ex.refl _) _ fun H3 e3 => hh H3 ((d.trans d2).trans (.of e3)) H3 (Ex.refl _) _ fun H4 e4 => by
    obtain ⟨ds, hP, l, xs, rfl, h0, h4, h5⟩ := (rFp P).m (e3.trans e4) hx
    exact ⟨l, xs, rfl, SqL.of h4, fun q' hq => q _ _ (d2.trans (.of ((e3.trans e4).trans (Ex.new hq)))) ((s2.ex (e3.trans e4)).ex (Ex.new hq)) ⟨_, h ds hP, q', _, rfl, d2.fresh s2.some.1 s2.some.2 (Evl.fresh_back (e3.trans e4) hq), upd_same, (h5.cut i j).ex (Ex.new hq)⟩⟩⟩
theorem es_join {P : List PyData → Prop} {R : PyData → Prop} (ho : ∀ H1, Dr m g H H1 → Ev X o σ H1 (rS [])) (ha : Es X a σ m c g H k (rFp P)) (h : ∀ ds, P ds → ∃ ls : List (List Nat), ds = ls.map eS ∧ ls.flatten.length ≤ 1000000 ∧ R (.str (T ls.flatten))) (hs : starEach [a] X.env = [(false, eval a X.env)] := by rfl)
    (hbase : attributeBase o "join" X.env (eval o X.env) = eval o X.env := by rfl) (hline : (apos.endLine == pos.line) = true := by rfl) : Es X (.Call (.Attribute o "join" apos) [a] [] pos) σ m c g H k (rDp R) := fun H1 r d s Q q => by
  refine ⟨_, pe_join we_ok we_ok hs hbase hline, ho H1 d H1 (Ex.refl H1) _ fun x H2 e2 h2 => ⟨⟨T [], Im.estr h2⟩, ha H2 r (d.trans (.of e2)) (s.ex e2) _ fun y H3 d3 s3 h3 => ?_⟩⟩
  obtain ⟨ds, hP, l, xs, rfl, _, h4, h5⟩ := h3
  obtain ⟨ls, rfl, z, hR⟩ := h ds hP
  have h5 : Ims H3 xs ((ls.map T).map .str) := by rw [List.map_map]; exact h5
  have ex := h5.strs
  subst ex
  refine ⟨T [], l, ls.map T, Im.estr h2, rfl, .inl (SqL.of h4), ?_, ?_⟩
  · have el : ((ls.map T).map (·.length)).sum = ls.flatten.length := by
      rw [List.map_map, List.length_flatten]
      congr 1
    rw [el, T_len, List.length_nil, Nat.mul_zero]
    omega
  · rw [join_T]
    exact q _ _ ((Dr.of e2).trans d3) s3 ⟨_, hR, .str _⟩
/-- a new list of data at a drawn place -/
theorem es_pick {ds : List PyData} {lim : Int} {R : PyData → Prop} (ha : ∀ H1, Dr m g H H1 → Ev X a σ H1 (rF ds)) (hb : Es X b σ m c g H k (rBe lim)) (hl : lim ≤ ds.length) (h : ∀ d ∈ ds, R d) (hs : PlainIx b := by exact fun _ _ => rfl) : Es X (.Subscript a b pos) σ m c g H k (rDp R) := fun H1 r d s Q q =>
  ⟨_, pe_ix ix_list we_ok we_ok hs, ha H1 d H1 (Ex.refl H1) _ fun x H2 e2 hx => hb H2 r (d.trans (.of e2)) (s.ex e2) _ fun y H3 d3 s3 hy => by
    obtain ⟨p, xs, rfl, h0, h4, h5⟩ := (sv_f ds).keep s.some.1 s.some.2 (s.ex e2) d3 hx
    obtain ⟨k, rfl, k0, k1⟩ := hy
    obtain ⟨k, rfl⟩ := Int.eq_ofNat_of_zero_le k0
    have kl : k < ds.length := by omega
    obtain ⟨v, v1, v2⟩ := h5.get (List.getElem?_eq_getElem kl)
    refine ⟨p, xs, k, v, rfl, rfl, SqL.of h4, ?_, q v H3 ((Dr.of e2).trans d3) s3 ⟨_, h _ (List.getElem_mem kl), v2⟩⟩
    unfold atI
    rw [Evl.ixN_nat (by rw [h5.len]; exact kl)]
    exact v1⟩
/-- a text at a drawn place -/
theorem es_pickS {l : List Nat} {lim : Int} (ha : ∀ H1, Dr m g H H1 → Ev X a σ H1 (rS l)) (hb : Es X b σ m c g H k (rBe lim)) (hl : lim ≤ l.length) (hz : l.length ≤ 1000000) (hs : PlainIx b := by exact fun _ _ => rfl) : Es X (.Subscript a b pos) σ m c g H k (rDp fun d => ∃ n ∈ l, d = eS [n]) := fun H1 r d s Q q =>
  ⟨_, pe_ix ix_str we_ok we_ok hs, ha H1 d H1 (Ex.refl H1) _ fun x H2 e2 hx => hb H2 r (d.trans (.of e2)) (s.ex e2) _ fun y H3 d3 s3 hy => by
    obtain ⟨k, rfl, k0, k1⟩ := hy
    obtain ⟨k, rfl⟩ := Int.eq_ofNat_of_zero_le k0
    have kl : k < l.length := by omega
    refine ⟨T l, k, l[k], Im.estr hx, rfl, by rw [T_len]; exact sz6 hz, ?_, q _ H3 ((Dr.of e2).trans d3) s3 ⟨_, ⟨_, List.getElem_mem kl, rfl⟩, .str _⟩⟩
    rw [T_list]
    unfold atI
    rw [Evl.ixN_nat kl]
    exact List.getElem?_eq_getElem kl⟩
theorem Es.go {r : Nat} {Q : VK} (h : Es X e σ m c g H k ρ) (st : Mst m c g H (r + k)) (q : ∀ v H2, Dr m g H H2 → Mst m c g H2 r → ρ.r H v H2 → Q v H2) : We X e σ H Q := h H r (.of (Ex.refl _)) st Q q
/-- arguments, items: drawn data -/
def Esa (X : Cx) (es : List Expr) (σ : L2.St) (m c g : Addr) (H : Hp) (k : Nat) (P : List PyData → Prop) : Prop := ∀ (H1 : Hp) (r : Nat), Dr m g H H1 → Mst m c g H1 (r + k) → ∀ Q : List V → Hp → Prop, (∀ vs H2 ds, Dr m g H1 H2 → Mst m c g H2 r → P ds → Ims H2 vs ds → Q vs H2) → Wa X es σ H1 Q
theorem esa0 : Esa X [] σ m c g H 0 (fun ds => ds = []) := fun H1 r d s Q q => ⟨_, pa_nil, q [] H1 [] (.of (Ex.refl H1)) s rfl .nil⟩
theorem esac {R : PyData → Prop} {P : List PyData → Prop} (ha : Es X a σ m c g H k1 (rDp R)) (hr : Esa X es σ m c g H k2 P) (hs : starEach (a :: es) X.env = (false, eval a X.env) :: starEach es X.env := by rfl) : Esa X (a :: es) σ m c g H (k1 + k2) (fun ds => ∃ d ds', ds = d :: ds' ∧ R d ∧ P ds') := fun H1 r d s Q q =>
  ⟨_, pa_cons we_ok wa_ok hs, ha H1 (r + k2) d (by rw [Nat.add_assoc, Nat.add_comm k2 k1]; exact s) _ fun v H2 d2 s2 hv => hr H2 r (d.trans d2) s2 _ fun vs H3 ds d3 s3 hP hvs => by
    obtain ⟨o, ho, him⟩ := hv
    exact q _ H3 _ (d2.trans d3) s3 ⟨o, ds, rfl, ho, hP⟩ (.cons (him.tu (s2.tu d3)) hvs)⟩
theorem es_tup {P : List PyData → Prop} {R : PyData → Prop} {x1} (ha : Esa X es σ m c g H k P) (h : ∀ ds, P ds → ds.length ≤ 1000000 ∧ R (.tuple ds)) : Es X (.Tuple es x1 pos) σ m c g H k (rDp R) := fun H1 r d s Q q =>
  ⟨_, pe_tup wa_ok, ha H1 r d s _ fun vs H2 ds d2 s2 hP hvs => ⟨by rw [hvs.len, sizeLine_eq]; have := (h ds hP).1; omega, fun p hp => q _ _ (d2.trans (.of (Ex.new hp))) (s2.ex (Ex.new hp)) ⟨_, (h ds hP).2, .tup upd_same (hvs.ex (Ex.new hp))⟩⟩⟩
/-- tuple(a new list) -/
theorem es_tuple {P : List PyData → Prop} {R : PyData → Prop} (hm : X.mg "tuple" = none) (ha : Es X a σ m c g H k (rFp P)) (h : ∀ ds, P ds → R (.tuple ds)) (hg : Gl X "tuple" := by rfl) (he : starEach [a] X.env = (false, eval a X.env) :: starEach [] X.env := by rfl) (hpl : (backTo pos (starEach [] X.env)).any (·.1) = false := by rfl) :
    Es X (.Call (.Name "tuple" p) [a] [] pos) σ m c g H k (rDp R) := fun H1 r d s Q q =>
  ⟨_, pe_callTy call_tuple_of hg hm (by decide +kernel) (pa_cons we_ok pa_nil he) (by decide) (by decide) he hpl, ha H1 r d s _ fun v H2 d2 s2 hv => by
    obtain ⟨ds, hP, l, xs, rfl, _, h4, h5⟩ := hv
    exact ⟨l, xs, rfl, .inl ⟨SqL.of h4, fun t ht => q _ _ (d2.trans (.of (Ex.new ht))) (s2.ex (Ex.new ht)) ⟨_, h ds hP, .tup upd_same (h5.ex (Ex.new ht))⟩⟩⟩⟩
theorem es_dp {R : PyData → Prop} (h : Es X e σ m c g H k ρ) (i : ∀ S v H1, ρ.r S v H1 → ∃ d, R d ∧ Im H1 v d) : Es X e σ m c g H k (rDp R) := h.imp i
theorem es_d {d : PyData} (h : ∀ H1, Dr m g H H1 → Ev X e σ H1 (rD d)) : Es X e σ m c g H 0 (rDp fun d' => d' = d) := (es_ev h).imp fun _ _ _ q => ⟨d, rfl, q⟩
end
section
variable {P : Program} {w : World} {K : Frag} {mg : Str → Option Value} {base : Heap}
theorem cal_pm (E : En w K mg base) (d : He.DefD) {x : Str} {N ps : List Str} {k : Nat} {α : Type} {A : α → List Rp} {R : α → Rp} {cost : α → Nat} {ok : α → Prop} (i j : Nat) (S : FnScope N ps d.scope) (hA : ∀ a, (A a).length + 1 = ps.length)
    (body : ∀ (m c g : Addr) (z : α) (cdv : Value) (Ar : Around) (outer : List Env) (s : Shared) (H : Hp) (ws : List V) (Q : VK) (EE : XK) (S0 : Hp) (r : Nat), Room k (Bx P w K mg base N d cdv Ar outer s H EE).A → ok z → Mst m c g H (r + cost z) → Ex S0 H → (rAll (A z)).r S0 ws H →
      (∀ v H', Dr m g H H' → Mst m c g H' r → (R z).r H v H' → Q v H') → Wm (Bx P w K mg base N d cdv Ar outer s H EE) d.body { nx := fun _ H' => Q .non H', rt := Q } (start N (.ref m :: ws)) H)
    (hb : ∀ (kV doc pm : Value) (an : Option Addr) (cdv ct : Value) (us : List Value), us.length = ps.length → bindArgs (PySem.W.fnOf d.name d.qual d.params d.body d.scope .none kV doc pm an cdv ct) ⟨us, []⟩ = pure (ps.zip us))
    (hd : fnl[i]? = some d := by rfl) (hg : fas[j]? = some (.glo x) := by rfl) (hx : d.at_ = (x, none) := by rfl) (h0 : d.dfl = [] := by rfl) (h1 : d.kwd = [] := by rfl) : Cal P w K mg base x (k + 1) [] (PrM A R cost ok) :=
  cal_of E d i j S (fun vs H Q EE ⟨m, c, g, a, ws, S0, r, e, _, _, _, h, _⟩ => by rw [e, List.length_cons, rAll_len h]; exact hA a) (fun cdv Ar outer s H vs Q EE hr ⟨m, c, g, a, ws, S0, r, e, h1, h2, h3, h4, h5⟩ => by
    subst e
    exact body m c g a cdv Ar outer s H ws Q EE S0 r hr h2 h1 h3 h4 h5) hb hd hg hx h0 h1
/-! ### signs -/
def menuL : List Nat := [97, 98, 99, 100, 101, 104, 110, 65, 66, 39, 45, 126, 33, 90, 48]
theorem menu_eq : ("abcdehnAB'-~!Z0" : Str) = T menuL := by decide +kernel
/-- so many signs -/
def rSg (n : Nat) : Rp := rDp fun d => ∃ sg : List Nat, OkSg sg ∧ sg.length = n ∧ d = .str (T sg)
theorem flat_one (l : List Nat) : (l.map fun x => [x]).flatten = l := by
  induction l with
  | nil => rfl
  | cons x l ih => rw [List.map_cons, List.flatten_cons, ih] <;> rfl
theorem menu_ok : OkSg menuL ∨ True := .inr trivial
theorem menu_nd : menuL.Nodup := by decide
theorem menu_c : ∀ c ∈ menuL, OkC c := by
  intro c hc
  simp only [menuL, List.mem_cons, List.not_mem_nil, or_false] at hc
  unfold OkC
  omega
def mAt (n : Nat) : Nat := menuL.getD n 0
theorem mAt_inj {a b : Nat} (ha : a < 15) (hb : b < 15) (h : mAt a = mAt b) : a = b := by
  have e : ∀ n < 15, menuL[n]? = some (mAt n) := by decide
  have z1 := e a ha
  have z2 := e b hb
  rw [h] at z1
  exact nodup_ixA menu_nd z1 z2
theorem mAt_ok {a : Nat} (ha : a < 15) : OkC (mAt a) := by
  refine menu_c _ ?_
  have e : ∀ n < 15, mAt n ∈ menuL := by decide
  exact e a ha
theorem signs_ok {ns : List Nat} {n : Nat} (pm : ns.Perm (List.range 15)) (h1 : 1 ≤ n) (h2 : n ≤ 12) : OkSg ((ns.take n).map mAt) ∧ ((ns.take n).map mAt).length = n := by
  have len : ns.length = 15 := by rw [pm.length_eq, List.length_range]
  have l2 : ((ns.take n).map mAt).length = n := by rw [List.length_map, List.length_take]; omega
  have lt : ∀ x ∈ ns.take n, x < 15 := fun x hx => List.mem_range.mp (pm.mem_iff.mp (List.mem_of_mem_take hx))
  refine ⟨⟨by rw [l2]; exact h1, by rw [l2]; exact h2, ?_, fun c hc => ?_⟩, l2⟩
  · have nd : (ns.take n).Nodup := (pm.nodup_iff.mpr List.nodup_range).sublist (List.take_sublist _ _)
    clear l2 len pm
    generalize ns.take n = l at nd lt
    induction l with
    | nil => exact List.nodup_nil
    | cons x l ih =>
      rw [List.nodup_cons] at nd
      rw [List.map_cons, List.nodup_cons]
      refine ⟨fun z => ?_, ih nd.2 fun y hy => lt y (List.mem_cons_of_mem _ hy)⟩
      obtain ⟨y, hy, e⟩ := List.mem_map.mp z
      have e2 := mAt_inj (lt y (List.mem_cons_of_mem _ hy)) (lt x (List.mem_cons_self ..)) e
      exact nd.1 (e2 ▸ hy)
  · obtain ⟨x, hx, rfl⟩ := List.mem_map.mp hc
    exact mAt_ok (lt x hx)
theorem pair_map {α : Type} {R : α → PyData → Prop} {g : α → PyData} {enc : α → PyData} (Pe : PyData → PyData → Prop) (h : ∀ a o, Pe (enc a) o → o = g a) : ∀ {xs : List α} {out : List PyData}, Paired Pe (xs.map enc) out → out = xs.map g
  | [], _, p => by
    cases p
    rfl
  | x :: xs, _, p => by
    cases p with
    | cons p1 p2 => rw [h x _ p1, pair_map (R := R) Pe h p2] <;> rfl
abbrev p_signs : Sp := PrM (fun n : Nat => [rI (n : Int)]) (fun n => rSg n) (fun _ => 15) (fun n => 1 ≤ n ∧ n ≤ 12)
theorem mk_signs (E : En w K mg base) : Cal P w K mg base "_law_signs" 4 [] p_signs :=
  cal_pm E D__law_signs 42 39 sc__law_signs (fun _ => rfl) (fun m c g n cdv Ar outer s H ws Q EE S0 r hr ok st _ hv q => by
    obtain ⟨v1, rfl, h1⟩ := one_arg hv
    have h1 := Im.eint h1
    subst h1
    refine w_set (i := 2) sc__law_signs.nd (ev_d (d' := .str (T menuL)) ev_str (by rw [← menu_eq] <;> rfl)) fun v2 H1 e1 hv2 => ?_
    refine w_retW (Es.go (r := r) (es_join (R := fun d => ∃ sg : List Nat, OkSg sg ∧ sg.length = n ∧ d = .str (T sg)) (fun H2 d2 => ev_d ev_str (by rfl)) (es_lc (own := [("_law_at", 3)]) (ke := 0) 15 (fun d o => ∃ x : Nat, x < 15 ∧ d = eN x ∧ o = eS [mAt x]) (wks_l (es_slf (P := fun ds => ∃ ns : List Nat, ns.Perm (List.range 15) ∧ ds = ns.map eN) (R := fun ds => ∃ ns : List Nat, ns.Perm (List.range 15) ∧ ds = (ns.take n).map eN)
      ((es_pm (mk_order E) hr 15 (by decide) (sv_pm 15) (fun H2 d2 => ev_v (i := 0) rfl fun _ => rfl) (fun H2 d2 => eac ev_int ea0)).imp fun S v H2 ⟨ns, z1, z2⟩ => ⟨_, ⟨ns, z1, rfl⟩, z2⟩) (fun H2 d2 => ep0) (fun H2 d2 => ep1 (ev_v (i := 1) rfl fun _ => .int _)) (fun ds ⟨ns, z1, z2⟩ => ⟨ns, z1, by rw [z2, cutL_hi, List.map_take]⟩))) rfl sc__law_signs.nd (fun ds ⟨ns, z1, z2⟩ => ?_) (by decide) (fun ds d ⟨ns, z1, z2⟩ hd x H2 d2 hx => ?_)) (fun ds ⟨ds0, ⟨ns, z1, z2⟩, pr⟩ => ?_)) (st.ex e1) fun v H2 d2 s2 hv => ?_)
    · rw [z2, List.length_map, List.length_take, z1.length_eq, List.length_range]
      omega
    · rw [z2] at hd
      obtain ⟨x', hx', rfl⟩ := List.mem_map.mp hd
      have lt : x' < 15 := List.mem_range.mp (z1.mem_iff.mp (List.mem_of_mem_take hx'))
      refine ⟨_, fun s H0 C cl fp => tg_n sc__law_signs.nd (i := 3), by rw [wipe_set (by decide), wipe_wipe], fun s H0 C cl fp => (es_ev (ρ := rS [mAt x']) fun H3 d3 => ev_ixs (l := menuL) (i := (x' : Int)) (ev_v (i := 2) rfl fun _ => ?_) (ev_v (i := 3) rfl fun _ => ?_) ?_ (by decide)).imp fun S v H4 hv4 => ⟨_, ⟨x', lt, rfl, rfl⟩, hv4⟩⟩
      · rw [Im.estr hv2]
        exact .str _
      · rw [Im.eint hx]
        exact .int _
      · unfold atI
        rw [Evl.ixN_nat (show x' < menuL.length from lt)]
        have e : ∀ n < 15, menuL[n]? = some (mAt n) := by decide
        exact e x' lt
    · subst z2
      have e := pair_map (R := fun _ _ => True) (g := fun x => eS [mAt x]) _ (fun a o ⟨x, _, e1, e2⟩ => by
        have z : (a : Int) = (x : Int) := by cases e1; rfl
        have z : a = x := by omega
        subst z
        exact e2) pr
      refine ⟨((ns.take n).map mAt).map fun x => [x], by rw [e, List.map_map, List.map_map] <;> rfl, ?_, ?_⟩
      · rw [flat_one, (signs_ok z1 ok.1 ok.2).2]
        omega
      · rw [flat_one]
        exact ⟨_, (signs_ok z1 ok.1 ok.2).1, (signs_ok z1 ok.1 ok.2).2, rfl⟩
    · exact q v H2 ((Dr.of e1).trans d2) s2 hv) (fun _ _ _ _ _ _ us hl => match us, hl with | [_, _], _ => rfl)
end
end Lk

set_option maxHeartbeats 1000000
/-! _law_unit, _law_units, _law_text. -/
namespace Lk
open PySem PySem.Spec PyProof.Rows L2
open Evl (Ex)
section
variable {P : Program} {w : World} {K : Frag} {mg : Str → Option Value} {base : Heap}
def rUn : Rp := rDp fun d => ∃ u : U, OkU u ∧ d = eU u
def rUs : Rp := rDp fun d => ∃ us : List U, OkUs us ∧ d = eUs us
abbrev p_unit : Sp := PrM (fun n : Int => [rI n]) (fun _ => rUn) (fun _ => 4) (fun n => 1 ≤ n ∧ n ≤ 20)
theorem mk_unit (E : En w K mg base) : Cal P w K mg base "_law_unit" 3 [] p_unit :=
  cal_pm E D__law_unit 43 40 sc__law_unit (fun _ => rfl) (fun m c g n cdv Ar outer s H ws Q EE S0 r hr ok st _ hv q => by
    obtain ⟨v1, rfl, h1⟩ := one_arg hv
    have h1 := Im.eint h1
    subst h1
    have dr : ∀ {pos p1 p2 p3 : Pos} {j : Nat} {σ : L2.St} {H1 : Hp}, σ[0]? = some (some (.ref m)) → Es (Bx P w K mg base N__law_unit D__law_unit cdv Ar outer s H EE) (.Call (.Name "_law_draw" p1) [.Name "_law_m" p2, .Constant (.int 4) j p3] [] pos) σ m c g H1 1 (rBe 4) := fun h0 =>
      es_draw E hr (mk_draw E) (fun H1 d => ev_v (i := 0) h0 fun _ => rfl) (fun H1 d => ev_int) (by decide) (by decide)
    refine w_setW (i := 2) sc__law_unit.nd (Es.go (r := r + 3) (es_pick (R := fun d => ∃ k : Int, 1 ≤ k ∧ k ≤ 40 ∧ d = .int k) (fun H1 d => ev_lst (eac ev_int (eac ev_int (eac ev_int (eac ev_int ea0)))) (.cons (.cons (.cons (.cons .nil)))) (by simp)) (dr rfl) (by decide) (fun d hd => ?_)) st fun v H2 d2 s2 hv => ?_)
    · simp only [List.mem_cons, List.not_mem_nil, or_false] at hd
      rcases hd with rfl | rfl | rfl | rfl
      · exact ⟨1, by omega, by omega, rfl⟩
      · exact ⟨1, by omega, by omega, rfl⟩
      · exact ⟨7, by omega, by omega, rfl⟩
      · exact ⟨40, by omega, by omega, rfl⟩
    · obtain ⟨d, ⟨k, k1, k2, rfl⟩, im⟩ := hv
      have im := Im.eint im
      subst im
      refine w_retW (Es.go (r := r) (es_tup (R := fun d => ∃ u : U, OkU u ∧ d = eU u) (esac (R := fun d => ∃ i : Int, 1 ≤ i ∧ i ≤ 999 ∧ d = .int i) (es_op (ρ1 := rDp fun d => d = .int k) (ρ2 := rDp fun d => ∃ i : Int, 1 ≤ i ∧ i ≤ 20 ∧ d = .int i) op_mul (es_d fun H3 d3 => ev_v (i := 2) rfl fun _ => .int _)
        (es_op (ρ1 := rDp fun d => d = .int 1) (ρ2 := rBe n) op_add (es_d fun H3 d3 => ev_int) (es_draw E hr (mk_draw E) (fun H1 d => ev_v (i := 0) rfl fun _ => rfl) (fun H1 d => ev_v (i := 1) rfl fun _ => .int _) ok.1 (by omega)) (sv_dp _) (sv_dp _) fun S S' x y H2 Q2 _ _ hx hy gg => ?_) (sv_dp _) (sv_dp _) fun S S' x y H2 Q2 _ _ hx hy gg => ?_)
        (esac (R := fun d => ∃ i : Int, 0 ≤ i ∧ i ≤ 99 ∧ d = .int i) (es_pick (fun H1 d => ev_lst (eac ev_int (eac ev_int (eac ev_int (eac ev_int ea0)))) (.cons (.cons (.cons (.cons .nil)))) (by simp)) (dr rfl) (by decide) fun d hd => ?_)
        (esac (R := fun d => ∃ i : Int, 0 ≤ i ∧ i ≤ 99 ∧ d = .int i) (es_pick (fun H1 d => ev_lst (eac ev_int (eac ev_int (eac ev_int (eac ev_int ea0)))) (.cons (.cons (.cons (.cons .nil)))) (by simp)) (dr rfl) (by decide) fun d hd => ?_) esa0))) fun ds hP => ?_) (s2.mono (by simp)) fun v H3 d3 s3 hv => q v H3 (d2.trans d3) s3 (sv_dp _ |>.back s2.some.1 s2.some.2 d2 hv))
      · obtain ⟨d1, rfl, i1⟩ := hx
        obtain ⟨z, rfl, z0, z1⟩ := hy
        have i1 := Im.eint i1
        subst i1
        exact ⟨1, z, rfl, rfl, gg.at ⟨_, ⟨1 + z, by omega, by omega, rfl⟩, .int _⟩⟩
      · obtain ⟨d1, rfl, i1⟩ := hx
        obtain ⟨d2, ⟨z, z0, z1, rfl⟩, i2⟩ := hy
        have i1 := Im.eint i1
        have i2 := Im.eint i2
        subst i1 i2
        refine ⟨k, z, rfl, rfl, cmulL (by omega), gg.at ⟨_, ⟨k * z, ?_, ?_, rfl⟩, .int _⟩⟩
        · have := Int.mul_le_mul k1 z0 (by omega) (by omega)
          omega
        · have := Int.mul_le_mul k2 z1 (by omega) (by omega)
          omega
      · simp only [List.mem_cons, List.not_mem_nil, or_false] at hd
        rcases hd with rfl | rfl | rfl | rfl
        · exact ⟨0, by omega, by omega, rfl⟩
        · exact ⟨0, by omega, by omega, rfl⟩
        · exact ⟨1, by omega, by omega, rfl⟩
        · exact ⟨3, by omega, by omega, rfl⟩
      · simp only [List.mem_cons, List.not_mem_nil, or_false] at hd
        rcases hd with rfl | rfl | rfl | rfl
        · exact ⟨0, by omega, by omega, rfl⟩
        · exact ⟨0, by omega, by omega, rfl⟩
        · exact ⟨1, by omega, by omega, rfl⟩
        · exact ⟨2, by omega, by omega, rfl⟩
      · obtain ⟨_, _, rfl, ⟨i1, a1, b1, rfl⟩, _, _, rfl, ⟨i2, a2, b2, rfl⟩, _, _, rfl, ⟨i3, a3, b3, rfl⟩, rfl⟩ := hP
        exact ⟨by simp, (i1, i2, i3), ⟨⟨a1, b1⟩, ⟨a2, b2⟩, ⟨a3, b3⟩⟩, rfl⟩) (fun _ _ _ _ _ _ us hl => match us, hl with | [_, _], _ => rfl)
abbrev p_units : Sp := PrM (fun n : Int => [rI n]) (fun _ => rUs) (fun _ => 13) (fun n => 1 ≤ n ∧ n ≤ 20)
theorem mk_units (E : En w K mg base) : Cal P w K mg base "_law_units" 4 [] p_units :=
  cal_pm E D__law_units 44 41 sc__law_units (fun _ => rfl) (fun m c g n cdv Ar outer s H ws Q EE S0 r hr ok st _ hv q => by
    obtain ⟨v1, rfl, h1⟩ := one_arg hv
    have h1 := Im.eint h1
    subst h1
    refine w_retW (Es.go (r := r) (es_tuple (R := fun d => ∃ us : List U, OkUs us ∧ d = eUs us) E.tup (es_lc (own := [("_law_turn", 2)]) (ke := 4) 3 (fun d o => ∃ u : U, OkU u ∧ o = eU u) (wks_r (N := 3) E.rng (es_pick (ds := [.int 1, .int 1, .int 1, .int 1, .int 0, .int 2, .int 2, .int 3]) (R := fun d => ∃ k : Nat, k ≤ 3 ∧ d = .int (k : Int))
      (fun H1 d => ev_lst (eac ev_int (eac ev_int (eac ev_int (eac ev_int (eac ev_int (eac ev_int (eac ev_int (eac ev_int ea0)))))))) (.cons (.cons (.cons (.cons (.cons (.cons (.cons (.cons .nil)))))))) (by simp))
      (es_draw (lim := 8) E hr (mk_draw E) (fun H1 d => ev_v (i := 0) rfl fun _ => rfl) (fun H1 d => ev_int) (by decide) (by decide)) (by decide) fun d hd => ?_) (fun S v H1 ⟨d, ⟨k, hk, e⟩, im⟩ => ⟨k, by rw [e] at im; exact Im.eint im, hk⟩) (by decide)) rfl sc__law_units.nd (fun ds ⟨k, hk, e⟩ => by rw [e, rng, List.length_map, List.length_range]; exact hk) (by decide) (fun ds d hP hd x H2 d2 hx => ?_)) fun ds ⟨ds0, ⟨k, hk, e⟩, pr⟩ => ?_) st q)
    · simp only [List.mem_cons, List.not_mem_nil, or_false] at hd
      rcases hd with rfl | rfl | rfl | rfl | rfl | rfl | rfl | rfl
      · exact ⟨1, by omega, rfl⟩
      · exact ⟨1, by omega, rfl⟩
      · exact ⟨1, by omega, rfl⟩
      · exact ⟨1, by omega, rfl⟩
      · exact ⟨0, by omega, rfl⟩
      · exact ⟨2, by omega, rfl⟩
      · exact ⟨2, by omega, rfl⟩
      · exact ⟨3, by omega, rfl⟩
    · exact ⟨_, fun s H0 C cl fp => tg_n sc__law_units.nd (i := 2), by rw [wipe_set (by decide), wipe_wipe], fun s H0 C cl fp => es_pm (mk_unit E) hr n ok (sv_dp _) (fun H2 d2 => ev_v (i := 0) rfl fun _ => rfl) (fun H2 d2 => eac (ev_v (i := 1) rfl fun _ => .int _) ea0)⟩
    · have go : ∀ {l : List PyData} {out : List PyData}, Paired (fun d o => ∃ u : U, OkU u ∧ o = eU u) l out → ∃ us : List U, us.length = l.length ∧ (∀ u ∈ us, OkU u) ∧ out = us.map eU := by
        intro l out p
        induction p with
        | nil => exact ⟨[], rfl, fun u hu => (by cases hu), rfl⟩
        | cons h t ih =>
          obtain ⟨u, hu, rfl⟩ := h
          obtain ⟨us, i1, i2, rfl⟩ := ih
          exact ⟨u :: us, by simp [i1], fun v hv => by
            rcases List.mem_cons.mp hv with rfl | hv
            · exact hu
            · exact i2 v hv, rfl⟩
      obtain ⟨us, u1, u2, rfl⟩ := go pr
      refine ⟨us, ⟨?_, u2⟩, rfl⟩
      rw [u1, e, rng, List.length_map, List.length_range]
      exact hk) (fun _ _ _ _ _ _ us hl => match us, hl with | [_, _], _ => rfl)
/-- a drawn text of at most so many signs -/
def rTx (sg : List Nat) (n : Nat) : Rp := rDp fun d => ∃ t : List Nat, (∀ x ∈ t, x ∈ sg) ∧ t.length ≤ n ∧ d = eS t
theorem pair_sg {sg : List Nat} : ∀ {l out : List PyData}, Paired (fun _ o => ∃ x ∈ sg, o = eS [x]) l out → ∃ t : List Nat, (∀ x ∈ t, x ∈ sg) ∧ t.length = l.length ∧ out = (t.map fun x => [x]).map eS
  | _, _, .nil => ⟨[], fun x hx => (by cases hx), rfl, rfl⟩
  | _, _, .cons h p => by
    obtain ⟨x, hx, rfl⟩ := h
    obtain ⟨t, a, b, rfl⟩ := pair_sg p
    exact ⟨x :: t, fun y hy => by
      rcases List.mem_cons.mp hy with rfl | hy
      · exact hx
      · exact a y hy, by simp [b], rfl⟩
abbrev p_text : Sp := PrM (fun z : List Nat × Nat => [rS z.1, rI (z.2 : Int)]) (fun z => rTx z.1 z.2) (fun _ => 60) (fun z => OkSg z.1 ∧ z.2 ≤ 50)
theorem mk_text (E : En w K mg base) : Cal P w K mg base "_law_text" 3 [] p_text :=
  cal_pm E D__law_text 47 44 sc__law_text (fun _ => rfl) (fun m c g z cdv Ar outer s H ws Q EE S0 r hr ok st _ hv q => by
    obtain ⟨sg, n⟩ := z
    obtain ⟨ok, ok2⟩ : OkSg sg ∧ n ≤ 50 := ok
    obtain ⟨v1, v2, rfl, h1, h2⟩ := two_arg hv
    have h1 := Im.estr h1
    have h2 := Im.eint h2
    subst h1 h2
    have q : ∀ v H', Dr m g H H' → Mst m c g H' r → (rTx sg n).r H v H' → Q v H' := q
    have zz := ok.most
    have zo := ok.one
    refine w_retW (Es.go (r := r) (Es.le (k := 60) (es_join (R := fun d => ∃ t : List Nat, (∀ x ∈ t, x ∈ sg) ∧ t.length ≤ n ∧ d = eS t) (fun H2 d2 => ev_d ev_str (by rfl)) (es_lc (own := [("_law_place", 3)]) (ke := 1) 50 (fun d o => ∃ x ∈ sg, o = eS [x]) (wks_r (N := n) E.rng (es_draw E hr (mk_draw E) (fun H1 d => ev_v (i := 0) rfl fun _ => rfl) (fun H1 d => ev_add (ev_v (i := 2) (ρ := rI (n : Int)) rfl fun _ => .int _) ev_int) (by omega) (by omega))
      (fun S v H1 ⟨k, e, k0, k1⟩ => ⟨k.toNat, by rw [e]; congr 1; omega, by omega⟩) (by omega)) rfl sc__law_text.nd (fun ds ⟨k, hk, e⟩ => by rw [e, rng, List.length_map, List.length_range]; omega) (by decide) (fun ds d hP hd x H2 d2 hx => ?_)) fun ds ⟨ds0, ⟨k, hk, e⟩, pr⟩ => ?_) (by omega)) st q)
    · exact ⟨_, fun s H0 C cl fp => tg_n sc__law_text.nd (i := 3), by rw [wipe_set (by decide), wipe_wipe], fun s H0 C cl fp => es_pickS (lim := (sg.length : Int)) (fun H2 d2 => ev_v (i := 1) rfl fun _ => .str _) (es_draw E hr (mk_draw E) (fun H2 d2 => ev_v (i := 0) rfl fun _ => rfl) (fun H2 d2 => ev_lens E.len (ev_v (i := 1) rfl fun _ => .str _) (by omega)) (by omega) (by omega)) (by omega) (by omega)⟩
    · obtain ⟨t, t1, t2, t3⟩ := pair_sg pr
      have tl : t.length ≤ n := by rw [t2, e, rng, List.length_map, List.length_range]; exact hk
      refine ⟨t.map fun x => [x], t3, ?_, ?_⟩
      · rw [flat_one]
        omega
      · rw [flat_one]
        exact ⟨t, t1, tl, rfl⟩) (fun _ _ _ _ _ _ us hl => match us, hl with | [_, _, _], _ => rfl)
end
end Lk

set_option maxHeartbeats 1000000
/-! Loops whose bodies draw; _law_known; _law_near. -/
namespace Lk
open PySem PySem.Spec PyProof.Rows L2
open Evl (Ex)
section
variable {X : Cx} {σ : L2.St} {m c g : Addr} {H : Hp} {e a b o : Expr} {es : List Expr} {pos p p2 apos : Pos} {ρ ρ1 ρ2 ρ3 : Rp} {k k1 k2 k3 k' : Nat} {x : Str} {D : Ends} {rest body : List Stmt}
/-- for tg in a text -/
theorem w_forT {tg : Expr} {l : List Nat} (hc : X.calm = true) (ha : Ev X a σ H (rS l)) (Pv : Nat → L2.St → Hp → Prop) (h0 : ∀ H1, Ex H H1 → Pv 0 σ H1)
    (hs : ∀ i n σ' H', l[i]? = some n → Pv i σ' H' → Wg X tg (.str (T [n])) σ' H' fun σ2 H2 => Wm X body { D with nx := Pv (i + 1), ct := Pv (i + 1), bk := Wm X rest D } σ2 H2) (hd : ∀ σ' H', Pv l.length σ' H' → Wm X rest D σ' H')
    (hp : PassesOwn (model X.prog X.w) X.A X.env X.xe := by exact PassesOwn.never) (hf : ∀ x, foldedSetIterable a X.env x = pure x := by intro _; rfl) : Wm X (.For tg a body [] pos :: rest) D σ H :=
  w_cons ⟨_, ps_for hp hc wi_ok wg_ok wm_ok hf, _, pi_str we_ok, ha H (Ex.refl H) _ fun v H1 e1 hv => ⟨T l, Im.estr hv, by
    have wk := walk_str (z := T l)
    have el : (T l).cps.size = l.length := by simp [T]
    rw [el] at wk
    refine for_it wk (D := { D with nx := Wm X rest D }) Pv (h0 H1 e1) (fun _ _ _ _ _ => trivial) (fun i x σ' H' H2 hi pv y => ?_) hd
    obtain ⟨y1, n, y2, y3⟩ := y
    subst y1
    subst y3
    exact hs i n σ' _ (by simpa [T] using y2) pv⟩⟩
theorem we_mono {Q Q' : VK} (h : We X e σ H Q) (i : ∀ v H1, Q v H1 → Q' v H1) : We X e σ H Q' := by
  obtain ⟨t, ht, hq⟩ := h
  refine ⟨fun σ H Q' => ∃ Q : VK, t σ H Q ∧ ∀ v H1, Q v H1 → Q' v H1, ⟨fun pins s σ H Q' I ⟨Q, z1, z2⟩ => ?_⟩, Q, hq, i⟩
  refine wpAny_mono (ht.run pins s σ H Q I z1) (fun v s' hv => ?_) fun _ _ z => z
  obtain ⟨x, H1, a1, a2, a3⟩ := hv
  exact ⟨x, H1, a1, a2, z2 _ _ a3⟩
/-- the same as wks_r, more told of the number -/
theorem wks_rq {tg : Expr} {ρ : Rp} (Qn : Nat → Prop) (hm : X.mg "range" = none) (ha : Es X a σ m c g H k ρ) (hb : ∀ S v H1, ρ.r S v H1 → ∃ n : Nat, v = .int (n : Int) ∧ Qn n ∧ n ≤ 1000) (hg : Gl X "range" := by rfl) (hs : starEach [a] X.env = [(false, eval a X.env)] := by rfl) (hs' : starEach [a] X.env = (false, eval a X.env) :: starEach [] X.env := by rfl) :
    Wks X tg (.Call (.Name "range" p) [a] [] pos) σ m c g H k (fun ds => ∃ n : Nat, Qn n ∧ ds = rng 0 n) := fun H1 r d s R q =>
  ⟨_, pi_range1 hg hm wa_ok hs, _, pa_cons we_ok pa_nil hs', ha H1 r d s _ fun v H2 d2 s2 hv => by
    obtain ⟨n, rfl, hQ, hn⟩ := hb _ _ _ hv
    refine ⟨(n : Int), rfl, by omega, by omega, ?_⟩
    have wk := walk_range (lo := 0) (n := n)
    have el : n = (rng 0 n).length := by simp [rng]
    rw [el] at wk
    have z := q (Itr 0 (rng 0 n).length) H2 (fun _ => True) (rng 0 n) d2 s2 ⟨n, hQ, rfl⟩ trivial (fun _ _ => trivial) (wk.mono (fun _ _ => trivial) fun i H x H' hi _ y => by
      obtain ⟨y1, y2⟩ := y
      subst y1
      subst y2
      refine ⟨Ex.refl _, .int (0 + (i : Int)), ?_, .int _⟩
      rw [rng, List.getElem?_map, List.getElem?_range (by rw [← el] at hi; exact hi)] <;> rfl)
    rw [← el] at z
    exact z⟩
/-- for tg in range(..) -/
theorem w_forR {tg : Expr} (hc : X.calm = true) (hm : X.mg "range" = none) (h : We X a σ H fun v H1 => ∃ n : Nat, v = .int (n : Int) ∧ n ≤ 1000 ∧ ∃ Pv : Nat → L2.St → Hp → Prop, Pv 0 σ H1 ∧
      (∀ i σ' H', i < n → Pv i σ' H' → Wg X tg (.int (i : Int)) σ' H' fun σ2 H2 => Wm X body { D with nx := Pv (i + 1), ct := Pv (i + 1), bk := Wm X rest D } σ2 H2) ∧ ∀ σ' H', Pv n σ' H' → Wm X rest D σ' H') (hg : Gl X "range" := by rfl) (hs : starEach [a] X.env = [(false, eval a X.env)] := by rfl) (hs' : starEach [a] X.env = (false, eval a X.env) :: starEach [] X.env := by rfl)
    (hp : PassesOwn (model X.prog X.w) X.A X.env X.xe := by exact PassesOwn.never) (hf : ∀ x, foldedSetIterable (.Call (.Name "range" p) [a] [] p2) X.env x = pure x := by intro _; rfl) : Wm X (.For tg (.Call (.Name "range" p) [a] [] p2) body [] pos :: rest) D σ H := by
  refine w_cons ⟨_, ps_for hp hc (pi_range1 hg hm (pa_cons we_ok pa_nil hs') hs) wg_ok wm_ok hf, we_mono h fun v H1 z => ?_⟩
  obtain ⟨n, rfl, n1, Pv, p0, ps, pd⟩ := z
  refine ⟨(n : Int), rfl, by omega, by omega, ?_⟩
  have wk := walk_range (lo := 0) (n := n)
  refine for_it wk (D := { D with nx := Wm X rest D }) Pv p0 (fun _ _ _ _ _ => trivial) (fun i x σ' H' H2 hi pv y => ?_) pd
  obtain ⟨y1, y2⟩ := y
  subst y1
  subst y2
  have z := ps i σ' _ hi pv
  rw [show (i : Int) = 0 + (i : Int) by omega] at z
  exact z
end

/-! ### what is known: entries, put in one by one -/
def setE (es : List En1) (k : List Nat) (us : List U) : List En1 := if (es.any fun e => decide (e.1 = k)) = true then es.map (fun e => if e.1 = k then (e.1, us) else e) else es ++ [(k, us)]
theorem ksE_set (es : List En1) (k : List Nat) (us : List U) : pK (ksE es) (kS k) (eUs us) = ksE (setE es k us) := by
  have an : ((ksE es).any fun p => decide (p.1 = kS k)) = es.any fun e => decide (e.1 = k) := by
    unfold ksE
    rw [List.any_map]
    congr 1
    funext e
    show decide (kS e.1 = kS k) = _
    rw [Bool.eq_iff_iff, decide_eq_true_eq, decide_eq_true_eq, kS_inj]
  unfold pK setE
  rw [an]
  split
  · unfold ksE
    rw [List.map_map, List.map_map]
    refine List.map_congr_left fun e _ => ?_
    show (if kS e.1 = kS k then (kS e.1, eUs us) else (kS e.1, eUs e.2)) = (kS (if e.1 = k then (e.1, us) else e).1, eUs (if e.1 = k then (e.1, us) else e).2)
    by_cases h : e.1 = k
    · rw [if_pos h, if_pos (kS_inj.mpr h)]
    · rw [if_neg h, if_neg (fun z => h (kS_inj.mp z))]
  · unfold ksE
    rw [List.map_append] <;> rfl
theorem setE_keys (es : List En1) (k : List Nat) (us : List U) : (setE es k us).map (·.1) = if (es.any fun e => decide (e.1 = k)) = true then es.map (·.1) else es.map (·.1) ++ [k] := by
  unfold setE
  split
  · rw [List.map_map]
    refine List.map_congr_left fun e _ => ?_
    show (if e.1 = k then (e.1, us) else e).1 = e.1
    split <;> rfl
  · rw [List.map_append] <;> rfl
theorem anyE {es : List En1} {k : List Nat} : (es.any fun e => decide (e.1 = k)) = true ↔ k ∈ es.map (·.1) := by
  rw [List.any_eq_true, List.mem_map]
  constructor
  · rintro ⟨p, hp, e⟩
    exact ⟨p, hp, of_decide_eq_true e⟩
  · rintro ⟨p, hp, e⟩
    exact ⟨p, hp, decide_eq_true e⟩
/-- entries that may stand -/
structure EsP (sg : List Nat) (es : List En1) : Prop where
  ok : ∀ e ∈ es, OkSq sg e.1 ∧ OkUs e.2
  nd : (es.map (·.1)).Nodup
theorem EsP.set {sg : List Nat} {es : List En1} {k : List Nat} {us : List U} (h : EsP sg es) (hk : OkSq sg k) (hu : OkUs us) : EsP sg (setE es k us) := by
  refine ⟨fun e he => ?_, ?_⟩
  · unfold setE at he
    split at he
    · obtain ⟨e', he', rfl⟩ := List.mem_map.mp he
      split
      · exact ⟨(h.ok e' he').1, hu⟩
      · exact h.ok e' he'
    · rcases List.mem_append.mp he with he | he
      · exact h.ok e he
      · rw [List.mem_singleton.mp he]
        exact ⟨hk, hu⟩
  · rw [setE_keys]
    split
    · exact h.nd
    · rename_i n
      have n := fun z => n (anyE.mpr z)
      rw [List.nodup_append]
      refine ⟨h.nd, by simp, fun a ha b hb e => ?_⟩
      rw [List.mem_singleton] at hb
      exact n (hb ▸ e ▸ ha)
theorem setE_len (es : List En1) (k : List Nat) (us : List U) : (setE es k us).length ≤ es.length + 1 := by
  unfold setE
  split <;> simp
theorem setE_mem {es : List En1} {k k' : List Nat} {us : List U} : k' ∈ (setE es k us).map (·.1) ↔ k' ∈ es.map (·.1) ∨ k' = k := by
  rw [setE_keys]
  split
  · rename_i h
    exact ⟨.inl, fun z => z.elim id fun e => by rw [e]; exact anyE.mp h⟩
  · rw [List.mem_append, List.mem_singleton]
/-- the dict at kn has just these -/
def KnD (H : Hp) (kn : Addr) (es : List En1) : Prop := ∃ kvs, H kn = some (.dK kvs) ∧ DkR H kvs (ksE es)
/-- a new dict of a table's entries, at most n -/
def rKn (sg : List Nat) (n : Nat) : Rp := ⟨fun S v H => ∃ kn es, v = .ref kn ∧ S kn = none ∧ KnD H kn es ∧ OkEs sg es ∧ es.length ≤ n, fun e ⟨kn, es, h1, h2, ⟨kvs, h3, h4⟩, h5, h6⟩ => ⟨kn, es, h1, h2, ⟨kvs, e _ _ h3, h4.ex (tu_ex e)⟩, h5, h6⟩, fun e ⟨kn, es, h1, h2, h3, h5, h6⟩ => ⟨kn, es, h1, Evl.fresh_back e h2, h3, h5, h6⟩⟩
theorem sv_kn (sg : List Nat) (n : Nat) : Sv (rKn sg n) := ⟨fun hm hg s e h => by
  obtain ⟨kn, es, h1, h2, ⟨kvs, h3, h4⟩, h5, h6⟩ := h
  exact ⟨kn, es, h1, h2, ⟨kvs, e.keep h3 (fun z => hm (z ▸ h2)) (.inl fun z => hg (z ▸ h2)), h4.ex (s.tu e)⟩, h5, h6⟩, fun hm hg d h => by
  obtain ⟨kn, es, h1, h2, h3⟩ := h
  exact ⟨kn, es, h1, d.fresh hm hg h2, h3⟩⟩
section
variable {X : Cx} {σ : L2.St} {m c g : Addr} {H : Hp} {e o i : Expr} {pos pos' : Pos} {k : Nat} {D : Ends} {rest : List Stmt}
/-- kn[k] = units, drawn -/
theorem w_setKn {kn : Addr} {es : List En1} {q : List Nat} {r : Nat} (hu : X.A.units + 1 < cLine) (he : Es X e σ m c g H k (rDp fun d => ∃ us : List U, OkUs us ∧ d = eUs us)) (st : Mst m c g H (r + k)) (hk : KnD H kn es) (n1 : kn ≠ m) (n2 : kn ≠ g) (n3 : kn ≠ c) (hz : es.length ≤ 1000)
    (ho : ∀ H1, Dr m g H H1 → Ev X o σ H1 (rV (.ref kn))) (hi : ∀ H1, Dr m g H H1 → Ev X i σ H1 (rS q)) (hq : ∀ us H1 u, OkUs us → Dr m g H H1 → Mst m c g (upd H1 kn u) r → KnD (upd H1 kn u) kn (setE es q us) → Wm X rest D σ (upd H1 kn u))
    (hs : swapsWith e (some (.Subscript o i pos')) pos.line X.env = pure false := by rfl) : Wm X (.Assign [.Subscript o i pos'] e pos :: rest) D σ H :=
  w_cons ⟨_, ps_dput hu we_ok we_ok we_ok hs, he.go st fun v H1 d1 s1 hv => ho H1 d1 H1 (Ex.refl _) _ fun x H2 e2 h2 => hi H2 (d1.trans (.of e2)) H2 (Ex.refl _) _ fun y H3 e3 h3 => by
    have h2 : x = .ref kn := h2
    have h3 := Im.estr h3
    subst h2 h3
    obtain ⟨d, ⟨us, hus, rfl⟩, im⟩ := hv
    obtain ⟨kvs, a1, a2⟩ := hk
    have e13 := e2.trans e3
    have d3 := d1.trans (.of e13)
    have b1 := d3.keep a1 n1 (.inl n2)
    have b2 := (a2.ex (st.tu d1)).ex (tu_ex e13)
    refine ⟨kn, _, rfl, DPut.k (k := kS q) b1 (Nat.lt_of_le_of_lt (show kvs.length ≤ 1000 by rw [a2.len, ksE, List.length_map]; exact hz) (by rw [sizeLine_eq]; decide)), hq us H3 _ hus d3 ((s1.ex e13).mut n1 n3 n2) ⟨_, upd_same, ?_⟩⟩
    rw [← ksE_set]
    exact (b2.put (im.ex e13)).ex (tu_upd b1 fun ys z => by cases z)⟩
end
section
variable {P : Program} {w : World} {K : Frag} {mg : Str → Option Value} {base : Heap}
structure Zk where
  sg : List Nat
  lo : Nat
  mo : Int
theorem take_memS {sg : List Nat} {i n : Nat} (h : sg[i]? = some n) {c : Nat} (hc : c ∈ sg.take (i + 1)) : c ∈ sg.take i ∨ c = n := by
  rw [take_snoc h, List.mem_append, List.mem_singleton] at hc
  exact hc
abbrev p_known : Sp := PrM (fun z : Zk => [rS z.sg, rI (z.lo : Int), rI z.mo]) (fun z => rKn z.sg (z.sg.length + z.lo)) (fun _ => 400) (fun z => OkSg z.sg ∧ z.lo ≤ 5 ∧ 1 ≤ z.mo ∧ z.mo ≤ 20)
theorem mk_known (E : En w K mg base) : Cal P w K mg base "_law_known" 5 [] p_known :=
  cal_pm E D__law_known 45 42 sc__law_known (fun _ => rfl) (fun m c g z cdv Ar outer s H ws Q EE S0 r hr ok st _ hv q => by
    obtain ⟨sg, lo, mo⟩ := z
    obtain ⟨ok, l5, m1, m2⟩ : OkSg sg ∧ lo ≤ 5 ∧ 1 ≤ mo ∧ mo ≤ 20 := ok
    obtain ⟨v1, v2, v3, rfl, h1, h2, h3⟩ := three_arg hv
    have h1 := Im.estr h1
    have h2 := Im.eint h2
    have h3 := Im.eint h3
    subst h1 h2 h3
    have q : ∀ v H', Dr m g H H' → Mst m c g H' r → (rKn sg (sg.length + lo)).r H v H' → Q v H' := q
    have st : Mst m c g H (r + 400) := st
    have zz := ok.most
    have zo := ok.one
    have hu := hu_of hr
    refine w_set (i := 4) sc__law_known.nd ev_d0 fun v4 H1 e1 ⟨kn, kvs0, ev, kn0, hkn, dk0⟩ => ?_
    subst ev
    have nm : kn ≠ m := fun z => st.some.1 (z ▸ kn0)
    have ng : kn ≠ g := fun z => st.some.2 (z ▸ kn0)
    have nc : kn ≠ c := fun z => st.cne (z ▸ kn0)
    have un : ∀ {pos p1 p2 p3 : Pos} {σ : L2.St} {H1 : Hp}, σ[0]? = some (some (.ref m)) → σ[3]? = some (some (.int mo)) → Es (Bx P w K mg base N__law_known D__law_known cdv Ar outer s H EE) (.Call (.Name "_law_units" p1) [.Name "_law_m" p2, .Name "_law_most" p3] [] pos) σ m c g H1 13 (rDp fun d => ∃ us : List U, OkUs us ∧ d = eUs us) := fun h0 h3 =>
      es_pm (mk_units E) hr mo ⟨m1, m2⟩ (sv_dp _) (fun H2 d2 => ev_v (i := 0) h0 fun _ => rfl) (fun H2 d2 => eac (ev_v (i := 3) h3 fun _ => .int _) ea0)
    refine w_forT rfl (ev_v (i := 1) (ρ := rS sg) rfl fun _ => .str _) (fun i σ' H' => ∃ x5 x6 x7 x8 es, σ' = [some (.ref m), some (.str (T sg)), some (.int (lo : Int)), some (.int mo), some (.ref kn), x5, x6, x7, x8] ∧ i ≤ sg.length ∧ Dr m g H H' ∧ Mst m c g H' (r + 200 + 13 * (12 - i)) ∧ KnD H' kn es ∧ EsP sg es ∧ es.length ≤ i ∧ ∀ x ∈ sg.take i, [x] ∈ es.map (·.1))
      (fun H2 e2 => ⟨_, _, _, _, [], rfl, Nat.zero_le _, .of (e1.trans e2), (st.ex (e1.trans e2)).mono (by omega), ⟨kvs0, e2 _ _ hkn, dk0.ex (tu_ex e2)⟩, ⟨fun _ z => (by cases z), List.nodup_nil⟩, Nat.le_refl _, fun x hx => by simp at hx⟩) (fun i n σ' H' hn pv => ?_) fun σ' H' pv => ?_
    · obtain ⟨x5, x6, x7, x8, es, rfl, i1, d, s1, kd, ep, el, ea⟩ := pv
      have il : i < sg.length := (List.getElem?_eq_some_iff.mp hn).1
      refine wg_n (i := 5) sc__law_known.nd ?_
      refine w_setKn (r := r + 200 + 13 * (12 - (i + 1))) (q := [n]) hu (un rfl rfl) (s1.mono (by omega)) kd nm ng nc (by omega) (fun H2 d2 => ev_v (i := 4) rfl fun _ => rfl) (fun H2 d2 => ev_v (i := 5) rfl fun _ => .str _) fun us H2 u hus d2 s2 kd2 => w_end ?_
      refine ⟨_, _, _, _, _, rfl, il, (d.trans d2).mut kn0 st.some.2, s2, kd2, ep.set ⟨by simp, by simp, fun x hx => ?_⟩ hus, Nat.le_trans (setE_len _ _ _) (by omega), fun x hx => ?_⟩
      · rw [List.mem_singleton.mp hx]
        exact List.mem_of_getElem? hn
      · rw [setE_mem]
        rcases take_memS hn hx with z | z
        · exact .inl (ea x z)
        · exact .inr (by rw [z])
    · obtain ⟨x5, x6, x7, x8, es0, rfl, i1, d, s1, kd, ep, el, ea⟩ := pv
      rw [List.take_length] at ea
      refine w_forR rfl E.rng (Es.go (r := r + 100) (es_draw E hr (mk_draw E) (fun H1 d => ev_v (i := 0) rfl fun _ => rfl) (fun H1 d => ev_add (ev_v (i := 2) (ρ := rI (lo : Int)) rfl fun _ => .int _) ev_int) (by omega) (by omega)) (s1.mono (by omega)) fun v H2 d2 s2 ⟨k, ev, k0, k1⟩ => ?_)
      subst ev
      obtain ⟨n, rfl⟩ := Int.eq_ofNat_of_zero_le k0
      have kd2 : KnD H2 kn es0 := by
        obtain ⟨kvs, a1, a2⟩ := kd
        exact ⟨kvs, d2.keep a1 nm (.inl ng), a2.ex (s1.tu d2)⟩
      refine ⟨n, rfl, by omega, fun i σ' H' => ∃ x5 x6 x7 x8 es, σ' = [some (.ref m), some (.str (T sg)), some (.int (lo : Int)), some (.int mo), some (.ref kn), x5, x6, x7, x8] ∧ i ≤ n ∧ Dr m g H H' ∧ Mst m c g H' (r + 20 * (5 - i)) ∧ KnD H' kn es ∧ EsP sg es ∧ es.length ≤ sg.length + i ∧ ∀ x ∈ sg, [x] ∈ es.map (·.1),
        ⟨_, _, _, _, es0, rfl, Nat.zero_le _, d.trans d2, s2.mono (by omega), kd2, ep, el, ea⟩, fun i σ' H' hi pv => ?_, fun σ' H' pv => ?_⟩
      · obtain ⟨x5, x6, x7, x8, es, rfl, i1, d, s1, kd, ep, el, ea⟩ := pv
        refine wg_n (i := 6) sc__law_known.nd ?_
        refine w_setW (i := 7) sc__law_known.nd (Es.go (r := r + 20 * (5 - (i + 1)) + 13) (Es.le (k := 7) (es_join (R := fun d => ∃ t : List Nat, OkSq sg t ∧ d = eS t) (fun H2 d2 => ev_d ev_str (by rfl)) (es_lc (own := [("_law_place", 8)]) (ke := 1) 3 (fun d o => ∃ x ∈ sg, o = eS [x]) (wks_rq (fun k => 2 ≤ k ∧ k ≤ 3) E.rng (es_op (ρ := rDp fun d => ∃ k : Nat, (2 ≤ k ∧ k ≤ 3) ∧ d = .int (k : Int)) (ρ1 := rDp fun d => d = .int 2) (ρ2 := rBe 2) op_add (es_d fun H3 d3 => ev_int) (es_draw E hr (mk_draw E) (fun H1 d => ev_v (i := 0) rfl fun _ => rfl) (fun H1 d => ev_int) (by decide) (by decide)) (sv_dp _) (sv_dp _) fun S S' x y H2 Q2 _ _ hx hy gg => ?_) (fun S v H1 ⟨d, ⟨k, hk, e⟩, im⟩ => ⟨k, by rw [e] at im; exact Im.eint im, hk, by omega⟩)) rfl sc__law_known.nd (fun ds ⟨k, hk, e⟩ => by rw [e, rng, List.length_map, List.length_range]; omega) (by decide) (fun ds d hP hd x H2 d2 hx => ?_)) fun ds ⟨ds0, ⟨k, hk, e⟩, pr⟩ => ?_) (k1 := 1 + 3 * 1) (by omega)) (s1.mono (by omega)) fun v H2 d2 s2 hv => ?_)
        · obtain ⟨d1, rfl, i1⟩ := hx
          obtain ⟨z, rfl, z0, z1⟩ := hy
          have i1 := Im.eint i1
          subst i1
          exact ⟨2, z, rfl, rfl, gg.at ⟨_, ⟨(2 + z).toNat, ⟨by omega, by omega⟩, rfl⟩, by rw [show (((2 + z).toNat : Nat) : Int) = 2 + z by omega]; exact .int _⟩⟩
        · exact ⟨_, fun s H0 C cl fp => tg_n sc__law_known.nd (i := 8), by rw [wipe_set (by decide), wipe_wipe], fun s H0 C cl fp => es_pickS (lim := (sg.length : Int)) (fun H2 d2 => ev_v (i := 1) rfl fun _ => .str _) (es_draw E hr (mk_draw E) (fun H2 d2 => ev_v (i := 0) rfl fun _ => rfl) (fun H2 d2 => ev_lens E.len (ev_v (i := 1) rfl fun _ => .str _) (by omega)) (by omega) (by omega)) (by omega) (by omega)⟩
        · obtain ⟨t, t1, t2, t3⟩ := pair_sg pr
          have tl : t.length = k := by rw [t2, e, rng, List.length_map, List.length_range]
          refine ⟨t.map fun x => [x], t3, ?_, ?_⟩
          · rw [flat_one]
            omega
          · rw [flat_one]
            exact ⟨t, ⟨by omega, by omega, t1⟩, rfl⟩
        · obtain ⟨dd, ⟨t, ht, rfl⟩, im⟩ := hv
          have im := Im.estr im
          subst im
          have kd2 : KnD H2 kn es := by
            obtain ⟨kvs, a1, a2⟩ := kd
            exact ⟨kvs, d2.keep a1 nm (.inl ng), a2.ex (s1.tu d2)⟩
          refine w_setKn (r := r + 20 * (5 - (i + 1))) (q := t) hu (un rfl rfl) s2 kd2 nm ng nc (by omega) (fun H2 d2 => ev_v (i := 4) rfl fun _ => rfl) (fun H2 d2 => ev_v (i := 7) rfl fun _ => .str _) fun us H3 u hus d3 s3 kd3 => w_end ?_
          exact ⟨_, _, _, _, _, rfl, hi, ((d.trans d2).trans d3).mut kn0 st.some.2, s3, kd3, ep.set ht hus, Nat.le_trans (setE_len _ _ _) (by omega), fun x hx => by rw [setE_mem]; exact .inl (ea x hx)⟩
      · obtain ⟨x5, x6, x7, x8, es, rfl, i1, d, s1, ⟨kvs, a1, a2⟩, ep, el, ea⟩ := pv
        refine w_ret (ev_v (i := 4) (ρ := rV (.ref kn)) rfl fun _ => rfl) fun v9 H9 e9 hv9 => ?_
        have hv9 : v9 = .ref kn := hv9
        subst hv9
        exact q _ H9 (d.trans (.of e9)) ((s1.ex e9).mono (by omega)) ⟨kn, es, rfl, kn0, ⟨kvs, e9 _ _ a1, a2.ex (tu_ex e9)⟩, ⟨by omega, ep.ok, ep.nd, ea⟩, by omega⟩) (fun _ _ _ _ _ _ us hl => match us, hl with | [_, _, _, _], _ => rfl)
end
end Lk

set_option maxHeartbeats 1000000
/-! _law_near; dicts walked; _law_table. -/
namespace Lk
open PySem PySem.Spec PyProof.Rows L2
open Evl (Ex)
theorem cutL_mem {α : Type} {l : List α} {i j : Option Int} {x : α} (h : x ∈ cutL l i j) : x ∈ l := List.mem_of_mem_drop (List.mem_of_mem_take h)
theorem cutL_len {α : Type} (l : List α) (i j : Option Int) : (cutL l i j).length ≤ l.length := by
  unfold cutL
  rw [List.length_take, List.length_drop]
  omega
section
variable {X : Cx} {σ : L2.St} {m c g : Addr} {H : Hp} {e a b o : Expr} {es : List Expr} {pos p p2 apos : Pos} {ρ ρ1 ρ2 ρ3 : Rp} {k k1 k2 k3 k' : Nat} {x : Str} {D : Ends} {rest body : List Stmt}
/-- i, j = a, b: both may draw -/
theorem w_parS {i j : Nat} {x y : Str} {px py pt pt2 : Pos} {kt k2 : Nat} (hc : X.calm = true) (hN : X.N.Nodup) (h : We X a σ H fun v H1 => We X b σ H1 fun w H2 => Wm X rest D ((σ.set i (some v)).set j (some w)) H2) (hij : i ≠ j)
    (hi : X.N[i]? = some x := by rfl) (hj : X.N[j]? = some y := by rfl) (hx : X.env.scope.names.lookup x = some .local := by rfl) (hy : X.env.scope.names.lookup y = some .local := by rfl)
    (h1 : starEach [a, b] X.env = (false, eval a X.env) :: starEach [b] X.env := by rfl) (h2 : starEach [b] X.env = (false, eval b X.env) :: starEach [] X.env := by rfl)
    (hw : swappedStores [.Tuple [.Name x px, .Name y py] kt pt] (.Tuple [a, b] k2 pt2) X.env = pure (some [x, y]) := by rfl)
    (hs : swapsWithSole [.Tuple [.Name x px, .Name y py] kt pt] (.Tuple [a, b] k2 pt2) pos.line X.env = pure false := by rfl) : Wm X (.Assign [.Tuple [.Name x px, .Name y py] kt pt] (.Tuple [a, b] k2 pt2) pos :: rest) D σ H :=
  w_cons ⟨_, ps_par hc hN hi hj hij hx hy (pa_cons we_ok (pa_cons we_ok pa_nil h2) h1) hw hs, we_mono h fun v H1 z => we_mono z fun w H2 z2 => ⟨v, w, rfl, z2⟩⟩
end
section
variable {P : Program} {w : World} {K : Frag} {mg : Str → Option Value} {base : Heap}
abbrev p_near : Sp := PrM (fun z : List Nat × List Nat => [rS z.1, rS z.2]) (fun z => rTx z.1 401) (fun _ => 3) (fun z => OkSg z.1 ∧ OkT z.1 z.2)
theorem mk_near (E : En w K mg base) : Cal P w K mg base "_law_near" 3 [] p_near :=
  cal_pm E D__law_near 51 48 sc__law_near (fun _ => rfl) (fun m c g z cdv Ar outer s H ws Q EE S0 r hr ok st _ hv q => by
    obtain ⟨sg, t⟩ := z
    obtain ⟨ok, okt⟩ : OkSg sg ∧ OkT sg t := ok
    obtain ⟨v1, v2, rfl, h1, h2⟩ := two_arg hv
    have h1 := Im.estr h1
    have h2 := Im.estr h2
    subst h1 h2
    have q : ∀ v H', Dr m g H H' → Mst m c g H' r → (rTx sg 401).r H v H' → Q v H' := q
    have zz := ok.most
    have zo := ok.one
    have zt := okt.most
    refine w_parS (i := 3) (j := 4) rfl sc__law_near.nd (Es.go (r := r + 2) (es_draw (lim := (t.length : Int) + 1) E hr (mk_draw E) (fun H1 d => ev_v (i := 0) rfl fun _ => rfl) (fun H1 d => ev_add (ev_lens E.len (ev_v (i := 2) rfl fun _ => .str _) (by omega)) ev_int) (by omega) (by omega)) st fun v H1 d1 s1 ⟨at_, ev, a0, a1⟩ => ?_) (by decide)
    subst ev
    refine Es.go (r := r + 1) (es_pickS (l := sg) (lim := (sg.length : Int)) (fun H2 d2 => ev_v (i := 1) (ρ := rS sg) rfl fun _ => .str _) (es_draw E hr (mk_draw E) (fun H2 d2 => ev_v (i := 0) rfl fun _ => rfl) (fun H2 d2 => ev_lens (l := sg) E.len (ev_v (i := 1) (ρ := rS sg) rfl fun _ => .str _) (by omega)) (by omega) (by omega)) (by omega) (by omega)) s1 fun v H2 d2 s2 hv => ?_
    obtain ⟨d, ⟨n, hn, rfl⟩, im⟩ := hv
    have im := Im.estr im
    subst im
    have vt : ∀ {Hx : Hp} S, (rS t).r S (.str (T t)) Hx := fun _ => .str _
    have va : ∀ {Hx : Hp} S, (rI at_).r S (.int at_) Hx := fun _ => .int _
    have vn : ∀ {Hx : Hp} S, (rS [n]).r S (.str (T [n])) Hx := fun _ => .str _
    have cl := fun (i j : Option Int) => cutL_len t i j
    refine w_set (i := 5) (ρ := rF ([cutL t none (some at_) ++ [n] ++ cutL t (some at_) none, cutL t none (some at_) ++ cutL t (some (at_ + 1)) none, cutL t none (some at_) ++ [n] ++ cutL t (some (at_ + 1)) none, cutL t none (some at_) ++ t].map eS)) sc__law_near.nd (ev_lst (eac (ev_adds (ev_adds (ev_sls (ev_v (i := 2) rfl vt) ep0 (ep1 (ev_v (i := 3) rfl va)) (by omega)) (ev_v (i := 4) rfl vn) ?_) (ev_sls (ev_v (i := 2) rfl vt) (ep1 (ev_v (i := 3) rfl va)) ep0 (by omega)) ?_)
      (eac (ev_adds (ev_sls (ev_v (i := 2) rfl vt) ep0 (ep1 (ev_v (i := 3) rfl va)) (by omega)) (ev_sls (ev_v (i := 2) rfl vt) (ep1 (ev_add (ev_v (i := 3) rfl va) ev_int)) ep0 (by omega)) ?_)
      (eac (ev_adds (ev_adds (ev_sls (ev_v (i := 2) rfl vt) ep0 (ep1 (ev_v (i := 3) rfl va)) (by omega)) (ev_v (i := 4) rfl vn) ?_) (ev_sls (ev_v (i := 2) rfl vt) (ep1 (ev_add (ev_v (i := 3) rfl va) ev_int)) ep0 (by omega)) ?_)
      (eac (ev_adds (ev_sls (ev_v (i := 2) rfl vt) ep0 (ep1 (ev_v (i := 3) rfl va)) (by omega)) (ev_v (i := 2) rfl vt) ?_) ea0)))) (.cons (.cons (.cons (.cons .nil)))) (by simp)) fun v H3 e3 hv => ?_
    · have := cl none (some at_); simp; omega
    · have := cl none (some at_); have := cl (some at_) none; simp; omega
    · have := cl none (some at_); have := cl (some (at_ + 1)) none; omega
    · have := cl none (some at_); simp; omega
    · have := cl none (some at_); have := cl (some (at_ + 1)) none; simp; omega
    · have := cl none (some at_); omega
    · obtain ⟨l, xs, rfl, l0, hl, im⟩ := hv
      have lm : l ≠ m := fun z => s2.some.1 (z ▸ l0)
      have lg : l ≠ g := fun z => s2.some.2 (z ▸ l0)
      refine w_retW ⟨_, pe_ix ix_list we_ok we_ok (fun _ _ => rfl), Ev.app (ev_v (i := 5) (ρ := rV (.ref l)) rfl fun _ => rfl) fun x H4 e4 hx => ?_⟩
      have hx : x = .ref l := hx
      subst hx
      refine Es.go (r := r) (es_draw (lim := 4) E hr (mk_draw E) (fun H2 d2 => ev_v (i := 0) rfl fun _ => rfl) (fun H2 d2 => ev_int) (by decide) (by decide)) ((s2.ex e3).ex e4) fun v H5 d5 s5 ⟨k, ev, k0, k1⟩ => ?_
      subst ev
      obtain ⟨k, rfl⟩ := Int.eq_ofNat_of_zero_le k0
      have hl5 := d5.keep (e4 _ _ hl) lm (.inl lg)
      have im5 := (im.ex e4).tu (((s2.ex e3).ex e4).tu d5)
      have kl : k < ([cutL t none (some at_) ++ [n] ++ cutL t (some at_) none, cutL t none (some at_) ++ cutL t (some (at_ + 1)) none, cutL t none (some at_) ++ [n] ++ cutL t (some (at_ + 1)) none, cutL t none (some at_) ++ t].map eS).length := by
        show k < 4
        omega
      obtain ⟨v, v1, v2⟩ := im5.get (List.getElem?_eq_getElem kl)
      refine ⟨l, xs, (k : Int), v, rfl, rfl, SqL.of hl5, ?_, q v H5 (((d1.trans d2).trans (.of (e3.trans e4))).trans d5) s5 ⟨_, ?_, v2⟩⟩
      · unfold atI
        rw [Evl.ixN_nat (by rw [im5.len]; exact kl)]
        exact v1
      · have mem := List.getElem_mem kl
        obtain ⟨u, hu, e⟩ := List.mem_map.mp mem
        refine ⟨u, ?_, ?_, e.symm⟩
        · intro y hy
          simp only [List.mem_cons, List.not_mem_nil, or_false] at hu
          rcases hu with rfl | rfl | rfl | rfl <;> simp only [List.mem_append, List.mem_singleton] at hy
          · rcases hy with (hy | hy) | hy
            · exact okt.ok y (cutL_mem hy)
            · rw [hy]; exact hn
            · exact okt.ok y (cutL_mem hy)
          · rcases hy with hy | hy
            · exact okt.ok y (cutL_mem hy)
            · exact okt.ok y (cutL_mem hy)
          · rcases hy with (hy | hy) | hy
            · exact okt.ok y (cutL_mem hy)
            · rw [hy]; exact hn
            · exact okt.ok y (cutL_mem hy)
          · rcases hy with hy | hy
            · exact okt.ok y (cutL_mem hy)
            · exact okt.ok y hy
        · simp only [List.mem_cons, List.not_mem_nil, or_false] at hu
          have c1 := cl none (some at_)
          have c2 := cl (some at_) none
          have c3 := cl (some (at_ + 1)) none
          rcases hu with rfl | rfl | rfl | rfl <;> simp only [List.length_append, List.length_singleton] <;> omega) (fun _ _ _ _ _ _ us hl => match us, hl with | [_, _, _], _ => rfl)
end
end Lk

set_option maxHeartbeats 1000000
/-! What stays, by its kind; the law's own shelf. -/
namespace Lk
open PySem PySem.Spec PyProof.Rows L2
open Evl (Ex)
/-- an object of a kind that nothing changes -/
def Cst : HO → Prop
  | .tup _ => True
  | .frz _ _ => True
  | .xd _ => True
  | .ext _ => True
  | .dK kvs => ∀ p ∈ kvs, ∃ q, p.2 = .ref q
  | .lst xs => ∀ x ∈ xs, (∃ s, x = .str s) ∨ ∃ q, x = .ref q
  | _ => False
/-- such ones stay -/
def Kp (H H' : Hp) : Prop := ∀ b u, H b = some u → Cst u → H' b = some u
theorem Kp.trans {H H1 H2 : Hp} (a : Kp H H1) (b : Kp H1 H2) : Kp H H2 := fun x u h c => b x u (a x u h c) c
theorem Kp.of {H H' : Hp} (e : Ex H H') : Kp H H' := fun b u h _ => e b u h
theorem Kp.tu {H H' : Hp} (k : Kp H H') : Tu H H' := fun a xs h => k a _ h trivial
/-- a draw, and changes at vs -/
structure Dd (m g : Addr) (vs : List Addr) (H H' : Hp) : Prop where
  ex : ∀ b u, H b = some u → b ≠ m → b ≠ g → b ∉ vs → H' b = some u
  em : H g = some (.lst []) → H' g = some (.lst [])
section
variable {m c g : Addr} {vs ws : List Addr} {H H1 H' : Hp} {r : Nat}
theorem Dd.of (e : Ex H H') : Dd m g vs H H' := ⟨fun b u h _ _ _ => e b u h, fun h => e _ _ h⟩
theorem Dd.dr (d : Dr m g H H') : Dd m g vs H H' := ⟨fun b u h h1 h2 _ => d.keep h h1 (.inl h2), d.em⟩
theorem Dd.trans (a : Dd m g vs H H1) (b : Dd m g vs H1 H') : Dd m g vs H H' := ⟨fun x u h h1 h2 h3 => b.ex x u (a.ex x u h h1 h2 h3) h1 h2 h3, fun h => b.em (a.em h)⟩
theorem Dd.mono (a : Dd m g vs H H') (h : ∀ x ∈ vs, x ∈ ws) : Dd m g ws H H' := ⟨fun x u z h1 h2 h3 => a.ex x u z h1 h2 fun q => h3 (h x q), a.em⟩
theorem dd_off {a : Addr} (e : Ex (off a H) H') (ha : a ∈ vs) (hg : a ≠ g) : Dd m g vs H H' := ⟨fun b u h _ _ h3 => e b u (by rw [off_ne fun z => h3 (by rw [z]; exact ha)]; exact h), fun h => e _ _ (by rw [off_ne hg.symm]; exact h)⟩
theorem dd_upd {a : Addr} {u : HO} (d : Dd m g vs H H') (ha : a ∈ vs) (hg : a ≠ g) : Dd m g vs H (upd H' a u) := ⟨fun b w h h1 h2 h3 => by rw [upd_ne fun z => h3 (by rw [z]; exact ha)]; exact d.ex b w h h1 h2 h3, fun h => by rw [upd_ne hg.symm]; exact d.em h⟩
/-- objects that are new may change -/
theorem dd_fresh (d : Dd m g (vs ++ ws) H H') (h : ∀ x ∈ ws, H x = none) : Dd m g vs H H' := ⟨fun b u z h1 h2 h3 => d.ex b u z h1 h2 fun q => (List.mem_append.mp q).elim h3 fun q => (by rw [h b q] at z; cases z), d.em⟩
theorem mst_notM (s : Mst m c g H r) {u : HO} (h : H m = some u) : ¬ Cst u := fun z => by
  obtain ⟨⟨n, hm, _⟩, _⟩ := s
  rw [hm] at h
  cases h
  obtain ⟨q, e⟩ := z (kyN, .int n) (by simp [mD])
  cases e
theorem mst_kp (s : Mst m c g H r) (hv : ∀ v ∈ vs, ∀ u, H v = some u → ¬ Cst u) (d : Dd m g vs H H') : Kp H H' := fun b u h cu => by
  by_cases e : b = g
  · subst e
    obtain ⟨_, _, ⟨gs, hg⟩, _⟩ := s
    rw [hg] at h
    cases h
    cases gs with
    | nil => exact d.em hg
    | cons x gs =>
      rcases cu (V.int x) (by simp) with ⟨s, z⟩ | ⟨q, z⟩ <;> cases z
  · exact d.ex b u h (fun z => mst_notM s (z ▸ h) cu) e fun z => hv b z u h cu
theorem mst_kpD (s : Mst m c g H r) (d : Dr m g H H') : Kp H H' := mst_kp s (vs := []) (fun _ z => (by cases z)) (.dr d)
end
section
variable {K : Frag} {sg : List Nat} {f : Fn} {S S' H H' : Hp} {v : V} {ds : List PyData}
theorem dk_cst {kvs : List (Key × V)} {ks : Kd} (h : DkR H kvs ks) (hu : ∀ p ∈ ks, ∃ us, p.2 = eUs us) : Cst (.dK kvs) := dk_refs h hu
theorem tb_kp (h : (rTb K sg f).r S v H) (k : Kp H H') : (rTb K sg f).r S' v H' := by
  obtain ⟨a, dx, vs, w, kvs, ks, h1, h2, h3, h4, h5, h6, h7, h8, h9⟩ := h
  exact ⟨a, dx, vs, w, kvs, ks, h1, k _ _ h2 trivial, k _ _ h3 trivial, h4, h5, k _ _ h6 (dk_cst h7 h9.2), h7.ex k.tu, h8, h9⟩
theorem tn_kp (h : (rTN ds).r S v H) (k : Kp H H') : (rTN ds).r S' v H' := by
  obtain ⟨q, xs, h1, h2, h3⟩ := h
  refine ⟨q, xs, h1, ?_, h3.tu k.tu⟩
  rcases h2 with ⟨h2, z⟩ | ⟨o, h2, z⟩
  · exact .inl ⟨k _ _ h2 trivial, z⟩
  · exact .inr ⟨o, k _ _ h2 trivial, z⟩
theorem PsR.kp (k : Kp H H') : ∀ {xs : List V} {ps : List Pe}, PsR K H sg xs ps → PsR K H' sg xs ps
  | _, _, .nil => .nil
  | _, _, .cons ⟨q, t, h1, h2, h3, h4⟩ r => .cons ⟨q, t, h1, k _ _ h2 trivial, tn_kp h3 k, tb_kp h4 k⟩ (PsR.kp k r)
theorem ShP.kp {cur : Pe} {past : List Pe} {x : V} {q : Addr} {xs : List V} (h : ShP K H sg cur past x q xs) (k : Kp H H') : ShP K H' sg cur past x q xs := ⟨tn_kp h.x k, k _ _ h.q trivial, h.ps.kp k, tb_kp h.tb k⟩
theorem ShD.kp {a : Addr} {cur : Pe} {past : List Pe} (h : ShD K H a sg cur past) (k : Kp H H') (e : ∀ u, H a = some u → H' a = some u) : ShD K H' a sg cur past := by
  obtain ⟨dx, x, q, xs, h1, h2⟩ := h
  exact ⟨dx, x, q, xs, e _ h1, h2.kp k⟩
theorem sv_tb (K : Frag) (sg : List Nat) (f : Fn) : Sv (rTb K sg f) := ⟨fun _ _ s d h => tb_kp h (mst_kpD s d), fun _ _ _ h => h⟩
/-! what is known, as a function -/
def fE (es : List En1) : Fn := fun k => (es.find? fun e => decide (e.1 = k)).map (·.2)
theorem fE_es {es : List En1} (nd : (es.map (·.1)).Nodup) : FnEs (fE es) es := fun k us => by
  unfold fE
  constructor
  · intro h
    obtain ⟨e, he, rfl⟩ := Option.map_eq_some_iff.mp h
    have z := List.find?_some he
    have z : e.1 = k := of_decide_eq_true z
    rw [← z]
    exact List.mem_of_find?_eq_some he
  · intro h
    induction es with
    | nil => cases h
    | cons e es ih =>
      rw [List.map_cons, List.nodup_cons] at nd
      rw [List.find?_cons]
      rcases List.mem_cons.mp h with rfl | h
      · rw [decide_eq_true rfl] <;> rfl
      · have n : ¬ e.1 = k := fun z => nd.1 (List.mem_map.mpr ⟨_, h, z.symm⟩)
        rw [decide_eq_false n]
        exact ih nd.2 h
theorem fE_ok {es : List En1} (os : OkSg sg) (oe : OkEs sg es) : OkF sg (fE es) := by
  have fe := fE_es oe.nd
  refine ⟨os, fun c hc => ?_, fun k us h => oe.ok _ ((fe k us).mp h)⟩
  obtain ⟨e, he, e1⟩ := List.mem_map.mp (oe.all c hc)
  have z := (fe e.1 e.2).mpr he
  rw [e1] at z
  rw [z] <;> rfl
theorem fE_has {es : List En1} (nd : (es.map (·.1)).Nodup) : HasF (ksE es) (fE es) := fun k => by
  have fe := fE_es nd
  cases h : fE es k with
  | some us =>
    have z := (fe k us).mp h
    exact lookK_some (List.mem_map.mpr ⟨_, z, rfl⟩) (ksE_nd nd)
  | none =>
    refine lookK_none fun p hp z => ?_
    obtain ⟨e, he, rfl⟩ := List.mem_map.mp hp
    have e1 : e.1 = k := kS_inj.mp z
    have z2 := (fe e.1 e.2).mpr he
    rw [e1, h] at z2
    cases z2
theorem KnD.kp {kn : Addr} {es : List En1} (h : KnD H kn es) (k : Kp H H') : KnD H' kn es := by
  obtain ⟨kvs, h1, h2⟩ := h
  refine ⟨kvs, k _ _ h1 (dk_cst h2 fun p hp => ?_), h2.ex k.tu⟩
  obtain ⟨e, _, rfl⟩ := List.mem_map.mp hp
  exact ⟨_, rfl⟩
theorem KnD.kf {kn : Addr} {es : List En1} (h : KnD H kn es) (nd : (es.map (·.1)).Nodup) (S : Hp) : (rKf (fE es)).r S (.ref kn) H := by
  obtain ⟨kvs, h1, h2⟩ := h
  exact ⟨kn, kvs, ksE es, rfl, .inl h1, h2, fE_has nd⟩
/-! ### the law's own shelf -/
def kySg : Key := .inr "signs"
def kyKn : Key := .inr "known"
def kySt : Key := .inr "strength"
def kyTx : Key := .inr "texts"
def kyPa : Key := .inr "past"
def kyTb : Key := .inr "table"
def oD (sg : List Nat) (kn : Addr) (s : Int) (tx pl tb : Addr) : List (Key × V) := [(kySg, .str (T sg)), (kyKn, .ref kn), (kySt, .int s), (kyTx, .ref tx), (kyPa, .ref pl), (kyTb, .ref tb)]
theorem oD_not {sg : List Nat} {kn : Addr} {s : Int} {tx pl tb : Addr} : ¬ Cst (.dK (oD sg kn s tx pl tb)) := fun z => by
  obtain ⟨q, e⟩ := z (kySt, .int s) (by simp [oD])
  cases e
structure LoR (K : Frag) (H : Hp) (sg : List Nat) (n1 : Nat) (p : Pe) (kn tx : Addr) : Prop where
  kn : ∃ es, KnD H kn es ∧ OkEs sg es ∧ es.length ≤ n1 ∧ p.f = fE es
  tx : ∃ xs, H tx = some (.lst xs) ∧ Ims H xs (p.ts.map eS)
  tb : (rTb K sg p.f).r H (.ref p.tv) H
theorem ims_cst {xs : List V} {ts : List (List Nat)} (h : Ims H xs (ts.map eS)) : Cst (.lst xs) := fun x hx => by
  have h' : Ims H xs ((ts.map T).map .str) := by rw [List.map_map]; exact h
  rw [h'.strs] at hx
  obtain ⟨s, _, e⟩ := List.mem_map.mp hx
  exact .inl ⟨s, e.symm⟩
theorem LoR.kp {n1 : Nat} {p : Pe} {kn tx : Addr} (h : LoR K H sg n1 p kn tx) (k : Kp H H') : LoR K H' sg n1 p kn tx := by
  obtain ⟨⟨es, h1, h2⟩, ⟨xs, h3, h4⟩, h5⟩ := h
  exact ⟨⟨es, h1.kp k, h2⟩, ⟨xs, k _ _ h3 (ims_cst h4), h4.tu k.tu⟩, tb_kp h5 k⟩
theorem LoR.mono {n1 n2 : Nat} {p : Pe} {kn tx : Addr} (h : LoR K H sg n1 p kn tx) (z : n1 ≤ n2) : LoR K H sg n2 p kn tx := by
  obtain ⟨⟨es, h1, h2, h3, h4⟩, h5, h6⟩ := h
  exact ⟨⟨es, h1, h2, Nat.le_trans h3 z, h4⟩, h5, h6⟩
def PoR (K : Frag) (H : Hp) (sg : List Nat) (n1 : Nat) : List V → List Pe → Prop := Paired fun v (p : Pe) => ∃ q kn tx, v = .ref q ∧ H q = some (.tup [.ref p.tv, .ref kn, .int p.s, .ref tx]) ∧ LoR K H sg n1 p kn tx
theorem PoR.kp {n1 : Nat} (k : Kp H H') : ∀ {xs : List V} {ps : List Pe}, PoR K H sg n1 xs ps → PoR K H' sg n1 xs ps
  | _, _, .nil => .nil
  | _, _, .cons ⟨q, kn, tx, h1, h2, h3⟩ r => .cons ⟨q, kn, tx, h1, k _ _ h2 trivial, h3.kp k⟩ (PoR.kp k r)
theorem PoR.mono {n1 n2 : Nat} (z : n1 ≤ n2) : ∀ {xs : List V} {ps : List Pe}, PoR K H sg n1 xs ps → PoR K H sg n2 xs ps
  | _, _, .nil => .nil
  | _, _, .cons ⟨q, kn, tx, h1, h2, h3⟩ r => .cons ⟨q, kn, tx, h1, h2, h3.mono z⟩ (PoR.mono z r)
theorem PoR.cst {n1 : Nat} : ∀ {xs : List V} {ps : List Pe}, PoR K H sg n1 xs ps → Cst (.lst xs)
  | _, _, .nil => fun x hx => by cases hx
  | _, _, .cons ⟨q, kn, tx, h1, h2, h3⟩ r => fun x hx => by
    rcases List.mem_cons.mp hx with rfl | hx
    · exact .inr ⟨q, h1⟩
    · exact PoR.cst r x hx
/-- the law's own shelf stands at o -/
def OwR (K : Frag) (H : Hp) (o : Addr) (sg : List Nat) (n1 : Nat) (cur : Pe) (past : List Pe) : Prop := ∃ kn tx pl vs, H o = some (.dK (oD sg kn cur.s tx pl cur.tv)) ∧ H pl = some (.lst vs) ∧ PoR K H sg n1 vs past ∧ LoR K H sg n1 cur kn tx
theorem OwR.kp {o : Addr} {n1 : Nat} {cur : Pe} {past : List Pe} (h : OwR K H o sg n1 cur past) (k : Kp H H') (e : ∀ u, H o = some u → H' o = some u) : OwR K H' o sg n1 cur past := by
  obtain ⟨kn, tx, pl, vs, h1, h2, h3, h4⟩ := h
  exact ⟨kn, tx, pl, vs, e _ h1, k _ _ h2 h3.cst, h3.kp k, h4.kp k⟩
theorem OwR.mono {o : Addr} {n1 n2 : Nat} {cur : Pe} {past : List Pe} (h : OwR K H o sg n1 cur past) (z : n1 ≤ n2) : OwR K H o sg n2 cur past := by
  obtain ⟨kn, tx, pl, vs, h1, h2, h3, h4⟩ := h
  exact ⟨kn, tx, pl, vs, h1, h2, h3.mono z, h4.mono z⟩
theorem OwR.not {o : Addr} {n1 : Nat} {cur : Pe} {past : List Pe} (h : OwR K H o sg n1 cur past) {u : HO} (z : H o = some u) : ¬ Cst u := by
  obtain ⟨kn, tx, pl, vs, h1, _⟩ := h
  rw [h1] at z
  cases z
  exact oD_not
theorem ShD.not {a : Addr} {cur : Pe} {past : List Pe} (h : ShD K H a sg cur past) {u : HO} (z : H a = some u) : ¬ Cst u := by
  obtain ⟨dx, x, q, xs, h1, _⟩ := h
  rw [h1] at z
  cases z
  exact id
/-- bounds of a state: N deeds -/
structure OkN (sg : List Nat) (N : Nat) (p : Pe) : Prop where
  f : OkF sg p.f
  s : OkS p.s
  t : ∀ t ∈ p.ts, OkT sg t
  most : p.ts.length ≤ 4 * N
theorem OkN.mono {N M : Nat} {p : Pe} (h : OkN sg N p) (z : N ≤ M) : OkN sg M p := ⟨h.f, h.s, h.t, by have := h.most; omega⟩
theorem OkN.ok {N : Nat} {p : Pe} (h : OkN sg N p) (z : N ≤ 50) : OkP sg p := ⟨h.f, h.s, h.t, by have := h.most; omega⟩
/-- both shelves stand alike -/
structure St (K : Frag) (H : Hp) (a o : Addr) (sg : List Nat) (n1 N : Nat) (cur : Pe) (past : List Pe) : Prop where
  sh : ShD K H a sg cur past
  ow : OwR K H o sg n1 cur past
  ok : ∀ p ∈ cur :: past, OkN sg N p
  len : past.length ≤ N
theorem St.kp {a o : Addr} {n1 N : Nat} {cur : Pe} {past : List Pe} (h : St K H a o sg n1 N cur past) (k : Kp H H') (e1 : ∀ u, H a = some u → H' a = some u) (e2 : ∀ u, H o = some u → H' o = some u) : St K H' a o sg n1 N cur past := ⟨h.sh.kp k e1, h.ow.kp k e2, h.ok, h.len⟩
theorem St.ex {a o : Addr} {n1 N : Nat} {cur : Pe} {past : List Pe} (h : St K H a o sg n1 N cur past) (e : Ex H H') : St K H' a o sg n1 N cur past := h.kp (.of e) (fun _ z => e _ _ z) fun _ z => e _ _ z
theorem St.dr {m c g a o : Addr} {r n1 N : Nat} {cur : Pe} {past : List Pe} (h : St K H a o sg n1 N cur past) (s : Mst m c g H r) (d : Dr m g H H') : St K H' a o sg n1 N cur past := by
  have kp := mst_kpD s d
  refine h.kp kp (fun u z => ?_) fun u z => ?_
  · obtain ⟨dx, x, q, xs, h1, _⟩ := h.sh
    refine d.keep z ?_ (.inl ?_)
    · rintro rfl
      obtain ⟨⟨n, hm, _⟩, _⟩ := s
      rw [hm] at h1
      cases h1
    · rintro rfl
      obtain ⟨_, _, ⟨gs, hg⟩, _⟩ := s
      rw [hg] at h1
      cases h1
  · obtain ⟨kn, tx, pl, vs, h1, _⟩ := h.ow
    refine d.keep z ?_ (.inl ?_)
    · rintro rfl
      obtain ⟨⟨n, hm, _⟩, _⟩ := s
      rw [hm] at h1
      have e := congrArg (fun u => match u with
        | some (HO.dK kvs) => kvs.length
        | _ => 0) h1
      simp [mD, oD] at e
    · rintro rfl
      obtain ⟨_, _, ⟨gs, hg⟩, _⟩ := s
      rw [hg] at h1
      cases h1
end
end Lk

set_option maxHeartbeats 1000000
/-! _law_table. -/
namespace Lk
open PySem PySem.Spec PyProof.Rows L2
open Evl (Ex)
section
variable {X : Cx} {σ : L2.St} {m c g : Addr} {H : Hp} {e a b o : Expr} {es : List Expr} {pos p p2 apos : Pos} {ρ ρ1 ρ2 ρ3 : Rp} {k k1 k2 k3 k' : Nat} {x : Str} {D : Ends} {rest body : List Stmt}
theorem wa_mono {Q Q' : List V → Hp → Prop} (h : Wa X es σ H Q) (i : ∀ v H1, Q v H1 → Q' v H1) : Wa X es σ H Q' := by
  obtain ⟨t, ht, hq⟩ := h
  refine ⟨fun σ H Q' => ∃ Q : List V → Hp → Prop, t σ H Q ∧ ∀ v H1, Q v H1 → Q' v H1, ⟨fun pp pins s σ H Q' I ⟨Q, z1, z2⟩ => ?_⟩, Q, hq, i⟩
  refine wpAny_mono (ht.run pp pins s σ H Q I z1) (fun v s' hv => ?_) fun _ _ z => z
  obtain ⟨x, H1, a1, a2, a3⟩ := hv
  exact ⟨x, H1, a1, a2, z2 _ _ a3⟩
/-- Table(signs, entries), whatever the arguments do -/
theorem we_mkT {w : World} {sg : List Nat} {en : List En1} {f : Fn} {Q : VK} (E : En w X.K X.mg X.base) (C : CalF X.prog X.w X.K X.mg X.base (He.fAd X.K ("Table", some "__init__")) 7 [] (p_Table_init X.K)) (hr : Room k X.A) (hk : 8 ≤ k) (os : OkSg sg) (oe : OkEs sg en) (fe : FnEs f en)
    (h : We X a σ H fun v1 H1 => We X b σ H1 fun v2 H2 => v1 = .str (T sg) ∧ (rQ (en.map eE)).r H2 v2 H2 ∧ ∀ v H3, Ex H2 H3 → (rTb X.K sg f).r H2 v H3 → Q v H3)
    (hg : Gl X "Table" := by rfl) (he : starEach [a, b] X.env = (false, eval a X.env) :: starEach [b] X.env := by rfl) (he2 : starEach [b] X.env = (false, eval b X.env) :: starEach [] X.env := by rfl) (hpl : (backTo pos (starEach [b] X.env)).any (·.1) = false := by rfl) :
    We X (.Call (.Name "Table" p) [a, b] [] pos) σ H Q := by
  obtain ⟨fd, ps, ds, F, hB, hV⟩ := C
  refine ⟨_, pe_make E.mkT F (hr.mono hk) hg (E.glo 22) hB hV pass0 (pa_cons we_ok (pa_cons we_ok pa_nil he2) he) (by decide) he hpl, we_mono h fun v1 H1 z => we_mono z fun v2 H2 z2 => ?_⟩
  obtain ⟨rfl, h2, q⟩ := z2
  intro x dx hx hdx hne
  have n1 : Ex H2 (upd (upd H2 dx (.own x)) x (.ins (He.ga X.K "Table") dx [])) := (Ex.new hdx).trans (Ex.new (by rw [upd_ne hne.symm]; exact hx))
  refine ⟨x, dx, _, v2, sg, en, f, rfl, hne, upd_same, by rw [upd_ne hne, upd_same], .str _, (rQ _).m n1 h2, os, oe, fe, fun H' eH hT => ⟨rfl, q _ H' (fun c u z => eH c u ?_) hT⟩⟩
  have c1 : c ≠ x := fun q => by rw [q, hx] at z; cases z
  have c2 : c ≠ dx := fun q => by rw [q, hdx] at z; cases z
  rw [off_ne c2, off_ne c1, upd_ne c1, upd_ne c2]
  exact z
end
def eAt (es : List En1) (n : Nat) : En1 := es.getD n ([], [])
theorem eAt_map {es : List En1} {ns : List Nat} (pm : ns.Perm (List.range es.length)) : (ns.map (eAt es)).Perm es := by
  have z := pm.map (eAt es)
  have e : (List.range es.length).map (eAt es) = es := by
    refine List.ext_getElem (by simp) fun i h1 h2 => ?_
    rw [List.getElem_map, List.getElem_range, eAt, List.getD_eq_getElem?_getD, List.getElem?_eq_getElem h2] <;> rfl
  rw [e] at z
  exact z
theorem OkEs.perm {sg : List Nat} {es es' : List En1} (h : OkEs sg es) (p : es'.Perm es) : OkEs sg es' := ⟨by rw [p.length_eq]; exact h.most, fun e he => h.ok e (p.mem_iff.mp he), (p.map (·.1)).nodup_iff.mpr h.nd, fun c hc => (p.map (·.1)).mem_iff.mpr (h.all c hc)⟩
theorem FnEs.perm {f : Fn} {es es' : List En1} (h : FnEs f es) (p : es'.Perm es) : FnEs f es' := fun k us => (h k us).trans p.mem_iff.symm
/-- a dict of such entries -/
def rKd (es : List En1) : Rp := ⟨fun _ v H => ∃ kn, v = .ref kn ∧ KnD H kn es, fun e ⟨kn, h1, h2⟩ => ⟨kn, h1, h2.kp (.of e)⟩, fun _ h => h⟩
section
variable {P : Program} {w : World} {K : Frag} {mg : Str → Option Value} {base : Heap}
abbrev p_table (K : Frag) : Sp := PrM (fun z : List En1 × List Nat => [rKd z.1, rS z.2]) (fun z => rTb K z.2 (fE z.1)) (fun _ => 40) (fun z => OkSg z.2 ∧ OkEs z.2 z.1)
theorem mk_table (E : En w K mg base) : Cal P w K mg base "_law_table" 9 [] (p_table K) :=
  cal_pm E D__law_table 46 43 sc__law_table (fun _ => rfl) (fun m c g z cdv Ar outer s H ws Q EE S0 r hr ok st _ hv q => by
    obtain ⟨es, sg⟩ := z
    obtain ⟨os, oe⟩ : OkSg sg ∧ OkEs sg es := ok
    obtain ⟨v1, v2, rfl, ⟨kn, rfl, kvs, hkn, dk⟩, h2⟩ := two_arg hv
    have h2 := Im.estr h2
    subst h2
    have q : ∀ v H', Dr m g H H' → Mst m c g H' r → (rTb K sg (fE es)).r H v H' → Q v H' := q
    have dk : DkR H kvs (ksE es) := dk
    have hu := hu_of hr
    have em := oe.most
    have nd := ksE_nd oe.nd
    have tuk : ∀ {od : Obj}, Tu H (upd H kn (.frz od (.dK kvs))) := fun {od} => tu_upd hkn fun _ z => by cases z
    refine w_set (i := 3) sc__law_table.nd (ev_lock (ds := es.map eE) hkn fun od => ev_lc (own := [("_law_own_here", 4)]) (lc_all es (fun e => .str (T e.1)) eE (wk_k (ev_v (i := 1) rfl fun _ => rfl) upd_same) ?_ (by omega) fun e he => tn_0 (j := 4) sc__law_table.nd fun x H2 e2 hx s H0 C cl fp => ?_) rfl sc__law_table.nd) fun v3 H1 e1 hv3 => ?_
    · have z := dk.keys
      have e : (kvs.map fun p => kD p.1) = (kvs.map (·.1)).map kD := by rw [List.map_map] <;> rfl
      rw [e, z, ksE, List.map_map, List.map_map] <;> rfl
    · exact ev_t2 (ev_v (i := 4) (ρ := rD (.str (T e.1))) rfl fun _ => hx) (ev_ixd (ks := ksE es) (k := kS e.1) hu (ev_v (i := 1) rfl fun _ => ⟨kn, kvs, rfl, .inr ⟨od, e2 _ _ upd_same⟩, (dk.ex tuk).ex (tu_ex e2)⟩) (ev_ks (ev_v (i := 4) (ρ := rS e.1) rfl fun _ => hx)) (lookK_some (List.mem_map.mpr ⟨e, he, rfl⟩) nd))
    · obtain ⟨l1, xs1, rfl, l1n, hl1, im1⟩ := hv3
      have s1 := st.ex e1
      have st : Mst m c g H (r + 40) := st
      have l1m : l1 ≠ m := fun z => st.some.1 (z ▸ l1n)
      have l1g : l1 ≠ g := fun z => st.some.2 (z ▸ l1n)
      have rl : ∀ {H2 : Hp}, Dr m g H1 H2 → ∀ S, (rL (es.map eE)).r S (.ref l1) H2 := fun d S => ⟨l1, xs1, rfl, d.keep hl1 l1m (.inl l1g), im1.tu (s1.tu d)⟩
      refine w_setW (i := 3) sc__law_table.nd (Es.go (r := r + 1) (Es.le (k := 30) (es_lc (own := [("_law_at", 5)]) (ke := 0) es.length (fun d o => ∃ x : Nat, x < es.length ∧ d = eN x ∧ o = eE (eAt es x)) (wks_l ((es_pm (mk_order E) hr es.length (by show es.length ≤ 64; omega) (sv_pm _) (fun H2 d2 => ev_v (i := 0) rfl fun _ => rfl) (fun H2 d2 => eac (ev_d (ev_len E.len (ev_ql (ev_v (i := 3) rfl (rl d2)))) (by rw [List.length_map])) ea0)).imp
        fun S v H2 ⟨ns, z1, z2⟩ => (⟨_, ⟨ns, z1, rfl⟩, z2⟩ : (rFp fun ds => ∃ ns : List Nat, ns.Perm (List.range es.length) ∧ ds = ns.map eN).r S v H2))) rfl sc__law_table.nd (fun ds ⟨ns, z1, z2⟩ => by rw [z2, List.length_map, z1.length_eq, List.length_range]; omega) (by omega) (fun ds d ⟨ns, z1, z2⟩ hd x H2 d2 hx => ?_)) (by omega)) (s1.mono (by omega)) fun v H2 d2 s2 hv => ?_)
      · rw [z2] at hd
        obtain ⟨x', hx', rfl⟩ := List.mem_map.mp hd
        have lt : x' < es.length := List.mem_range.mp (z1.mem_iff.mp hx')
        refine ⟨_, fun s H0 C cl fp => tg_n sc__law_table.nd (i := 5), by rw [wipe_set (by decide), wipe_wipe], fun s H0 C cl fp => (es_ev (ρ := rD (eE (eAt es x'))) fun H3 d3 => ev_ixl (ds := es.map eE) (i := (x' : Int)) (ev_v (i := 3) rfl (rl (d2.trans d3))) (ev_v (i := 5) rfl fun _ => by rw [Im.eint hx]; exact .int _) ?_).imp fun S v H4 hv4 => ⟨_, ⟨x', lt, rfl, rfl⟩, hv4⟩⟩
        unfold atI
        rw [Evl.ixN_nat (by rw [List.length_map]; exact lt)]
        show (es.map eE)[x']? = _
        rw [List.getElem?_map, eAt, List.getD_eq_getElem?_getD, List.getElem?_eq_getElem lt] <;> rfl
      · obtain ⟨out, ⟨ds0, ⟨ns, z1, z2⟩, pr⟩, l2, xs2, rfl, l2n, hl2, im2⟩ := hv
        subst z2
        have e := pair_map (R := fun _ _ => True) (g := fun x => eE (eAt es x)) _ (fun a o ⟨x, _, e1, e2⟩ => by
          have z : (a : Int) = (x : Int) := by cases e1; rfl
          have z : a = x := by omega
          subst z
          exact e2) pr
        subst e
        have pm := eAt_map z1
        have im2 : Ims H2 xs2 ((ns.map (eAt es)).map eE) := by rw [List.map_map]; exact im2
        have l2m : l2 ≠ m := fun z => s1.some.1 (z ▸ l2n)
        have l2g : l2 ≠ g := fun z => s1.some.2 (z ▸ l2n)
        have d12 : Dr m g H H2 := (Dr.of e1).trans d2
        refine w_retW (we_mkT (sg := sg) (en := ns.map (eAt es)) (f := fE es) E (mk_Table_init E) hr (by decide) os (oe.perm pm) ((fE_es oe.nd).perm pm) (Ev.app (ev_v (i := 2) (ρ := rS sg) rfl fun _ => .str _) fun v4 H3 e3 hv4 => ?_))
        have hv4 := Im.estr hv4
        subst hv4
        refine ⟨_, pe_ix ix_list (pe_lst (pa_cons we_ok (pa_cons we_ok pa_nil))) we_ok (fun _ _ => rfl), Ev.app (ev_v (i := 3) (ρ := rV (.ref l2)) rfl fun _ => rfl) fun v5 H4 e4 hv5 => Ev.app (ev_tuple E.tup (ev_ql (ev_v (i := 3) (ρ := rL ((ns.map (eAt es)).map eE)) rfl fun _ => ⟨l2, xs2, rfl, (e3.trans e4) _ _ hl2, im2.ex (e3.trans e4)⟩))) fun v6 H5 e5 hv6 => ⟨sz6 (by simp), fun l hl => ?_⟩⟩
        have hv5 : v5 = .ref l2 := hv5
        subst hv5
        have e25 := (e3.trans e4).trans e5
        have e26 : Ex H2 (upd H5 l (.lst [.ref l2, v6])) := e25.trans (Ex.new hl)
        have lm : l ≠ m := fun z => by have := (s2.ex e25).some.1; rw [← z] at this; exact this hl
        have lg : l ≠ g := fun z => by have := (s2.ex e25).some.2; rw [← z] at this; exact this hl
        refine Es.go (r := r) (es_draw (lim := 2) E hr (mk_draw E) (fun H2 d2 => ev_v (i := 0) rfl fun _ => rfl) (fun H2 d2 => ev_int) (by decide) (by decide)) (s2.ex e26) fun v7 H7 d7 s7 ⟨k, ev, k0, k1⟩ => ?_
        subst ev
        obtain ⟨k, rfl⟩ := Int.eq_ofNat_of_zero_le k0
        have hl7 := d7.keep (upd_same (H := H5) (a := l) (o := .lst [.ref l2, v6])) lm (.inl lg)
        have fin : ∀ v H8, Ex H7 H8 → (rTb K sg (fE es)).r H7 v H8 → Q v H8 := fun v H8 e8 hT => q v H8 ((d12.trans (.of e26)).trans (d7.trans (.of e8))) (s7.ex e8) hT
        have tu7 := (s2.ex e26).tu d7
        have kk : k = 0 ∨ k = 1 := by omega
        rcases kk with rfl | rfl
        · exact ⟨l, [.ref l2, v6], 0, .ref l2, rfl, rfl, SqL.of hl7, rfl, rfl, ⟨l2, xs2, rfl, .inl (d7.keep (e26 _ _ hl2) l2m (.inl l2g)), (im2.ex e26).tu tu7⟩, fin⟩
        · obtain ⟨q6, xs6, rfl, hq6, im6⟩ := Im.etup hv6
          exact ⟨l, [.ref l2, .ref q6], 1, .ref q6, rfl, rfl, SqL.of hl7, rfl, rfl, ⟨q6, xs6, rfl, .inr (tu7 _ _ (Ex.new hl _ _ hq6)), (im6.ex (Ex.new hl)).tu tu7⟩, fin⟩) (fun _ _ _ _ _ _ us hl => match us, hl with | [_, _, _], _ => rfl)
end
end Lk

set_option maxHeartbeats 1000000
/-! _law_own, _law_other. -/
namespace Lk
open PySem PySem.Spec PyProof.Rows L2
open Evl (Ex)
def oD5 (sg : List Nat) (kn : Addr) (s : Int) (tx pl : Addr) : List (Key × V) := [(kySg, .str (T sg)), (kyKn, .ref kn), (kySt, .int s), (kyTx, .ref tx), (kyPa, .ref pl)]
theorem merge5 (sg : List Nat) (kn : Addr) (s : Int) (tx pl : Addr) : mergeK [] [(kySg, V.str (T sg)), (kyKn, .ref kn), (kySt, .int s), (kyTx, .ref tx), (kyPa, .ref pl)] = oD5 sg kn s tx pl := by rfl
theorem oD5_put (sg : List Nat) (kn : Addr) (s : Int) (tx pl tb : Addr) : putK (oD5 sg kn s tx pl) kyTb (.ref tb) = oD sg kn s tx pl tb := by rfl
/-- a new law's own shelf, empty -/
def rOw (K : Frag) (sg : List Nat) (n1 : Nat) (f : Fn) (s : Int) : Rp := ⟨fun S v H => ∃ o tv, v = .ref o ∧ S o = none ∧ OwR K H o sg n1 ⟨tv, f, s, []⟩ [], fun e ⟨o, tv, h1, h2, h3⟩ => ⟨o, tv, h1, h2, h3.kp (.of e) fun _ z => e _ _ z⟩, fun e ⟨o, tv, h1, h2, h3⟩ => ⟨o, tv, h1, Evl.fresh_back e h2, h3⟩⟩
structure Zo where
  sg : List Nat
  es : List En1
  s : Int
section
variable {X : Cx} {σ : L2.St} {H : Hp} {e o i : Expr} {pos pos' : Pos} {D : Ends} {rest : List Stmt}
/-- a[k] = v at a dict of any values, whatever v does -/
theorem w_dputW (hu : X.A.units + 1 < cLine) (h : We X e σ H fun v H1 => ∃ (a : Addr) (kvs : List (Key × V)) (k : Key), H1 a = some (.dK kvs) ∧ kvs.length ≤ 100000 ∧ Ev X o σ H1 (rV (.ref a)) ∧ Ev X i σ H1 (rV (kV k)) ∧ ∀ H2, Ex H1 H2 → Wm X rest D σ (upd H2 a (.dK (putK kvs k v))))
    (hs : swapsWith e (some (.Subscript o i pos')) pos.line X.env = pure false := by rfl) : Wm X (.Assign [.Subscript o i pos'] e pos :: rest) D σ H :=
  w_cons ⟨_, ps_dput hu we_ok we_ok we_ok hs, we_mono h fun v H1 z => by
    obtain ⟨a, kvs, k, h1, h2, ho, hi, q⟩ := z
    refine Ev.app ho fun x H2 e2 hx => Ev.app (hi.mono e2) fun y H3 e3 hy => ?_
    have hx : x = .ref a := hx
    have hy : y = kV k := hy
    subst hx hy
    exact ⟨a, _, rfl, DPut.k ((e2.trans e3) _ _ h1) (Nat.lt_of_le_of_lt h2 (by rw [sizeLine_eq]; decide)), q H3 (e2.trans e3)⟩⟩
end
section
variable {P : Program} {w : World} {K : Frag} {mg : Str → Option Value} {base : Heap}
abbrev p_own (K : Frag) : Sp := PrM (fun z : Zo => [rS z.sg, rKd z.es, rI z.s]) (fun z => rOw K z.sg z.es.length (fE z.es) z.s) (fun _ => 40) (fun z => OkSg z.sg ∧ OkEs z.sg z.es)
theorem mk_own (E : En w K mg base) : Cal P w K mg base "_law_own" 10 [] (p_own K) :=
  cal_pm E D__law_own 56 53 sc__law_own (fun _ => rfl) (fun m c g z cdv Ar outer s H ws Q EE S0 r hr ok st _ hv q => by
    obtain ⟨sg, es, sn⟩ := z
    obtain ⟨os, oe⟩ : OkSg sg ∧ OkEs sg es := ok
    obtain ⟨v1, v2, v3, rfl, h1, ⟨kn, rfl, kd⟩, h3⟩ := three_arg hv
    have h1 := Im.estr h1
    have h3 := Im.eint h3
    subst h1 h3
    have kd : KnD H kn es := kd
    have st : Mst m c g H (r + 40) := st
    have q : ∀ v H', Dr m g H H' → Mst m c g H' r → (rOw K sg es.length (fE es) sn).r H v H' → Q v H' := q
    refine w_setW (i := 4) sc__law_own.nd ⟨_, pe_disp (pps_cons we_ok we_ok (pps_cons we_ok we_ok (pps_cons we_ok we_ok (pps_cons we_ok we_ok (pps_cons we_ok we_ok pps_nil))))) rfl rfl (by simp) (by simp), fun o ho => ?_⟩
    refine Ev.app (ρ := rV (kV kySg)) (ev_ks ev_str) fun x1 H1 e1 h1 => ?_
    refine Ev.app (ev_v (i := 1) (ρ := rV (.str (T sg))) rfl fun _ => rfl) fun x2 H2 e2 h2 => ?_
    refine Ev.app (ρ := rV (kV kyKn)) (ev_ks ev_str) fun x3 H3 e3 h3 => ?_
    refine Ev.app (ev_v (i := 2) (ρ := rV (.ref kn)) rfl fun _ => rfl) fun x4 H4 e4 h4 => ?_
    refine Ev.app (ρ := rV (kV kySt)) (ev_ks ev_str) fun x5 H5 e5 h5 => ?_
    refine Ev.app (ev_v (i := 3) (ρ := rV (.int sn)) rfl fun _ => rfl) fun x6 H6 e6 h6 => ?_
    refine Ev.app (ρ := rV (kV kyTx)) (ev_ks ev_str) fun x7 H7 e7 h7 => ?_
    refine Ev.app ev_nil fun x8 H8 e8 h8 => ?_
    refine Ev.app (ρ := rV (kV kyPa)) (ev_ks ev_str) fun x9 H9 e9 h9 => ?_
    refine Ev.app ev_nil fun xa Ha ea ha => ?_
    have h1 : x1 = kV kySg := h1
    have h2 : x2 = .str (T sg) := h2
    have h3 : x3 = kV kyKn := h3
    have h4 : x4 = .ref kn := h4
    have h5 : x5 = kV kySt := h5
    have h6 : x6 = .int sn := h6
    have h7 : x7 = kV kyTx := h7
    have h9 : x9 = kV kyPa := h9
    subst h1 h2 h3 h4 h5 h6 h7 h9
    obtain ⟨tx, xs, rfl, tx0, htx, im⟩ := h8
    cases im
    obtain ⟨pl, ys, rfl, pl0, hpl, im⟩ := ha
    cases im
    have e07 := (((((e1.trans e2).trans e3).trans e4).trans e5).trans e6).trans e7
    have e0a := ((e07.trans e8).trans e9).trans ea
    have oa := e0a _ _ (upd_same (H := H) (a := o) (o := .dK []))
    refine ⟨oa, [(kySg, .str (T sg)), (kyKn, .ref kn), (kySt, .int sn), (kyTx, .ref tx), (kyPa, .ref pl)], rfl, by simp, ?_⟩
    rw [merge5]
    have eH : Ex H (upd Ha o (.dK (oD5 sg kn sn tx pl))) := Ex.mut ((Ex.new ho).trans e0a) ho
    have txa := (e9.trans ea) _ _ htx
    have ntx : tx ≠ o := fun z => by rw [z, oa] at txa; cases txa
    have npl : pl ≠ o := fun z => by rw [z, oa] at hpl; cases hpl
    have tG : upd Ha o (.dK (oD5 sg kn sn tx pl)) tx = some (.lst []) := by rw [upd_ne ntx]; exact txa
    have pG : upd Ha o (.dK (oD5 sg kn sn tx pl)) pl = some (.lst []) := by rw [upd_ne npl]; exact hpl
    have oG : upd Ha o (.dK (oD5 sg kn sn tx pl)) o = some (.dK (oD5 sg kn sn tx pl)) := upd_same
    generalize upd Ha o (.dK (oD5 sg kn sn tx pl)) = G at eH tG pG oG ⊢
    have sG := st.ex eH
    have om : o ≠ m := fun z => st.some.1 (z ▸ ho)
    have og : o ≠ g := fun z => st.some.2 (z ▸ ho)
    have oc : o ≠ c := fun z => st.cne (z ▸ ho)
    refine w_dputW (hu_of hr) (Es.go (r := r) (es_pm (mk_table E) hr (es, sg) ⟨os, oe⟩ (sv_tb _ _ _) (fun H2 d2 => ev_v (i := 0) rfl fun _ => rfl) (fun H2 d2 => eac (ev_v (i := 2) rfl fun _ => ⟨kn, rfl, (kd.kp (.of eH)).kp (mst_kpD sG d2)⟩) (eac (ev_v (i := 1) rfl fun _ => .str _) ea0))) sG fun v Hb db sb hT => ?_)
    have kb := mst_kpD sG db
    obtain ⟨tv, rfl⟩ : ∃ tv, v = .ref tv := by
      obtain ⟨a, _, _, _, _, _, h, _⟩ := hT
      exact ⟨a, h⟩
    refine ⟨o, oD5 sg kn sn tx pl, kyTb, db.keep oG om (.inl og), by simp [oD5], ev_v (i := 4) rfl fun _ => rfl, ev_ks ev_str, fun Hc ec => ?_⟩
    rw [oD5_put]
    have kc : Kp G Hc := kb.trans (.of ec)
    have dc : Dr m g H (upd Hc o (.dK (oD sg kn sn tx pl tv))) := ((Dr.of eH).trans (db.trans (.of ec))).mut ho st.some.2
    have kO : ∀ {b : Addr} {u : HO}, Hc b = some u → Cst u → upd Hc o (.dK (oD sg kn sn tx pl tv)) b = some u := fun {b u} h cu => by
      by_cases e : b = o
      · rw [e, ec _ _ (db.keep oG om (.inl og))] at h
        cases h
        obtain ⟨q, e⟩ := cu (kySt, .int sn) (by simp [oD5])
        cases e
      · rw [upd_ne e]
        exact h
    have kE : Kp G (upd Hc o (.dK (oD sg kn sn tx pl tv))) := kc.trans fun b u h cu => kO h cu
    refine w_ret (ev_v (i := 4) (ρ := rV (.ref o)) rfl fun _ => rfl) fun v9 H9 e9 hv9 => ?_
    have hv9 : v9 = .ref o := hv9
    subst hv9
    have k9 : Kp G H9 := kE.trans (.of e9)
    refine q _ H9 (dc.trans (.of e9)) (((sb.ex ec).mut om oc og).ex e9) ⟨o, tv, rfl, ho, kn, tx, pl, [], e9 _ _ upd_same, k9 _ _ pG (fun x hx => by cases hx), .nil, ⟨es, (kd.kp (.of eH)).kp k9, oe, Nat.le_refl _, rfl⟩, ⟨[], k9 _ _ tG (fun x hx => by cases hx), .nil⟩, ?_⟩
    exact tb_kp hT (((Kp.of ec).trans fun b u h cu => kO h cu).trans (.of e9))) (fun _ _ _ _ _ _ us hl => match us, hl with | [_, _, _, _], _ => rfl)
end
end Lk

set_option maxHeartbeats 1000000
/-! Tests that draw; _law_other. -/
namespace Lk
open PySem PySem.Spec PyProof.Rows L2
open Evl (Ex)
section
variable {X : Cx} {σ : L2.St} {m c g : Addr} {H : Hp} {e a b o : Expr} {pos p p2 apos : Pos} {ρ1 ρ2 : Rp} {k : Nat} {D : Ends} {rest q1 q2 : List Stmt}
/-- if a op b, a draws -/
theorem w_ifS {op : CmpOp} {r2 : R2} {r : Nat} (ho : OpR X (compareOp op) r2) (ha : Es X a σ m c g H k ρ1) (hb : ∀ H1, Dr m g H H1 → Ev X b σ H1 ρ2) (st : Mst m c g H (r + k)) (h : ∀ x y H2 Q, ρ1.r H x H2 → (∃ S, ρ2.r S y H2) → (∀ t, Q (.bl t) H2) → r2 x y H2 Q) (hm : behindInMarks op b = false)
    (q : ∀ (t : Bool) H2, Dr m g H H2 → Mst m c g H2 r → if t = true then Wm X q1 { D with nx := Wm X rest D } σ H2 else Wm X q2 { D with nx := Wm X rest D } σ H2) : Wm X (.If (.Compare a [op] [b] p) q1 q2 pos :: rest) D σ H :=
  w_ifW ⟨_, pt_cmpR ho we_ok we_ok hm, ha.go st fun x H1 d1 s1 hx => Ev.app (hb H1 d1) fun y H2 e2 hy => h x y H2 _ (ρ1.m e2 hx) ⟨H1, hy⟩ fun t => ⟨t, rfl, q t H2 (d1.trans (.of e2)) (s1.ex e2)⟩⟩
/-- an int that is drawn, against a written one -/
theorem rs_int {op : CmpOp} {r2 : R2} {lim j : Int} (x y : V) (H2 : Hp) (Q : VK) {S' : Hp} (hx : (rBe lim).r S' x H2) (hy : ∃ S, (rI j).r S y H2) (q : ∀ t, Q (.bl t) H2) : ∃ i : Int, x = .int i ∧ y = .int j := by
  obtain ⟨i, e, _⟩ := hx
  obtain ⟨S, hy⟩ := hy
  exact ⟨i, e, Im.eint hy⟩
end
section
variable {P : Program} {w : World} {K : Frag} {mg : Str → Option Value} {base : Heap}
structure Zt where
  sg : List Nat
  es : List En1
  n : Nat
abbrev p_other : Sp := PrM (fun z : Zt => [rKd z.es, rS z.sg]) (fun z => rKn z.sg z.n) (fun _ => 500) (fun z => OkSg z.sg ∧ OkEs z.sg z.es ∧ z.es.length + 1 ≤ z.n ∧ z.sg.length + 4 ≤ z.n ∧ z.n ≤ 30)
theorem mk_other (E : En w K mg base) : Cal P w K mg base "_law_other" 6 [] p_other :=
  cal_pm E D__law_other 63 60 sc__law_other (fun _ => rfl) (fun m c g z cdv Ar outer s H ws Q EE S0 r hr ok st _ hv q => by
    obtain ⟨sg, es, n⟩ := z
    obtain ⟨os, oe, z1, z2, z3⟩ : OkSg sg ∧ OkEs sg es ∧ es.length + 1 ≤ n ∧ sg.length + 4 ≤ n ∧ n ≤ 30 := ok
    obtain ⟨v1, v2, rfl, ⟨kn, rfl, kd⟩, h2⟩ := two_arg hv
    have h2 := Im.estr h2
    subst h2
    have kd : KnD H kn es := kd
    have st : Mst m c g H (r + 500) := st
    have q : ∀ v H', Dr m g H H' → Mst m c g H' r → (rKn sg n).r H v H' → Q v H' := q
    have zz := os.most
    have zo := os.one
    refine w_ifS (r := r + 499) op_eq (es_draw (lim := 3) E hr (mk_draw E) (fun H1 d => ev_v (i := 0) rfl fun _ => rfl) (fun H1 d => ev_int) (by decide) (by decide)) (fun H1 d => ev_int (i := 0)) st (fun x y H2 Q2 hx hy gq => by
      obtain ⟨i, rfl, rfl⟩ := rs_int (op := .Eq) (r2 := rEq) x y H2 Q2 hx hy gq
      exact ⟨rfl, gq _⟩) (nomark _) fun t H2 d2 s2 => ?_
    have kd2 := kd.kp (mst_kpD st d2)
    cases t with
    | true =>
      rw [if_pos rfl]
      exact w_retW (Es.go (r := r) (Es.le (k := 499) (es_pm (mk_known E) hr ⟨sg, 4, 3⟩ ⟨os, by simp, by simp, by simp⟩ (sv_kn _ _) (fun H3 d3 => ev_v (i := 0) rfl fun _ => rfl) (fun H3 d3 => eac (ev_v (i := 2) rfl fun _ => .str _) (eac ev_int (eac ev_int ea0)))) (by show 400 ≤ 499; omega)) s2 fun v H3 d3 s3 hv3 => q v H3 (d2.trans d3) s3 (by
        obtain ⟨k, es', a1, a2, a3, a4, a5⟩ := hv3
        exact ⟨k, es', a1, d2.fresh s2.some.1 s2.some.2 a2, a3, a4, Nat.le_trans a5 z2⟩))
    | false =>
      rw [if_neg (by decide)]
      refine w_end (w_parS (i := 3) (j := 4) rfl sc__law_other.nd ⟨_, pe_callTy call_dictD rfl E.dct (by decide +kernel) (pa_cons we_ok pa_nil), Ev.app (ev_v (i := 1) (ρ := rV (.ref kn)) rfl fun _ => rfl) fun x H3 e3 hx => ?_⟩ (by decide))
      have hx : x = .ref kn := hx
      subst hx
      obtain ⟨kvs, hkn, dk⟩ := kd2
      refine ⟨kn, kvs, rfl, .inl (e3 _ _ hkn), fun fr hfr => ?_⟩
      have e4 : Ex H2 (upd H3 fr (.dK kvs)) := e3.trans (Ex.new hfr)
      have s4 := s2.ex e4
      have kf : KnD (upd H3 fr (.dK kvs)) fr es := ⟨kvs, upd_same, dk.ex (tu_ex e4)⟩
      have f0 : H2 fr = none := Evl.fresh_back e3 hfr
      have fm : fr ≠ m := fun z => s2.some.1 (z ▸ f0)
      have fg : fr ≠ g := fun z => s2.some.2 (z ▸ f0)
      have fc : fr ≠ c := fun z => s2.cne (z ▸ f0)
      have fH : H fr = none := d2.fresh s2.some.1 s2.some.2 f0
      generalize upd H3 fr (.dK kvs) = G at e4 s4 kf
      refine Es.go (r := r + 498) (es_draw (lim := 2) E hr (mk_draw E) (fun H1 d => ev_v (i := 0) rfl fun _ => rfl) (fun H1 d => ev_int) (by decide) (by decide)) s4 fun v H5 d5 s5 ⟨pl, ev, _, _⟩ => ?_
      subst ev
      refine w_setW (i := 5) sc__law_other.nd (Es.go (r := r + 497) (es_pickS (l := sg) (lim := (sg.length : Int)) (fun H1 d1 => ev_v (i := 2) (ρ := rS sg) rfl fun _ => .str _) (es_draw E hr (mk_draw E) (fun H1 d1 => ev_v (i := 0) rfl fun _ => rfl) (fun H1 d1 => ev_lens (l := sg) E.len (ev_v (i := 2) (ρ := rS sg) rfl fun _ => .str _) (by omega)) (by omega) (by omega)) (by omega) (by omega)) s5 fun v H6 d6 s6 hv6 => ?_)
      obtain ⟨_, ⟨n1, hn1, rfl⟩, im6⟩ := hv6
      have im6 := Im.estr im6
      subst im6
      have fin : ∀ (t : List Nat) (H7 : Hp) (rr : Nat), OkSq sg t → Dr m g G H7 → Mst m c g H7 (r + 400) → Wm (Bx P w K mg base N__law_other D__law_other cdv Ar outer s H EE) (D__law_other.body.drop 4) { nx := fun _ H' => Q .non H', rt := Q } [some (.ref m), some (.ref kn), some (.str (T sg)), some (.ref fr), some (.int pl), some (.str (T t))] H7 := fun t H7 rr okt d7 s7 => by
        refine w_setKn (r := r + 387) (q := t) (hu_of hr) (es_pm (mk_units E) hr 3 ⟨by decide, by decide⟩ (sv_dp _) (fun H2 d2 => ev_v (i := 0) rfl fun _ => rfl) (fun H2 d2 => eac ev_int ea0)) s7 (kf.kp (mst_kpD s4 d7)) fm fg fc (by omega) (fun H2 d2 => ev_v (i := 3) rfl fun _ => rfl) (fun H2 d2 => ev_v (i := 5) rfl fun _ => .str _) fun us H8 u hus d8 s8 kd8 => ?_
        refine w_ret (ev_v (i := 3) (ρ := rV (.ref fr)) rfl fun _ => rfl) fun v9 H9 e9 hv9 => ?_
        have hv9 : v9 = .ref fr := hv9
        subst hv9
        have ep : EsP sg (setE es t us) := EsP.set ⟨oe.ok, oe.nd⟩ okt hus
        have sl := setE_len es t us
        exact q _ H9 ((((d2.trans (.of e4)).trans d7).trans d8).mut fH st.some.2 |>.trans (.of e9)) ((s8.ex e9).mono (by omega)) ⟨fr, setE es t us, rfl, fH, kd8.kp (.of e9), ⟨by omega, ep.ok, ep.nd, fun x hx => by rw [setE_mem]; exact .inl (oe.all x hx)⟩, by omega⟩
      refine w_if (t := decide (pl = 0)) (et_cmp op_eq (ev_v (i := 4) (ρ := rI pl) rfl fun _ => .int _) (ev_int (i := 0)) r_eqi (nomark _)) (fun _ H7 e7 => ?_) fun _ H7 e7 => ?_
      · refine w_setW (i := 5) sc__law_other.nd (Es.go (r := r + 496) (es_op (ρ := rDp fun d => ∃ x ∈ sg, d = eS [n1, x]) (ρ1 := rDp fun d => d = eS [n1]) (ρ2 := rDp fun d => ∃ n ∈ sg, d = eS [n]) op_add_str (es_d fun H1 d1 => ev_v (i := 5) rfl fun _ => .str _) (es_pickS (l := sg) (lim := (sg.length : Int)) (fun H1 d1 => ev_v (i := 2) (ρ := rS sg) rfl fun _ => .str _) (es_draw E hr (mk_draw E) (fun H1 d1 => ev_v (i := 0) rfl fun _ => rfl) (fun H1 d1 => ev_lens (l := sg) E.len (ev_v (i := 2) (ρ := rS sg) rfl fun _ => .str _) (by omega)) (by omega) (by omega)) (by omega) (by omega)) (sv_dp _) (sv_dp _) fun S S' x y H2 Q2 _ _ hx hy gg => ?_) (s6.ex e7) fun v H8 d8 s8 hv8 => ?_)
        · obtain ⟨_, rfl, i1⟩ := hx
          obtain ⟨_, ⟨n2, hn2, rfl⟩, i2⟩ := hy
          exact ⟨T [n1], T [n2], Im.estr i1, Im.estr i2, by rw [T_len, T_len, sizeLine_eq]; simp, gg.at ⟨_, ⟨n2, hn2, rfl⟩, by rw [T_app]; exact .str _⟩⟩
        · obtain ⟨_, ⟨n2, hn2, rfl⟩, im8⟩ := hv8
          have im8 := Im.estr im8
          subst im8
          exact w_end (fin [n1, n2] H8 0 ⟨by simp, by simp, fun x hx => by
            simp only [List.mem_cons, List.not_mem_nil, or_false] at hx
            rcases hx with rfl | rfl
            · exact hn1
            · exact hn2⟩ ((d5.trans d6).trans ((Dr.of e7).trans d8)) (s8.mono (by omega)))
      · exact w_end (fin [n1] H7 0 ⟨by simp, by simp, fun x hx => by rw [List.mem_singleton.mp hx]; exact hn1⟩ ((d5.trans d6).trans (.of e7)) ((s6.ex e7).mono (by omega)))) (fun _ _ _ _ _ _ us hl => match us, hl with | [_, _, _], _ => rfl)
end
end Lk

set_option maxHeartbeats 1000000
/-! _law_places, _law_kept. -/
namespace Lk
open PySem PySem.Spec PyProof.Rows L2
open Evl (Ex)
section
variable {X : Cx} {σ : L2.St} {H H' : Hp} {a b : Expr} {pos p : Pos} {o kn tx pl tb : Addr} {sg : List Nat} {s : Int} {v : V} {z : Str} {j : Nat}
/-- own["..."] -/
theorem ev_oV (hu : X.A.units + 1 < cLine) (ha : Ev X a σ H (rV (.ref o))) (hq : H o = some (.dK (oD sg kn s tx pl tb))) (h : valV (oD sg kn s tx pl tb) (.inr z) = some v := by rfl) : Ev X (.Subscript a (.Constant (.str z) j p) pos) σ H (rV v) :=
  ev_dV (k := .inr z) hu ha ((ev_str (x := z)).imp fun _ _ _ _ _ q => Im.estr q) hq h (fun _ _ => rfl)
theorem Ev.to {e : Expr} {v : V} {ρ : Rp} (h : Ev X e σ H (rV v)) (i : ∀ H1, Ex H H1 → ∀ S, ρ.r S v H1) : Ev X e σ H ρ := h.imp fun S w H1 e1 e2 q => by
  have q : w = v := q
  subst q
  exact i H1 (e1.trans e2) S
end
section
variable {K : Frag} {H H' : Hp} {sg : List Nat} {n1 N : Nat} {p : Pe} {kn tx : Addr}
theorem LoR.kf (h : LoR K H sg n1 p kn tx) (S : Hp) : (rKf p.f).r S (.ref kn) H := by
  obtain ⟨⟨es, h1, h2, h3, h4⟩, _⟩ := h
  rw [h4]
  exact h1.kf h2.nd S
theorem LoR.tl (h : LoR K H sg n1 p kn tx) (S : Hp) : (rL (p.ts.map eS)).r S (.ref tx) H := by
  obtain ⟨_, ⟨xs, h1, h2⟩, _⟩ := h
  exact ⟨tx, xs, rfl, h1, h2⟩
theorem LoR.ex (h : LoR K H sg n1 p kn tx) (e : Ex H H') : LoR K H' sg n1 p kn tx := h.kp (.of e)
end
section
variable {P : Program} {w : World} {K : Frag} {mg : Str → Option Value} {base : Heap}
/-- the other table and strength, what is told -/
abbrev p_places (K : Frag) : Sp := fun vs H Q _ => ∃ (o kn : Addr) (s2 : Int) (sg : List Nat) (n1 : Nat) (cur : Pe) (past : List Pe) (es2 : List En1), vs = [.ref o, .ref kn, .int s2] ∧ OwR K H o sg n1 cur past ∧ OkP sg cur ∧ KnD H kn es2 ∧ OkEs sg es2 ∧ OkS s2 ∧
  Go (rF ((placesF (orderF (keysF (fE es2) s2 cur.ts)) (orderF (keysF cur.f cur.s cur.ts))).map .int)) H Q
theorem mk_places (E : En w K mg base) : Cal P w K mg base "_law_places" 5 [] (p_places K) :=
  cal_of E D__law_places 54 51 sc__law_places (fun vs H Q EE h => by obtain ⟨o, kn, s2, sg, n1, cur, past, es2, rfl, _⟩ := h; rfl) (fun cdv Ar outer s H vs Q EE hr h => by
    obtain ⟨o, kn2, s2, sg, n1, cur, past, es2, rfl, ⟨kn, tx, pl, ws, ho, hpl, hpo, hl⟩, ok, kd, oe, os2, q⟩ := h
    have hu := hu_of hr
    have f2 := fE_ok ok.f.sn oe
    have vo : ∀ {Hx : Hp} S, (rV (.ref o)).r S (.ref o) Hx := fun _ => rfl
    have tlz : cur.ts.length ≤ 1000 := Nat.le_trans ok.most (by decide)
    refine w_set (i := 3) sc__law_places.nd (ev_pr (mk_law_line E) hr ⟨sg, fE es2, s2, cur.ts⟩ ⟨f2, os2, ok.t, tlz⟩ (eac (ev_v (i := 1) rfl fun S => kd.kf oe.nd S) (eac (ev_v (i := 2) rfl fun _ => .int _) (eac ((ev_oV hu (ev_v (i := 0) rfl vo) ho).to fun H1 e1 S => (hl.ex e1).tl S) ea0)))) fun v H1 e1 hv => ?_
    obtain ⟨l, xs, rfl, _, hlf, im⟩ := hv
    have im : Ims H1 xs ((orderF (keysF (fE es2) s2 cur.ts)).map eN) := im
    have ho1 := e1 _ _ ho
    refine w_ret (ev_f (ev_lc (own := [("_law_k", 4)]) (lc_all (orderF (keysF cur.f cur.s cur.ts)) eN (fun n => .int ((orderF (keysF (fE es2) s2 cur.ts)).idxOf n : Int)) (wk_l (ev_pr (mk_law_line E) hr ⟨sg, cur.f, cur.s, cur.ts⟩ ⟨ok.f, ok.s, ok.t, tlz⟩ (eac ((ev_oV hu (ev_v (i := 0) rfl vo) ho1).to fun H2 e2 S => (hl.ex (e1.trans e2)).kf S)
      (eac ((ev_oV hu (ev_v (i := 0) rfl vo) ho1).to fun H2 e2 S => .int _) (eac ((ev_oV hu (ev_v (i := 0) rfl vo) ho1).to fun H2 e2 S => (hl.ex (e1.trans e2)).tl S) ea0))))) rfl (by rw [orderF_most]; exact Nat.le_trans tlz (by decide)) fun n hn => tn_0 (j := 4) sc__law_places.nd fun x H2 e2 hx s H0 C cl fp => ?_) rfl sc__law_places.nd) (by rw [placesF, List.map_map] <;> rfl)) (q.mono e1)
    refine ev_idxL (ns := orderF (keysF (fE es2) s2 cur.ts)) (ev_v (i := 3) rfl fun _ => ⟨l, xs, rfl, e2 _ _ hlf, im.ex e2⟩) (ev_v (i := 4) (ρ := rI (n : Int)) rfl fun _ => hx) ?_
    refine (orderF_perm _).mem_iff.mpr (List.mem_range.mpr ?_)
    have z := orderF_ts hn
    rw [keysF, List.length_map]
    exact z) (fun _ _ _ _ _ _ us hl => match us, hl with | [_, _, _], _ => rfl)
theorem oD_putP (sg : List Nat) (kn : Addr) (s : Int) (tx pl tb pl2 : Addr) : putK (oD sg kn s tx pl tb) kyPa (.ref pl2) = oD sg kn s tx pl2 tb := by rfl
theorem oD_putX (sg : List Nat) (kn : Addr) (s : Int) (tx pl tb tx2 : Addr) : putK (oD sg kn s tx pl tb) kyTx (.ref tx2) = oD sg kn s tx2 pl tb := by rfl
theorem oD_putK (sg : List Nat) (kn : Addr) (s : Int) (tx pl tb kn2 : Addr) : putK (oD sg kn s tx pl tb) kyKn (.ref kn2) = oD sg kn2 s tx pl tb := by rfl
theorem oD_putB (sg : List Nat) (kn : Addr) (s : Int) (tx pl tb tb2 : Addr) : putK (oD sg kn s tx pl tb) kyTb (.ref tb2) = oD sg kn s tx pl tb2 := by rfl
theorem oD_putS (sg : List Nat) (kn : Addr) (s s2 : Int) (tx pl tb : Addr) : putK (oD sg kn s tx pl tb) kySt (.int s2) = oD sg kn s2 tx pl tb := by rfl
theorem PoR.snoc {H : Hp} {sg : List Nat} {n1 : Nat} {v : V} {p : Pe} (h : ∃ q kn tx, v = .ref q ∧ H q = some (.tup [.ref p.tv, .ref kn, .int p.s, .ref tx]) ∧ LoR K H sg n1 p kn tx) : ∀ {xs : List V} {ps : List Pe}, PoR K H sg n1 xs ps → PoR K H sg n1 (xs ++ [v]) (ps ++ [p])
  | _, _, .nil => .cons h .nil
  | _, _, .cons a r => .cons a (PoR.snoc h r)
theorem PoR.len {H : Hp} {sg : List Nat} {n1 : Nat} : ∀ {xs : List V} {ps : List Pe}, PoR K H sg n1 xs ps → xs.length = ps.length
  | _, _, .nil => rfl
  | _, _, .cons _ r => by simp only [List.length_cons, PoR.len r]
/-- a change at the law's own shelf leaves the constant ones -/
theorem kp_own {H H' : Hp} {o : Addr} {u w : HO} (h : H o = some u) (n : ¬ Cst u) (e : Ex H H') : Kp H (upd H' o w) := fun b x z cx => by
  have ne : b ≠ o := by
    rintro rfl
    rw [h] at z
    cases z
    exact n cx
  rw [upd_ne ne]
  exact e _ _ z
abbrev p_kept (K : Frag) : Sp := fun vs H Q _ => ∃ (o : Addr) (sg : List Nat) (n1 : Nat) (cur : Pe) (past : List Pe), vs = [.ref o] ∧ OwR K H o sg n1 cur past ∧ past.length ≤ 10000 ∧ ∀ H', Ex (off o H) H' → OwR K H' o sg n1 cur (past ++ [cur]) → Q .non H'
theorem mk_kept (E : En w K mg base) : Cal P w K mg base "_law_kept" 1 [] (p_kept K) :=
  cal_of E D__law_kept 58 55 sc__law_kept (fun vs H Q EE h => by obtain ⟨o, sg, n1, cur, past, rfl, _⟩ := h; rfl) (fun cdv Ar outer s H vs Q EE hr h => by
    obtain ⟨o, sg, n1, cur, past, rfl, ⟨kn, tx, pl, ws, ho, hpl, hpo, hl⟩, hz, q⟩ := h
    have hu := hu_of hr
    have vo : ∀ {Hx : Hp} S, (rV (.ref o)).r S (.ref o) Hx := fun _ => rfl
    refine w_dputW hu ⟨_, pe_op op_cat we_ok (pe_lst (pa_cons (pe_tup (pa_cons we_ok (pa_cons we_ok (pa_cons we_ok (pa_cons we_ok pa_nil))))) pa_nil)), Ev.app (ev_oV (v := .ref pl) hu (ev_v (i := 0) rfl vo) ho) fun x1 H1 e1 h1 => ?_⟩
    refine Ev.app (ev_oV (v := .ref cur.tv) hu (ev_v (i := 0) rfl vo) (e1 _ _ ho)) fun x2 H2 e2 h2 => ?_
    refine Ev.app (ev_oV (v := .ref kn) hu (ev_v (i := 0) rfl vo) ((e1.trans e2) _ _ ho)) fun x3 H3 e3 h3 => ?_
    refine Ev.app (ev_oV (v := .int cur.s) hu (ev_v (i := 0) rfl vo) (((e1.trans e2).trans e3) _ _ ho)) fun x4 H4 e4 h4 => ?_
    refine Ev.app (ev_oV (v := .ref tx) hu (ev_v (i := 0) rfl vo) ((((e1.trans e2).trans e3).trans e4) _ _ ho)) fun x5 H5 e5 h5 => ?_
    have h1 : x1 = .ref pl := h1
    have h2 : x2 = .ref cur.tv := h2
    have h3 : x3 = .ref kn := h3
    have h4 : x4 = .int cur.s := h4
    have h5 : x5 = .ref tx := h5
    subst h1 h2 h3 h4 h5
    have e05 := ((((e1.trans e2).trans e3).trans e4).trans e5)
    refine ⟨sz6 (by simp), fun t ht => ⟨sz6 (by simp), fun l hl2 => ?_⟩⟩
    have e06 := e05.trans (Ex.new (o := .tup [.ref cur.tv, .ref kn, .int cur.s, .ref tx]) ht)
    have e07 := e06.trans (Ex.new (o := .lst [.ref t]) hl2)
    refine ⟨pl, l, ws, [.ref t], rfl, rfl, e07 _ _ hpl, upd_same, by rw [hpo.len, sizeLine_eq]; simp; omega, fun r hr2 => ?_⟩
    have e08 := e07.trans (Ex.new (o := .lst (ws ++ [.ref t])) hr2)
    refine ⟨o, oD sg kn cur.s tx pl cur.tv, kyPa, e08 _ _ ho, by simp [oD], ev_v (i := 0) rfl vo, ev_ks ev_str, fun H9 e9 => ?_⟩
    rw [oD_putP]
    have e89 := e08.trans e9
    have kp : Kp H (upd H9 o (.dK (oD sg kn cur.s tx r cur.tv))) := kp_own ho oD_not e89
    have ro : r ≠ o := fun z => by rw [z, e07 _ _ ho] at hr2; cases hr2
    have to : t ≠ o := fun z => by rw [z, e05 _ _ ho] at ht; cases ht
    refine w_end (q _ (ex_updl (off_ex.trans e89)) ⟨kn, tx, r, ws ++ [.ref t], upd_same, ?_, PoR.snoc ⟨t, kn, tx, rfl, ?_, hl.kp kp⟩ (hpo.kp kp), hl.kp kp⟩)
    · rw [upd_ne ro]
      exact e9 _ _ upd_same
    · rw [upd_ne to]
      exact ((Ex.new hl2).trans ((Ex.new hr2).trans e9)) _ _ upd_same) (fun _ _ _ _ _ _ us hl => match us, hl with | [_], _ => rfl)
end
end Lk

set_option maxHeartbeats 1000000
/-! _law_put. -/
namespace Lk
open PySem PySem.Spec PyProof.Rows L2
open Evl (Ex)
/-- all but those at vs stays -/
def Vo (vs : List Addr) (H H' : Hp) : Prop := ∀ b u, H b = some u → b ∉ vs → H' b = some u
section
variable {vs : List Addr} {H H1 H' : Hp} {a o m g : Addr}
theorem Vo.of (e : Ex H H') : Vo vs H H' := fun b u h _ => e b u h
theorem Vo.trans (x : Vo vs H H1) (y : Vo vs H1 H') : Vo vs H H' := fun b u h n => y b u (x b u h n) n
theorem vo_off (e : Ex (off a H) H') (ha : a ∈ vs) : Vo vs H H' := fun b u h n => e b u (by rw [off_ne fun z => n (by rw [z]; exact ha)]; exact h)
theorem vo_upd {u : HO} (e : Vo vs H H') (ha : a ∈ vs) : Vo vs H (upd H' a u) := fun b w h n => by
  rw [upd_ne fun z => n (by rw [z]; exact ha)]
  exact e b w h n
theorem kp_vo (h : ∀ v ∈ vs, ∀ u, H v = some u → ¬ Cst u) (e : Vo vs H H') : Kp H H' := fun b u z cu => e b u z fun q => h b q u z cu
theorem kp_off {u : HO} (h : H a = some u) (n : ¬ Cst u) (e : Ex (off a H) H') : Kp H H' := fun b w z cw => e b w (by
  rw [off_ne]
  · exact z
  · rintro rfl
    rw [h] at z
    cases z
    exact n cw)
theorem dd_vo (e : Vo vs H H') (hg : g ∉ vs) : Dd m g vs H H' := ⟨fun b u h _ _ n => e b u h n, fun h => e _ _ h hg⟩
end
section
variable {K : Frag} {H H' : Hp} {a o : Addr} {sg : List Nat} {n1 N : Nat} {cur p : Pe} {past : List Pe}
theorem ins_not {C dx : Addr} {fs : List (Str × V)} : ¬ Cst (.ins C dx fs) := id
/-- the two shelves stand apart -/
theorem St.ne (s : St K H a o sg n1 N cur past) : a ≠ o := by
  obtain ⟨dx, x, q, xs, h1, _⟩ := s.sh
  obtain ⟨kn, tx, pl, ws, h2, _⟩ := s.ow
  rintro rfl
  rw [h1] at h2
  cases h2
theorem okN_more {new : Pe} (h : ∀ p ∈ cur :: past, OkN sg N p) (hn : OkN sg (N + 1) new) : ∀ p ∈ new :: (past ++ [cur]), OkN sg (N + 1) p := fun p hp => by
  rcases List.mem_cons.mp hp with rfl | hp
  · exact hn
  · refine (h p ?_).mono (Nat.le_succ N)
    rcases List.mem_append.mp hp with hp | hp
    · exact List.mem_cons_of_mem _ hp
    · rw [List.mem_singleton.mp hp]
      exact List.mem_cons_self ..
theorem snoc_len {p : Pe} (h : past.length ≤ N) : (past ++ [p]).length ≤ N + 1 := by
  rw [List.length_append, List.length_singleton]
  omega
end
section
variable {P : Program} {w : World} {K : Frag} {mg : Str → Option Value} {base : Heap}
abbrev p_lput (K : Frag) : Sp := fun vs H Q _ => ∃ (a o : Addr) (v : V) (sg : List Nat) (n1 N : Nat) (cur : Pe) (past : List Pe) (t : List Nat), vs = [.ref a, .ref o, v] ∧ St K H a o sg n1 N cur past ∧ (rS t).r H v H ∧ OkT sg t ∧ N ≤ 45 ∧
  ∀ H', Vo [a, o] H H' → St K H' a o sg n1 (N + 1) (addT cur t) (past ++ [cur]) → Q (.bl true) H'
theorem mk_lput (E : En w K mg base) : CalG P w K mg base "_law_put" 6 (p_lput K) :=
  calGd_of E D__law_put 59 56 sc__law_put (fun vs H Q EE h => by obtain ⟨a, o, v, sg, n1, N, cur, past, t, rfl, _⟩ := h; rfl) (fun cdv Ar outer s H vs Q EE hr gd h => by
    obtain ⟨a, o, v, sg, n1, N, cur, past, t, rfl, S, hv, okt, n45, q⟩ := h
    have hv := Im.estr hv
    subst hv
    have hu := hu_of hr
    have ao := S.ne
    have okn := S.ok cur (List.mem_cons_self ..)
    have ok := okn.ok (by omega)
    have lz := S.len
    have S0 := S
    obtain ⟨sh, ⟨kn, tx, pl, ws, ho, hpl, hpo, hl⟩, okA, _⟩ := S0
    have va : ∀ {Hx : Hp} S, (rV (.ref a)).r S (.ref a) Hx := fun _ => rfl
    have vo : ∀ {Hx : Hp} S, (rV (.ref o)).r S (.ref o) Hx := fun _ => rfl
    have vt : ∀ {Hx : Hp} S, (rS t).r S (.str (T t)) Hx := fun _ => .str _
    refine w_par2 (i := 3) (j := 4) rfl sc__law_put.nd (ev_oV (v := .ref kn) hu (ev_v (i := 1) rfl vo) ho) (ev_oV (v := .int cur.s) hu (ev_v (i := 1) rfl vo) ho) fun v1 v2 H1 e1 hv1 hv2 => ?_
    have hv1 : v1 = .ref kn := hv1
    have hv2 : v2 = .int cur.s := hv2
    subst hv1 hv2
    have vs : ∀ {Hx : Hp} S, (rI cur.s).r S (.int cur.s) Hx := fun _ => .int _
    refine w_set (i := 5) sc__law_put.nd (ev_pr (mk_law_key E) hr ⟨sg, cur.f, cur.s, t⟩ ⟨ok.f, ok.s, okt⟩ (eac (ev_v (i := 3) rfl fun S => (hl.ex e1).kf S) (eac (ev_v (i := 2) rfl vt) (eac (ev_v (i := 4) rfl vs) ea0)))) fun v3 H2 e2 hv3 => ?_
    have e12 := e1.trans e2
    obtain ⟨xs, htx, imx⟩ := hl.tx
    refine w_lc (i := 6) (own := [("_law_far", 7)]) (lc_all cur.ts eS (fun x => eK (keyF cur.f cur.s x)) (wk_v (ev_oV (v := .ref tx) hu (ev_v (i := 1) rfl vo) (e12 _ _ ho)) (e12 _ _ htx) (imx.ex e12)) rfl (Nat.le_trans ok.most (by decide)) fun x hx => tn_0 (j := 7) sc__law_put.nd fun y H3 e3 hy s H0 C cl fp => ?_) rfl sc__law_put.nd fun v4 H3 e3 hv4 => ?_
    · exact ev_pr (mk_law_key E) hr ⟨sg, cur.f, cur.s, x⟩ ⟨ok.f, ok.s, ok.t x hx⟩ (eac (ev_v (i := 3) rfl fun S => (hl.ex (e12.trans e3)).kf S) (eac (ev_v (i := 7) rfl fun _ => hy) (eac (ev_v (i := 4) rfl vs) ea0)))
    · obtain ⟨lk, ys, rfl, _, hlk, imk⟩ := hv4
      have imk : Ims H3 ys ((keysF cur.f cur.s cur.ts).map eK) := by rw [keysF, List.map_map]; exact imk
      have e13 := e12.trans e3
      have S3 := S.ex e13
      refine w_expr (we_call (mk_kept E) hr ⟨_, pa_cons we_ok pa_nil, Ev.app (ev_v (i := 1) rfl vo) fun x4 H4 e4 hx4 => ?_⟩)
      have hx4 : x4 = .ref o := hx4
      subst hx4
      have S4 := S3.ex e4
      refine ⟨o, sg, n1, cur, past, rfl, S4.ow, by omega, fun H5 e5 ow5 => ?_⟩
      have ho4 := (e13.trans e4) _ _ ho
      have sh5 : ShD K H5 a sg cur past := S4.sh.kp (kp_off ho4 oD_not e5) fun u z => e5 _ _ (by rw [off_ne ao]; exact z)
      obtain ⟨kn5, tx5, pl5, ws5, ho5, hpl5, hpo5, hl5⟩ := ow5
      have k45 := kp_off ho4 oD_not e5
      have lk5 : H5 lk = some (.lst ys) := e5 _ _ (by
        rw [off_ne]
        · exact e4 _ _ hlk
        · rintro rfl
          cases (e4 _ _ hlk).symm.trans ho4)
      have imk5 := (imk.ex e4).tu k45.tu
      refine w_dputW hu (Ev.app (ev_addl (ds := cur.ts.map eS) (es := [eS t]) ((ev_oV (v := .ref tx5) hu (ev_v (i := 1) rfl vo) ho5).to fun H1 e1 S => (hl5.ex e1).tl S) (ev_l (ev_l1 (ev_v (i := 2) rfl vt))) (by rw [List.length_map]; have := ok.most; simp; omega)) fun v6 H6 e6 hv6 => ?_)
      obtain ⟨tx6, xs6, rfl, tx0, htx6, im6⟩ := hv6
      refine ⟨o, oD sg kn5 cur.s tx5 pl5 cur.tv, kyTx, e6 _ _ ho5, by simp [oD], ev_v (i := 1) rfl vo, ev_ks ev_str, fun H7 e7 => ?_⟩
      rw [oD_putX]
      have e57 := e6.trans e7
      have k57 : Kp H5 (upd H7 o (.dK (oD sg kn5 cur.s tx6 pl5 cur.tv))) := kp_own ho5 oD_not e57
      have to : tx6 ≠ o := fun z => by rw [z, ho5] at tx0; cases tx0
      have im6 : Ims H6 xs6 ((cur.ts ++ [t]).map eS) := by rw [List.map_append]; exact im6
      have tux : Tu H7 (upd H7 o (.dK (oD sg kn5 cur.s tx6 pl5 cur.tv))) := tu_upd (e57 _ _ ho5) fun _ z => by cases z
      have ow8 : OwR K (upd H7 o (.dK (oD sg kn5 cur.s tx6 pl5 cur.tv))) o sg n1 (addT cur t) (past ++ [cur]) := ⟨kn5, tx6, pl5, ws5, upd_same, k57 _ _ hpl5 hpo5.cst, hpo5.kp k57, ⟨(hl5.kp k57).kn, ⟨xs6, by rw [upd_ne to]; exact e7 _ _ htx6, (im6.ex e7).tu tux⟩, (hl5.kp k57).tb⟩⟩
      have sh8 : ShD K (upd H7 o (.dK (oD sg kn5 cur.s tx6 pl5 cur.tv))) a sg cur past := sh5.kp k57 fun u z => by rw [upd_ne ao]; exact e57 _ _ z
      have lk8 : upd H7 o (.dK (oD sg kn5 cur.s tx6 pl5 cur.tv)) lk = some (.lst ys) := by
        rw [upd_ne]
        · exact e57 _ _ lk5
        · rintro rfl
          rw [ho5] at lk5
          cases lk5
      have im8 := imk5.tu k57.tu
      have key8 : Im (upd H7 o (.dK (oD sg kn5 cur.s tx6 pl5 cur.tv))) v3 (eK (keyF cur.f cur.s t)) := (((Im.ex hv3 e3).ex e4).tu k45.tu).tu k57.tu
      have v08 : Vo [a, o] H (upd H7 o (.dK (oD sg kn5 cur.s tx6 pl5 cur.tv))) := vo_upd (((Vo.of (e13.trans e4)).trans (vo_off e5 (by simp))).trans (.of e57)) (by simp)
      generalize upd H7 o (.dK (oD sg kn5 cur.s tx6 pl5 cur.tv)) = G at ow8 sh8 lk8 im8 v08 key8 ⊢
      obtain ⟨dx, x, qp, xs9, hI, hP⟩ := sh8
      refine w_retW (we_callG (mk_like E) gd hr ⟨_, pa_cons we_ok (pa_cons we_ok pa_nil), we_meth E.clsS (E.meS 104) (mk_put E) hr (ev_v (i := 0) rfl va) hI rfl fun H9 e9 => ⟨_, pa_cons we_ok pa_nil, Ev.app (ev_v (i := 2) rfl vt) fun xa Ha ea hxa => ?_⟩⟩)
      have e9a := e9.trans ea
      refine ⟨a, sg, cur, past, xa, t, rfl, ⟨dx, x, qp, xs9, e9a _ _ hI, hP.ex e9a⟩, hxa, ok, okt, by have := okn.most; omega, by omega, fun Hb eb shb => ?_⟩
      have hIa := e9a _ _ hI
      have kab := kp_off hIa ins_not eb
      have owb := (ow8.kp (.of e9a) fun _ z => e9a _ _ z).kp kab fun u z => eb _ _ (by rw [off_ne ao.symm]; exact z)
      have lkb : Hb lk = some (.lst ys) := eb _ _ (by
        rw [off_ne]
        · exact e9a _ _ lk8
        · rintro rfl
          rw [hI] at lk8
          cases lk8)
      have imb := (im8.ex e9a).tu kab.tu
      have vb : Vo [a, o] H Hb := (v08.trans (.of e9a)).trans (vo_off eb (by simp))
      have cz : cntLe (keysF cur.f cur.s cur.ts) (keyF cur.f cur.s t) ≤ 200 := Nat.le_trans (List.length_filter_le _ _) (by rw [keysF, List.length_map]; exact ok.most)
      have e1 : (cntLe (sortK (keysF cur.f cur.s (cur.ts ++ [t]))) (keyF cur.f cur.s t) : Int) - 1 = (cntLe (keysF cur.f cur.s cur.ts) (keyF cur.f cur.s t) : Int) := by
        have z : keysF cur.f cur.s (cur.ts ++ [t]) = keysF cur.f cur.s cur.ts ++ [keyF cur.f cur.s t] := by rw [keysF, List.map_append] <;> rfl
        rw [z, cntLe_add]
        omega
      rw [e1]
      refine Ev.app (ρ := rI (cntLe (keysF cur.f cur.s cur.ts) (keyF cur.f cur.s t) : Int)) (ev_d (ev_len E.len (ev_qf (ev_lc (own := [("_law_far", 7)]) (lc_if (keysF cur.f cur.s cur.ts) eK (fun x => leB x (keyF cur.f cur.s t)) (fun _ => .int 1) (wk_v (ev_v (i := 6) rfl fun _ => rfl) lkb imb) rfl (by rw [keysF, List.length_map]; exact Nat.le_trans ok.most (by decide)) fun kx hkx => tn_n (j := 7) sc__law_put.nd fun y Hc ec hy => ⟨fun s H0 C cl fp => ?_, fun _ s H0 C cl fp => ev_int⟩) rfl sc__law_put.nd))) ?_) fun vc Hc ec hvc => ?_
      · refine ets1 (et_cmp (op_leT (Nat.lt_of_le_of_lt (Nat.le_succ _) hu)) (ev_v (i := 7) (ρ := rD (eK kx)) rfl fun _ => hy) (ev_v (i := 5) (ρ := rD (eK (keyF cur.f cur.s t))) rfl fun _ => ?_) r_leK (nomark _))
        exact ((key8.ex e9a).tu kab.tu).ex ec
      · rw [List.length_map] <;> rfl
      · have hvc := Im.eint hvc
        subst hvc
        refine ⟨.int _, Hc, ⟨trivial, (shw_nat (by omega)).mono (by decide) (by decide)⟩, Ex.refl _, ⟨_, _, rfl, .int _, _, _, rfl, .int _, rfl⟩, fun vd Hd ed hvd => ?_⟩
        have hvd := Im.ebl hvd
        subst hvd
        have ebd := ec.trans ed
        exact q Hd (vb.trans (.of ebd)) ⟨shb.ex ebd, owb.kp (.of ebd) fun _ z => ebd _ _ z, okN_more okA ⟨ok.f, ok.s, fun x hx => by
          rcases List.mem_append.mp hx with hx | hx
          · exact ok.t x hx
          · rw [List.mem_singleton.mp hx]
            exact okt, by show (cur.ts ++ [t]).length ≤ _; rw [List.length_append, List.length_singleton]; have := okn.most; omega⟩, snoc_len lz⟩) (fun _ _ _ _ _ _ us hl => match us, hl with | [_, _, _], _ => rfl)
end
end Lk

set_option maxHeartbeats 1000000
/-! _law_taken. -/
namespace Lk
open PySem PySem.Spec PyProof.Rows L2
open Evl (Ex)
section
variable {X : Cx} {σ : L2.St} {H H' : Hp} {e a b c o : Expr} {es : List Expr} {pos pos' p p2 apos cpos : Pos}
/-- texts.index(t), a list -/
theorem ev_idxS {ts : List (List Nat)} {t : List Nat} (ho : Ev X o σ H (rL (ts.map eS))) (he : Ev X e σ H (rS t)) (h : t ∈ ts) (hse : starEach [e] X.env = (false, eval e X.env) :: starEach [] X.env := by rfl)
    (hb : PE X (.Call (.Attribute o "index" apos) [e] [] cpos) (tBM X.K "list" (rIndex X.K) (We X o) (Wa X [e])) := by exact pe_bm PySem.F.plainAttrs_list PySem.F.slot_list_index PySem.F.type_list_index mt_index we_ok wa_ok) : Ev X (.Call (.Attribute o "index" apos) [e] [] cpos) σ H (rI (ts.idxOf t : Int)) := fun H1 e1 Q q =>
  ⟨_, hb, ho H1 e1 _ fun x H2 e2 hx => by
    obtain ⟨l, xs, rfl, h1, h2⟩ := hx
    have h2 : Ims H2 xs ((ts.map T).map .str) := by rw [List.map_map]; exact h2
    have ex := h2.strs
    subst ex
    refine ⟨.inl ⟨rfl, _, SqL.of h1⟩, eac he ea0 hse H2 (e1.trans e2) _ fun vs H3 e3 hv => ?_⟩
    obtain ⟨v, rfl, hv1⟩ := one_arg hv
    have hv1 := Im.estr hv1
    subst hv1
    refine ⟨l, _, _, ts.idxOf t, .str (T t), rfl, rfl, SqL.of (e3 _ _ h1), rfl, ?_, by rw [List.getElem?_map, List.getElem?_map, idx_atG h] <;> rfl, by simp [eqV], fun m z' hm z => ?_, q _ H3 (e2.trans e3) (.int _)⟩
    · rw [List.all_map]
      exact List.all_eq_true.mpr fun _ _ => rfl
    · rw [List.getElem?_map, List.getElem?_map] at z
      cases hz : ts[m]? with
      | none => rw [hz] at z; cases z
      | some t' =>
        rw [hz] at z
        cases z
        have ne : t' ≠ t := fun w => idx_first hm (w ▸ hz)
        simp [eqV]
        exact ne⟩
end
section
variable {P : Program} {w : World} {K : Frag} {mg : Str → Option Value} {base : Heap}
abbrev p_ltaken (K : Frag) : Sp := fun vs H Q _ => ∃ (a o : Addr) (v : V) (sg : List Nat) (n1 N : Nat) (cur : Pe) (past : List Pe) (t : List Nat), vs = [.ref a, .ref o, v] ∧ St K H a o sg n1 N cur past ∧ (rS t).r H v H ∧ t ∈ cur.ts ∧ N ≤ 45 ∧
  ∀ H', Vo [a, o] H H' → St K H' a o sg n1 (N + 1) (dropT cur (cur.ts.idxOf t)) (past ++ [cur]) → Q (.bl true) H'
theorem mk_ltaken (E : En w K mg base) : CalG P w K mg base "_law_taken" 7 (p_ltaken K) :=
  calGd_of E D__law_taken 60 57 sc__law_taken (fun vs H Q EE h => by obtain ⟨a, o, v, sg, n1, N, cur, past, t, rfl, _⟩ := h; rfl) (fun cdv Ar outer s H vs Q EE hr gd h => by
    obtain ⟨a, o, v, sg, n1, N, cur, past, t, rfl, S, hv, ht, n45, q⟩ := h
    have hv := Im.estr hv
    subst hv
    have hu := hu_of hr
    have ao := S.ne
    have okn := S.ok cur (List.mem_cons_self ..)
    have ok := okn.ok (by omega)
    have lz := S.len
    have S0 := S
    obtain ⟨sh, ⟨kn, tx, pl, ws, ho, hpl, hpo, hl⟩, okA, _⟩ := S0
    obtain ⟨xs, htx, imx⟩ := hl.tx
    have va : ∀ {Hx : Hp} S, (rV (.ref a)).r S (.ref a) Hx := fun _ => rfl
    have vo : ∀ {Hx : Hp} S, (rV (.ref o)).r S (.ref o) Hx := fun _ => rfl
    have vt : ∀ {Hx : Hp} S, (rS t).r S (.str (T t)) Hx := fun _ => .str _
    have nl : cur.ts.idxOf t < cur.ts.length := List.idxOf_lt_length_of_mem ht
    have om := ok.most
    refine w_set (i := 3) sc__law_taken.nd (ev_oV (v := .ref tx) hu (ev_v (i := 1) rfl vo) ho) fun v1 H1 e1 hv1 => ?_
    have hv1 : v1 = .ref tx := hv1
    subst hv1
    refine w_set (i := 4) sc__law_taken.nd (ev_idxS (ts := cur.ts) (ev_v (i := 3) rfl fun S => (hl.ex e1).tl S) (ev_v (i := 2) rfl vt) ht) fun v2 H2 e2 hv2 => ?_
    have hv2 := Im.eint hv2
    subst hv2
    have e12 := e1.trans e2
    have vn : ∀ {Hx : Hp} S, (rI (cur.ts.idxOf t : Int)).r S (.int (cur.ts.idxOf t : Int)) Hx := fun _ => .int _
    refine w_set (i := 5) sc__law_taken.nd (ev_idxL (ns := orderF (keysF cur.f cur.s cur.ts)) (n := cur.ts.idxOf t) (ev_l (ev_pr (mk_law_line E) hr ⟨sg, cur.f, cur.s, cur.ts⟩ ⟨ok.f, ok.s, ok.t, Nat.le_trans om (by decide)⟩ (eac ((ev_oV hu (ev_v (i := 1) rfl vo) (e12 _ _ ho)).to fun H3 e3 S => (hl.ex (e12.trans e3)).kf S)
      (eac ((ev_oV hu (ev_v (i := 1) rfl vo) (e12 _ _ ho)).to fun H3 e3 S => .int _) (eac (ev_v (i := 3) rfl fun S => (hl.ex e12).tl S) ea0))))) (ev_v (i := 4) rfl vn) ((orderF_perm _).mem_iff.mpr (List.mem_range.mpr (by rw [keysF, List.length_map]; exact nl)))) fun v3 H3 e3 hv3 => ?_
    have hv3 := Im.eint hv3
    subst hv3
    have e13 := e12.trans e3
    have S3 := S.ex e13
    refine w_expr (we_call (mk_kept E) hr ⟨_, pa_cons we_ok pa_nil, Ev.app (ev_v (i := 1) rfl vo) fun x4 H4 e4 hx4 => ?_⟩)
    have hx4 : x4 = .ref o := hx4
    subst hx4
    have S4 := S3.ex e4
    refine ⟨o, sg, n1, cur, past, rfl, S4.ow, by omega, fun H5 e5 ow5 => ?_⟩
    have ho4 := (e13.trans e4) _ _ ho
    have k45 := kp_off ho4 oD_not e5
    have sh5 : ShD K H5 a sg cur past := S4.sh.kp k45 fun u z => e5 _ _ (by rw [off_ne ao]; exact z)
    have hl5 : LoR K H5 sg n1 cur kn tx := (hl.ex (e13.trans e4)).kp k45
    obtain ⟨kn5, tx5, pl5, ws5, ho5, hpl5, hpo5, hl5'⟩ := ow5
    refine w_dputW hu (Ev.app (ev_addl (ds := cur.ts.map eS |>.take (cur.ts.idxOf t)) (es := cur.ts.map eS |>.drop (cur.ts.idxOf t + 1)) (ev_l (ev_f (ev_slf (ds := cur.ts.map eS) (ev_v (i := 3) rfl fun S => hl5.tl S) ep0 (ep1 (ev_v (i := 4) rfl vn))) (by rw [cutL_hi]))) (ev_l (ev_f (ev_slf (ds := cur.ts.map eS) (ev_v (i := 3) rfl fun S => hl5.tl S) (ep1 (ev_add (ev_v (i := 4) rfl vn) ev_int)) ep0) (by rw [show (cur.ts.idxOf t : Int) + 1 = ((cur.ts.idxOf t + 1 : Nat) : Int) by omega, cutL_lo]))) (by rw [List.length_take, List.length_drop, List.length_map]; omega)) fun v6 H6 e6 hv6 => ?_)
    obtain ⟨tx6, xs6, rfl, tx0, htx6, im6⟩ := hv6
    refine ⟨o, oD sg kn5 cur.s tx5 pl5 cur.tv, kyTx, e6 _ _ ho5, by simp [oD], ev_v (i := 1) rfl vo, ev_ks ev_str, fun H7 e7 => ?_⟩
    rw [oD_putX]
    have e57 := e6.trans e7
    have k57 : Kp H5 (upd H7 o (.dK (oD sg kn5 cur.s tx6 pl5 cur.tv))) := kp_own ho5 oD_not e57
    have to : tx6 ≠ o := fun z => by rw [z, ho5] at tx0; cases tx0
    have im6 : Ims H6 xs6 ((dropT cur (cur.ts.idxOf t)).ts.map eS) := by
      show Ims H6 xs6 ((cur.ts.take _ ++ cur.ts.drop _).map eS)
      rw [List.map_append, List.map_take, List.map_drop]
      exact im6
    have tux : Tu H7 (upd H7 o (.dK (oD sg kn5 cur.s tx6 pl5 cur.tv))) := tu_upd (e57 _ _ ho5) fun _ z => by cases z
    have ow8 : OwR K (upd H7 o (.dK (oD sg kn5 cur.s tx6 pl5 cur.tv))) o sg n1 (dropT cur (cur.ts.idxOf t)) (past ++ [cur]) := ⟨kn5, tx6, pl5, ws5, upd_same, k57 _ _ hpl5 hpo5.cst, hpo5.kp k57, ⟨(hl5'.kp k57).kn, ⟨xs6, by rw [upd_ne to]; exact e7 _ _ htx6, (im6.ex e7).tu tux⟩, (hl5'.kp k57).tb⟩⟩
    have sh8 : ShD K (upd H7 o (.dK (oD sg kn5 cur.s tx6 pl5 cur.tv))) a sg cur past := sh5.kp k57 fun u z => by rw [upd_ne ao]; exact e57 _ _ z
    have v08 : Vo [a, o] H (upd H7 o (.dK (oD sg kn5 cur.s tx6 pl5 cur.tv))) := vo_upd (((Vo.of (e13.trans e4)).trans (vo_off e5 (by simp))).trans (.of e57)) (by simp)
    generalize upd H7 o (.dK (oD sg kn5 cur.s tx6 pl5 cur.tv)) = G at ow8 sh8 v08 ⊢
    obtain ⟨dx, x, qp, xs9, hI, hP⟩ := sh8
    refine w_retW (we_callG (mk_like E) gd hr ⟨_, pa_cons we_ok (pa_cons we_ok pa_nil), we_meth E.clsS (E.meS 105) (mk_take E) hr (ev_v (i := 0) rfl va) hI rfl fun H9 e9 => ⟨_, pa_cons we_ok pa_nil, Ev.app (ev_v (i := 2) rfl vt) fun xa Ha ea hxa => ?_⟩⟩)
    have e9a := e9.trans ea
    refine ⟨a, sg, cur, past, xa, t, rfl, ⟨dx, x, qp, xs9, e9a _ _ hI, hP.ex e9a⟩, hxa, ok, ht, by omega, fun Hb eb shb => ?_⟩
    have kab := kp_off (e9a _ _ hI) ins_not eb
    have owb := (ow8.kp (.of e9a) fun _ z => e9a _ _ z).kp kab fun u z => eb _ _ (by rw [off_ne ao.symm]; exact z)
    have vb : Vo [a, o] H Hb := (v08.trans (.of e9a)).trans (vo_off eb (by simp))
    have jz : (orderF (keysF cur.f cur.s cur.ts)).idxOf (cur.ts.idxOf t) ≤ 200 := Nat.le_trans List.idxOf_le_length (by rw [orderF_most]; exact om)
    refine Ev.app (ρ := rI ((orderF (keysF cur.f cur.s cur.ts)).idxOf (cur.ts.idxOf t) : Int)) (ev_v (i := 5) rfl fun _ => .int _) fun vc Hc ec hvc => ?_
    have hvc := Im.eint hvc
    subst hvc
    refine ⟨.int _, Hc, ⟨trivial, (shw_nat (by omega)).mono (by decide) (by decide)⟩, Ex.refl _, ⟨_, _, rfl, .int _, _, _, rfl, .int _, rfl⟩, fun vd Hd ed hvd => ?_⟩
    have hvd := Im.ebl hvd
    subst hvd
    have ebd := ec.trans ed
    exact q Hd (vb.trans (.of ebd)) ⟨shb.ex ebd, owb.kp (.of ebd) fun _ z => ebd _ _ z, okN_more okA ⟨ok.f, ok.s, fun x hx => by
      rcases List.mem_append.mp hx with hx | hx
      · exact ok.t x (List.mem_of_mem_take hx)
      · exact ok.t x (List.mem_of_mem_drop hx), by show (cur.ts.take _ ++ cur.ts.drop _).length ≤ _; rw [List.length_append, List.length_take, List.length_drop]; have := okn.most; omega⟩, snoc_len lz⟩) (fun _ _ _ _ _ _ us hl => match us, hl with | [_, _, _], _ => rfl)
end
end Lk

set_option maxHeartbeats 1000000
/-! _law_changed. -/
namespace Lk
open PySem PySem.Spec PyProof.Rows L2
open Evl (Ex)
section
variable {X : Cx} {σ : L2.St} {H H' : Hp} {e a b c o1 o2 i1 i2 : Expr} {pos pos' p p1 p2 pt pt2 : Pos} {kt k2' : Nat} {D : Ends} {rest q1 q2 : List Stmt}
/-- o[k1], o[k2] = a, b -/
theorem w_dput2 (hu : X.A.units + 1 < cLine) (hc : X.calm = true) (o : Addr) (k1 k2 : Key) (h1 : ∀ H3, Ev X o1 σ H3 (rV (.ref o))) (h2 : ∀ H3, Ev X i1 σ H3 (rV (kV k1))) (h3 : ∀ H3, Ev X o2 σ H3 (rV (.ref o))) (h4 : ∀ H3, Ev X i2 σ H3 (rV (kV k2)))
    (h : We X a σ H fun v H1 => We X b σ H1 fun w H2 => ∃ (kvs : List (Key × V)), H2 o = some (.dK kvs) ∧ kvs.length ≤ 1000 ∧ ∀ H4 H6, Ex H2 H4 → Ex (upd H4 o (.dK (putK kvs k1 v))) H6 → Wm X rest D σ (upd H6 o (.dK (putK (putK kvs k1 v) k2 w))))
    (e1 : starEach [a, b] X.env = (false, eval a X.env) :: starEach [b] X.env := by rfl) (e2 : starEach [b] X.env = (false, eval b X.env) :: starEach [] X.env := by rfl)
    (g1 : PG X (.Subscript o1 i1 p1) (gSub (We X o1) (We X i1) rSetD) := by exact pg_sub we_ok we_ok (set_dict (by assumption))) (g2 : PG X (.Subscript o2 i2 p2) (gSub (We X o2) (We X i2) rSetD) := by exact pg_sub we_ok we_ok (set_dict (by assumption)))
    (hw : swappedStores [.Tuple [.Subscript o1 i1 p1, .Subscript o2 i2 p2] kt pt] (.Tuple [a, b] k2' pt2) X.env = pure none := by rfl)
    (hs : swapsWithSole [.Tuple [.Subscript o1 i1 p1, .Subscript o2 i2 p2] kt pt] (.Tuple [a, b] k2' pt2) pos.line X.env = pure false := by rfl) : Wm X (.Assign [.Tuple [.Subscript o1 i1 p1, .Subscript o2 i2 p2] kt pt] (.Tuple [a, b] k2' pt2) pos :: rest) D σ H :=
  w_cons ⟨_, ps_asg (pe_tup (pa_cons we_ok (pa_cons we_ok pa_nil e2) e1)) (pg_tup hc (pgs_cons g1 (pgs_cons g2 pgs_nil))) hs hw, we_mono h fun v H1 z => we_mono z fun w H2 z2 => by
    obtain ⟨kvs, ho, hz, q⟩ := z2
    refine ⟨sz6 (by simp), fun t ht => ⟨t, [v, w], rfl, SqT.of upd_same, rfl, v, [w], rfl, ?_⟩⟩
    have e3 : Ex H2 (upd H2 t (.tup [v, w])) := Ex.new ht
    generalize upd H2 t (.tup [v, w]) = H3 at e3
    refine Ev.app (h1 H3) fun x1 H4 e4 hx1 => Ev.app (h2 H4) fun x2 H5 e5 hx2 => ?_
    have hx1 : x1 = .ref o := hx1
    have hx2 : x2 = kV k1 := hx2
    subst hx1 hx2
    have e25 := (e3.trans e4).trans e5
    refine ⟨o, _, rfl, DPut.k (e25 _ _ ho) (Nat.lt_of_le_of_lt hz (by rw [sizeLine_eq]; decide)), w, [], rfl, ?_⟩
    refine Ev.app (h3 _) fun x3 H6 e6 hx3 => Ev.app (h4 H6) fun x4 H7 e7 hx4 => ?_
    have hx3 : x3 = .ref o := hx3
    have hx4 : x4 = kV k2 := hx4
    subst hx3 hx4
    refine ⟨o, _, rfl, DPut.k ((e6.trans e7) _ _ upd_same) ?_, rfl, q H5 H7 e25 (e6.trans e7)⟩
    have z : (putK kvs k1 v).length ≤ kvs.length + 1 := by
      unfold putK
      split
      · rw [List.length_map]
        omega
      · rw [List.length_append]
        exact Nat.le_refl _
    rw [sizeLine_eq]
    omega⟩
/-- if a and b -/
theorem w_ifAnd (h : Wt X a σ H fun t H1 => if t = true then Wt X b σ H1 (fun t H2 => if t = true then Wm X q1 { D with nx := Wm X rest D } σ H2 else Wm X q2 { D with nx := Wm X rest D } σ H2) else Wm X q2 { D with nx := Wm X rest D } σ H1) : Wm X (.If (.BoolOp .And [a, b] p) q1 q2 pos :: rest) D σ H := by
  refine w_ifW ⟨_, (pw_and wt_ok (pw_and1 wt_ok)).pt, ?_⟩
  obtain ⟨t, ht, hq⟩ := h
  refine ⟨fun σ H Q' => ∃ Q : Bool → Hp → Prop, t σ H Q ∧ ∀ v H1, Q v H1 → Q' v H1, ⟨fun pins s σ H Q' I ⟨Q, z1, z2⟩ => ?_⟩, _, hq, fun v H1 z => ?_⟩
  · refine wpAny_mono (ht.run pins s σ H Q I z1) (fun v s' hv => ?_) fun _ _ z => z
    obtain ⟨H1, a2, a3⟩ := hv
    exact ⟨H1, a2, z2 _ _ a3⟩
  · cases v with
    | true =>
      rw [if_pos rfl] at z ⊢
      exact z
    | false =>
      rw [if_neg (by decide)] at z ⊢
      exact z
end
section
variable {m c g a o : Addr} {vs : List Addr} {H H' : Hp} {r : Nat} {C dx : Addr} {fs : List (Str × V)} {sg : List Nat} {kn tx pl tb : Addr} {s : Int}
theorem mst_vo (st : Mst m c g H r) (v : Vo vs H H') (n : m ∉ vs ∧ c ∉ vs ∧ g ∉ vs) : Mst m c g H' r := by
  obtain ⟨⟨k, a1, a2⟩, ⟨cs, a3, a4⟩, ⟨gs, a5⟩, ne⟩ := st
  exact ⟨⟨k, v _ _ a1 n.1, a2⟩, ⟨cs, a3, v _ _ a4 n.2.1⟩, ⟨gs, v _ _ a5 n.2.2⟩, ne⟩
theorem mst_ins (st : Mst m c g H r) (h : H a = some (.ins C dx fs)) : m ≠ a ∧ c ≠ a ∧ g ≠ a := by
  obtain ⟨⟨k, a1, a2⟩, ⟨cs, a3, a4⟩, ⟨gs, a5⟩, ne⟩ := st
  refine ⟨?_, ?_, ?_⟩ <;> rintro rfl
  · cases a1.symm.trans h
  · cases a4.symm.trans h
  · cases a5.symm.trans h
theorem mst_own (st : Mst m c g H r) (h : H o = some (.dK (oD sg kn s tx pl tb))) : m ≠ o ∧ c ≠ o ∧ g ≠ o := by
  obtain ⟨⟨k, a1, a2⟩, ⟨cs, a3, a4⟩, ⟨gs, a5⟩, ne⟩ := st
  refine ⟨?_, ?_, ?_⟩ <;> rintro rfl
  · have e := congrArg (fun u => match u with
      | some (HO.dK kvs) => kvs.length
      | _ => 0) (a1.symm.trans h)
    simp [mD, oD] at e
  · cases a4.symm.trans h
  · cases a5.symm.trans h
theorem mst_St {K : Frag} {n1 N : Nat} {cur : Pe} {past : List Pe} (st : Mst m c g H r) (S : St K H a o sg n1 N cur past) : m ∉ [a, o] ∧ c ∉ [a, o] ∧ g ∉ [a, o] := by
  obtain ⟨dx, x, q, xs, h1, _⟩ := S.sh
  obtain ⟨kn, tx, pl, ws, h2, _⟩ := S.ow
  obtain ⟨x1, x2, x3⟩ := mst_ins st h1
  obtain ⟨y1, y2, y3⟩ := mst_own st h2
  simp [x1, x2, x3, y1, y2, y3]
end
section
variable {P : Program} {w : World} {K : Frag} {mg : Str → Option Value} {base : Heap}
abbrev p_lchanged (K : Frag) : Sp := fun vs H Q _ => ∃ (m c g a o kn2 : Addr) (s2 : Int) (sg : List Nat) (n1 N : Nat) (cur : Pe) (past : List Pe) (es2 : List En1) (r : Nat), vs = [.ref m, .ref a, .ref o, .ref kn2, .int s2] ∧ Mst m c g H (r + 50) ∧ St K H a o sg n1 N cur past ∧ KnD H kn2 es2 ∧ OkEs sg es2 ∧ es2.length ≤ n1 ∧ OkS s2 ∧ N ≤ 45 ∧
  ∀ H' tv, Dd m g [a, o] H H' → Mst m c g H' r → St K H' a o sg n1 (N + 1) ⟨tv, fE es2, s2, cur.ts⟩ (past ++ [cur]) → Q (.bl true) H'
theorem mk_lchanged (E : En w K mg base) : CalG P w K mg base "_law_changed" 10 (p_lchanged K) :=
  calGd_of E D__law_changed 61 58 sc__law_changed (fun vs H Q EE h => by obtain ⟨m, c, g, a, o, kn2, s2, sg, n1, N, cur, past, es2, r, rfl, _⟩ := h; rfl) (fun cdv Ar outer s H vs Q EE hr gd h => by
    obtain ⟨m, c, g, a, o, kn2, s2, sg, n1, N, cur, past, es2, r, rfl, st, S, kd, oe, ez, os2, n45, q⟩ := h
    have hu := hu_of hr
    have ao := S.ne
    have okn := S.ok cur (List.mem_cons_self ..)
    have ok := okn.ok (by omega)
    have lz := S.len
    have out := mst_St st S
    have S0 := S
    obtain ⟨sh, ow, okA, _⟩ := S0
    have f2 := fE_ok ok.f.sn oe
    have vm : ∀ {Hx : Hp} S, (rV (.ref m)).r S (.ref m) Hx := fun _ => rfl
    have va : ∀ {Hx : Hp} S, (rV (.ref a)).r S (.ref a) Hx := fun _ => rfl
    have vo : ∀ {Hx : Hp} S, (rV (.ref o)).r S (.ref o) Hx := fun _ => rfl
    have vs2 : ∀ {Hx : Hp} S, (rI s2).r S (.int s2) Hx := fun _ => .int _
    have om := ok.most
    have pz : ((placesF (orderF (keysF (fE es2) s2 cur.ts)) (orderF (keysF cur.f cur.s cur.ts)))).length ≤ 200 := by rw [placesF, List.length_map, orderF_most]; exact om
    refine w_set (i := 5) (ρ := rI (turnsBy cur (fE es2) s2 : Int)) sc__law_changed.nd (ev_d (ev_len E.len (ev_ql (ev_l (ev_pr (mk_law_turns E) hr (placesF (orderF (keysF (fE es2) s2 cur.ts)) (orderF (keysF cur.f cur.s cur.ts))) pz (eac (ev_l (ev_call (ρ := rF ((placesF (orderF (keysF (fE es2) s2 cur.ts)) (orderF (keysF cur.f cur.s cur.ts))).map .int)) (mk_places E) hr
      (eac (ρ := rV (.ref o)) (ev_v (i := 2) rfl vo) (eac (ρ := rV (.ref kn2)) (ev_v (i := 3) rfl fun _ => rfl) (eac (ev_v (i := 4) rfl vs2) ea0))) fun S vs H2 Q2 e1 e2 hv gq => ?_)) ea0))))) (by rw [List.length_map] <;> rfl)) fun v1 H1 e1 hv1 => ?_
    · obtain ⟨x1, x2, x3, rfl, hx1, hx2, hx3⟩ := three_arg hv
      have hx1 : x1 = .ref o := hx1
      have hx2 : x2 = .ref kn2 := hx2
      have hx3 := Im.eint hx3
      subst hx1 hx2 hx3
      exact ⟨o, kn2, s2, sg, n1, cur, past, es2, rfl, ow.kp (.of (e1.trans e2)) fun _ z => (e1.trans e2) _ _ z, ok, kd.kp (.of (e1.trans e2)), oe, os2, gq⟩
    · have hv1 := Im.eint hv1
      subst hv1
      refine w_expr (we_call (mk_kept E) hr ⟨_, pa_cons we_ok pa_nil, Ev.app (ev_v (i := 2) rfl vo) fun x4 H2 e2 hx4 => ?_⟩)
      have hx4 : x4 = .ref o := hx4
      subst hx4
      have e12 := e1.trans e2
      have S2 := S.ex e12
      have st2 := st.ex e12
      refine ⟨o, sg, n1, cur, past, rfl, S2.ow, by omega, fun H3 e3 ow3 => ?_⟩
      obtain ⟨kn0, tx0, pl0, ws0, ho2, _⟩ := S2.ow
      have k23 := kp_off ho2 oD_not e3
      have sh3 : ShD K H3 a sg cur past := S2.sh.kp k23 fun u z => e3 _ _ (by rw [off_ne ao]; exact z)
      have v3 : Vo [a, o] H2 H3 := vo_off e3 (by simp)
      have st3 := mst_vo st2 v3 out
      have d03 : Dd m g [a, o] H H3 := dd_vo ((Vo.of e12).trans v3) out.2.2
      have kd3 : KnD H3 kn2 es2 := (kd.kp (.of e12)).kp k23
      obtain ⟨kn, tx, pl, ws, ho3, hpl3, hpo3, hl3⟩ := ow3
      refine w_dputW hu (Es.go (r := r + 10) (es_pm (mk_table E) hr (es2, sg) ⟨ok.f.sn, oe⟩ (sv_tb _ _ _) (fun H4 d4 => ev_v (i := 0) rfl vm) (fun H4 d4 => eac (ev_v (i := 3) rfl fun _ => ⟨kn2, rfl, kd3.kp (mst_kpD st3 d4)⟩) (eac (ev_oV (v := .str (T sg)) hu (ev_v (i := 2) rfl vo) (d4.keep ho3 (mst_own st3 ho3).1.symm (.inl (mst_own st3 ho3).2.2.symm)) |>.to fun _ _ _ => .str _) ea0))) (st3.mono (by show r + 10 + 40 ≤ r + 50; omega)) fun v4 H4 d4 s4 hv4 => ?_)
      obtain ⟨tv, rfl⟩ : ∃ tv, v4 = .ref tv := by
        obtain ⟨a, _, _, _, _, _, h, _⟩ := hv4
        exact ⟨a, h⟩
      have ho4 : H4 o = some (.dK (oD sg kn cur.s tx pl cur.tv)) := d4.keep ho3 (mst_own st3 ho3).1.symm (.inl (mst_own st3 ho3).2.2.symm)
      have k34 := mst_kpD st3 d4
      refine ⟨o, oD sg kn cur.s tx pl cur.tv, kyTb, ho4, by simp [oD], ev_v (i := 2) rfl vo, ev_ks ev_str, fun H5 e5 => ?_⟩
      rw [oD_putB]
      have k45 : Kp H4 (upd H5 o (.dK (oD sg kn cur.s tx pl tv))) := kp_own ho4 oD_not e5
      have d05 : Dd m g [a, o] H (upd H5 o (.dK (oD sg kn cur.s tx pl tv))) := dd_upd ((d03.trans (.dr d4)).trans (.of e5)) (by simp) (fun z => out.2.2 (by simp [← z]))
      have s5 : Mst m c g (upd H5 o (.dK (oD sg kn cur.s tx pl tv))) (r + 10) := mst_vo s4 (vo_upd (vs := [a, o]) (.of e5) (by simp)) out
      have sh5 : ShD K (upd H5 o (.dK (oD sg kn cur.s tx pl tv))) a sg cur past := sh3.kp (k34.trans k45) fun u z => by
        rw [upd_ne ao]
        refine e5 _ _ (d4.keep z ?_ (.inl ?_))
        · exact fun z => out.1 (by simp [z])
        · exact fun z => out.2.2 (by simp [z])
      have k35 := k34.trans k45
      have ho5 : upd H5 o (.dK (oD sg kn cur.s tx pl tv)) o = some (.dK (oD sg kn cur.s tx pl tv)) := upd_same
      have tb5 : (rTb K sg (fE es2)).r H4 (.ref tv) (upd H5 o (.dK (oD sg kn cur.s tx pl tv))) := tb_kp hv4 k45
      generalize upd H5 o (.dK (oD sg kn cur.s tx pl tv)) = G at k45 k35 d05 s5 sh5 ho5 tb5
      refine w_dput2 hu rfl o kyKn kySt (fun _ => ev_v (i := 2) rfl vo) (fun _ => ev_ks ev_str) (fun _ => ev_v (i := 2) rfl vo) (fun _ => ev_ks ev_str) (Ev.app (ev_v (i := 3) (ρ := rV (.ref kn2)) rfl fun _ => rfl) fun x6 H6 e6 hx6 => Ev.app (ev_v (i := 4) (ρ := rV (.int s2)) rfl fun _ => rfl) fun x7 H7 e7 hx7 => ?_)
      have hx6 : x6 = .ref kn2 := hx6
      have hx7 : x7 = .int s2 := hx7
      subst hx6 hx7
      refine ⟨oD sg kn cur.s tx pl tv, (e6.trans e7) _ _ ho5, by simp [oD], fun H8 H9 e8 e9 => ?_⟩
      rw [oD_putK] at e9 ⊢
      rw [oD_putS]
      have e58 := (e6.trans e7).trans e8
      have k59 : Kp G (upd H9 o (.dK (oD sg kn2 s2 tx pl tv))) := (kp_own ho5 oD_not e58).trans (kp_own upd_same oD_not e9)
      have d09 : Dd m g [a, o] H (upd H9 o (.dK (oD sg kn2 s2 tx pl tv))) := dd_upd ((dd_upd (d05.trans (.of e58)) (by simp) (fun z => out.2.2 (by simp [← z]))).trans (.of e9)) (by simp) (fun z => out.2.2 (by simp [← z]))
      have s9 : Mst m c g (upd H9 o (.dK (oD sg kn2 s2 tx pl tv))) (r + 10) := mst_vo s5 (vo_upd (vs := [a, o]) ((vo_upd (.of e58) (by simp)).trans (.of e9)) (by simp)) out
      have sh9 : ShD K (upd H9 o (.dK (oD sg kn2 s2 tx pl tv))) a sg cur past := sh5.kp k59 fun u z => by
        rw [upd_ne ao]
        exact e9 _ _ (by rw [upd_ne ao]; exact e58 _ _ z)
      have k39 := k35.trans k59
      have ow9 : OwR K (upd H9 o (.dK (oD sg kn2 s2 tx pl tv))) o sg n1 ⟨tv, fE es2, s2, cur.ts⟩ (past ++ [cur]) := ⟨kn2, tx, pl, ws, upd_same, k39 _ _ hpl3 hpo3.cst, hpo3.kp k39, ⟨⟨es2, kd3.kp k39, oe, ez, rfl⟩, (hl3.kp k39).tx, tb_kp tb5 k59⟩⟩
      have ho9 : upd H9 o (.dK (oD sg kn2 s2 tx pl tv)) o = some (.dK (oD sg kn2 s2 tx pl tv)) := upd_same
      generalize upd H9 o (.dK (oD sg kn2 s2 tx pl tv)) = G9 at k59 k39 d09 s9 sh9 ow9 ho9
      -- what both calls of change bring
      have fin : ∀ (Hb Hc : Hp), Dd m g [a, o] H Hc → Mst m c g Hb r → Ex (off a Hb) Hc → (∃ dx fs, Hb a = some (.ins (He.ga K "Shelf") dx fs)) → OwR K Hb o sg n1 ⟨tv, fE es2, s2, cur.ts⟩ (past ++ [cur]) → ShD K Hc a sg ⟨tv, fE es2, s2, cur.ts⟩ (past ++ [cur]) → Q (.bl true) Hc := fun Hb Hc dd ss ee ⟨dx, fs, hI⟩ oo shh => by
        refine q Hc tv dd (mst_vo ss (vo_off ee (by simp)) out) ⟨shh, oo.kp (kp_off hI ins_not ee) fun u z => ee _ _ (by rw [off_ne ao.symm]; exact z), okN_more okA ⟨f2, os2, ok.t, by have := okn.most; show cur.ts.length ≤ _; omega⟩, snoc_len lz⟩
      have tz : turnsBy cur (fE es2) s2 ≤ 200 * 200 := by
        unfold turnsBy turnsF
        refine Nat.le_trans (flat_len _ _ (fun k => tl_len _ k) _) ?_
        exact Nat.mul_le_mul pz pz
      have like : ∀ {Hd : Hp} {Q2 : VK}, Go (rB true) Hd Q2 → p_like [.int (turnsBy cur (fE es2) s2 : Int), .int (turnsBy cur (fE es2) s2 : Int)] Hd Q2 E0 := fun gq => ⟨.int _, _, ⟨trivial, (shw_nat (by omega)).mono (by decide) (by decide)⟩, Ex.refl _, ⟨_, _, rfl, .int _, _, _, rfl, .int _, rfl⟩, gq⟩
      refine w_ifAnd (et_cmp (t := decide (s2 = 3)) op_eq (ev_v (i := 4) rfl vs2) (ev_int (i := 3)) r_eqi (nomark _) G9 (Ex.refl _) _ fun Ha ea => ?_)
      have ho_a := ea _ _ ho9
      have d0a := d09.trans (Dd.of (vs := [a, o]) ea)
      have sa := s9.ex ea
      have owa := ow9.kp (.of ea) fun _ z => ea _ _ z
      have sha := sh9.ex ea
      have tba : (rTb K sg (fE es2)).r H4 (.ref tv) Ha := tb_kp (tb_kp (S' := H4) tb5 k59) (.of ea)
      have last : ∀ (Hb : Hp) (rr : Nat), Dr m g Ha Hb → Mst m c g Hb r → Wm (Bx P w K mg base N__law_changed D__law_changed cdv Ar outer s H EE) (D__law_changed.body.drop 5) { nx := fun _ H' => Q .non H', rt := Q } [some (.ref m), some (.ref a), some (.ref o), some (.ref kn2), some (.int s2), some (.int (turnsBy cur (fE es2) s2 : Int))] Hb := fun Hb rr db sb => by
        have kab := mst_kpD sa db
        have shb := sha.kp kab fun u z => db.keep z (fun z => out.1 (by simp [z])) (.inl fun z => out.2.2 (by simp [z]))
        have owb := owa.kp kab fun u z => db.keep z (fun z => out.1 (by simp [z])) (.inl fun z => out.2.2 (by simp [z]))
        have ho_b := db.keep ho_a (fun z => out.1 (by simp [z])) (.inl fun z => out.2.2 (by simp [z]))
        obtain ⟨dx, x, qp, xs9, hI, hP⟩ := shb
        refine w_retW (we_callG (mk_like E) gd hr ⟨_, pa_cons we_ok (pa_cons we_ok pa_nil), we_meth E.clsS (E.meS 108) (mk_change E) hr (ev_v (i := 1) rfl va) hI rfl fun H9 e9 => ⟨_, pa_cons we_ok (pa_cons we_ok pa_nil), Ev.app (ev_oV (v := .ref tv) hu (ev_v (i := 2) rfl vo) (e9 _ _ ho_b)) fun xa Hc ec hxa => Ev.app (ev_v (i := 4) rfl vs2) fun xb Hd ed hxb => ?_⟩⟩)
        have hxa : xa = .ref tv := hxa
        have hxb := Im.eint hxb
        subst hxa hxb
        have ebd := (e9.trans ec).trans ed
        refine ⟨a, sg, cur, past, tv, fE es2, s2, rfl, ⟨dx, x, qp, xs9, ebd _ _ hI, hP.ex ebd⟩, tb_kp (tb_kp (S' := H4) tba kab) (.of ebd), ok, f2, os2, by omega, fun He ee she => ?_⟩
        refine Ev.app (ev_v (i := 5) (ρ := rI (turnsBy cur (fE es2) s2 : Int)) rfl fun _ => .int _) fun vc Hf ef hvc => ?_
        have hvc := Im.eint hvc
        subst hvc
        refine like fun vd Hg eg hvd => ?_
        have hvd := Im.ebl hvd
        subst hvd
        exact fin Hd Hg (((d0a.trans ((Dd.dr db).trans (.of ebd))).trans (dd_vo (vo_off ee (by simp)) out.2.2)).trans (.of (ef.trans eg))) (sb.ex ebd) ((ee.trans ef).trans eg) ⟨dx, _, ebd _ _ hI⟩ (owb.kp (.of ebd) fun _ z => ebd _ _ z) (she.ex (ef.trans eg))
      by_cases h3 : s2 = 3
      · rw [if_pos (decide_eq_true h3)]
        refine ⟨_, pt_cmpR op_eq we_ok we_ok (nomark _), Es.go (r := r) (es_draw (lim := 2) E hr (mk_draw E) (fun H1 d => ev_v (i := 0) rfl vm) (fun H1 d => ev_int) (by decide) (by decide)) (sa.mono (by omega)) fun v Hb db sb ⟨k, ev, _, _⟩ => Ev.app ev_int fun v0 Hb' eb' hv0 => ?_⟩
        subst ev
        have hv0 := Im.eint hv0
        subst hv0
        refine ⟨rfl, decide (V.int k = V.int 0), rfl, ?_⟩
        have db := db.trans (.of eb')
        have sb := sb.ex eb'
        cases hk : decide (V.int k = V.int 0) with
        | false =>
          show (if _ then _ else _)
          rw [if_neg (by decide)]
          exact w_end (last Hb' 0 db sb)
        | true =>
          show (if _ then _ else _)
          rw [if_pos rfl]
          have kab := mst_kpD sa db
          have shb := sha.kp kab fun u z => db.keep z (fun z => out.1 (by simp [z])) (.inl fun z => out.2.2 (by simp [z]))
          have owb := owa.kp kab fun u z => db.keep z (fun z => out.1 (by simp [z])) (.inl fun z => out.2.2 (by simp [z]))
          have ho_b := db.keep ho_a (fun z => out.1 (by simp [z])) (.inl fun z => out.2.2 (by simp [z]))
          obtain ⟨dx, x, qp, xs9, hI, hP⟩ := shb
          refine w_retW (we_callG (mk_like E) gd hr ⟨_, pa_cons we_ok (pa_cons we_ok pa_nil), we_meth E.clsS (E.meS 108) (mk_change3 E) hr (ev_v (i := 1) rfl va) hI rfl fun H9 e9 => ⟨_, pa_cons we_ok pa_nil, Ev.app (ev_oV (v := .ref tv) hu (ev_v (i := 2) rfl vo) (e9 _ _ ho_b)) fun xa Hd ed hxa => ?_⟩⟩)
          have hxa : xa = .ref tv := hxa
          subst hxa
          have ebd := e9.trans ed
          refine ⟨a, sg, cur, past, tv, fE es2, s2, by rw [h3] <;> rfl, ⟨dx, x, qp, xs9, ebd _ _ hI, hP.ex ebd⟩, tb_kp (tb_kp (S' := H4) tba kab) (.of ebd), ok, f2, os2, by omega, fun He ee she => ?_⟩
          refine Ev.app (ev_v (i := 5) (ρ := rI (turnsBy cur (fE es2) s2 : Int)) rfl fun _ => .int _) fun vc Hf ef hvc => ?_
          have hvc := Im.eint hvc
          subst hvc
          refine like fun vd Hg eg hvd => ?_
          have hvd := Im.ebl hvd
          subst hvd
          exact fin Hd Hg (((d0a.trans ((Dd.dr db).trans (.of ebd))).trans (dd_vo (vo_off ee (by simp)) out.2.2)).trans (.of (ef.trans eg))) (sb.ex ebd) ((ee.trans ef).trans eg) ⟨dx, _, ebd _ _ hI⟩ (owb.kp (.of ebd) fun _ z => ebd _ _ z) (she.ex (ef.trans eg))
      · rw [if_neg (by simp [h3])]
        exact w_end (last Ha 0 (.of (Ex.refl _)) (sa.mono (by omega)))) (fun _ _ _ _ _ _ us hl => match us, hl with | [_, _, _, _, _], _ => rfl)
end
end Lk

set_option maxHeartbeats 1000000
/-! NothingLeft(): made, raised. -/
namespace Lk
open PySem PySem.Spec PySem.Calls PyProof.Rows L2
open Evl (Ex)
section
open PySem.W
variable {P : Program} {w : World} {K : Frag} {C f cc cda : Addr} {mg : Str → Option Value} {A : Around} {R : Result → Shared → Prop}
theorem nl_init (F : NlK P K C f cc cda) {hp : Heap} {g : Array GenState} {d : Drawn} {t : Nat} {os : OsState} {e t0 : Addr} (X : K.In hp) (lim : hp.NoLimit) (gl : hp.Ns mainGlobals mg) (bl : ∃ mb, hp.Ns builtinsNs mb ∧ ∀ x : Str, x ≠ "__name__" → mb x = bootBuiltins x)
    (ms : mg "super" = none) (he : hp.get? e = some (HandSPX.excO C t0)) (eK : K.lookup e = none) (room : A.depth < recursionLimit)
    (q : ∀ h' tk t1, (∀ b o, b ≠ e → hp.get? b = some o → h'.get? b = some o) → h'.get? e = some (HandSPX.excO C t1) → R (.ok (.ret .none)) ⟨h', g, d, tk, os⟩) :
    codeAny (model P w) A (.call (.ref f) ⟨[.ref e], []⟩) R ⟨hp, g, d, t, os⟩ := by
  obtain ⟨oc, od, osl, kV, doc, pm, an, ct, lk⟩ := F.lk
  obtain ⟨ccl, cdd, vs, ccs, fl, tf, lc, hvs, hfl⟩ := F.file
  obtain ⟨cl, cld, csl, lcc⟩ := F.cell
  obtain ⟨mb, bln, blb⟩ := bl
  have X0 : K.In (hideAll hp [e]) := fun b o z => hideAll_get _ (X b o z) (by
    rw [List.mem_singleton]
    rintro rfl
    rw [eK] at z
    cases z)
  refine ks_codeAny_call_defAt (fd := ksFn "__init__" "NothingLeft.__init__" (defArgs S_NL) (defBody S_NL) (defScope S_NL) .none kV doc pm an (.ref cda) ct cc) (body := defBody S_NL) (binds := [("self", .ref e)]) room (X _ _ lk) rfl lim (codeRec_of X F.cod) rfl ?_ ?_ ?_ (fun h₁ hns kp => ?_) rfl rfl rfl
  · exact BindsTo.of_eq rfl
  · show ∀ x ∈ (defScope S_NL).names, x.2 ≠ .cell
    decide +kernel
  · intro x hx
    rw [List.mem_singleton.mp hx]
    rfl
  · have X1 : K.In h₁ := X.keeps kp
    have kl : hp.get? hp.objs.size = none := by
      cases z : hp.get? hp.objs.size with
      | none => rfl
      | some o => exact absurd (Heap.lt_size z) (Nat.lt_irrefl _)
    have F1 : Fr (hideAll hp [e]) hp.objs.size h₁ (fun x => [(("self" : Str), Value.ref e)].reverse.lookup x) := ⟨hns, fun b o z => kp b o (of_hideAll _ z), Nat.le_of_eq (hideAll_size _ _)⟩
    have N1 : News (hideAll hp [e]) hp.objs.size h₁ [(e, excObj C t0 none .none)] := fun p hp' => by
      rw [List.mem_singleton.mp hp']
      exact ⟨kp _ _ he, Nat.ne_of_lt (Heap.lt_size he), hideAll_none _ (List.mem_singleton.mpr rfl)⟩
    have hcl : ∃ cd, clsIn K C = some cd := by
      have z := F.exc
      unfold excInitIn at z
      split at z
      · rename_i dd cd sl ho
        exact ⟨cd, by unfold clsIn; rw [ho]⟩
      · cases z
    obtain ⟨cdC, hC⟩ := hcl
    obtain ⟨oD, hD1, hD2⟩ : ∃ oD, h₁.get? C = some oD ∧ oD.data = .cls cdC := by
      unfold clsIn at hC
      split at hC
      · rename_i c d cd' sl ho
        cases hC
        exact ⟨_, X1 _ _ ho, rfl⟩
      · cases hC
    have hC' : (PySem.W.clsIn K C).isSome = true := by rw [hC] <;> rfl
    refine ks_wpAt_execs_cons (ks_wpAt_Expr_any (ks_wpAt_MethodCall (pl := plainOf _ _) ?_))
    refine ks_wpAt_super_base (env := ksEnv "NothingLeft.__init__" (defScope S_NL) hp.objs.size f (.ref cda) cc) rfl rfl rfl rfl (X1 _ _ lk) rfl rfl rfl (X1 _ _ lc) rfl hvs hfl F.top ?_
    refine ks_loadName_global rfl rfl (loadGlobal_builtin (env := ksEnv "NothingLeft.__init__" (defScope S_NL) hp.objs.size f (.ref cda) cc) (gl.keeps kp) ms (bln.keeps kp) ((blb _ (by decide +kernel)).trans (show bootBuiltins "super" = some (.type "super") by decide +kernel)) ⟨rfl, ?_⟩)
    refine wpAny_loadName_free rfl rfl rfl ⟨_, X1 _ _ lcc, rfl⟩ ?_
    refine wpAny_loadName_local rfl rfl hns rfl ?_
    refine ks_wpAny_isType_cls hD1 hD2 ⟨rfl, ?_⟩
    have he1 := kp _ _ he
    refine ks_wpAny_call_super hD1 hD2 he1 rfl (fun c z => by cases z) (looks_mroIn X1 F.mro) (fun h2 so k2 => ?_)
    obtain ⟨F2, N2, l2⟩ := ks_newsPush (s := ⟨h₁, g, d, t + 1, os⟩) F1 N1 rfl so k2
    have I2 : InstAt h2 e (excObj C t0 none .none) C none := ⟨k2 _ _ he1, rfl, rfl, trivial⟩
    refine kxs_method (s := ⟨h2, g, d, _, os⟩) kxs_ValueError F2 X0 N2 (List.mem_cons_self ..) I2 F.opq F.sup F.sVE rfl (fun u h3 F3 N3 l3 => ?_)
    refine kxs_callWith1 (i := "ValueError.__init__") (x := e) N3 (List.mem_cons_self ..) (Calls.spliced_cons (Calls.Constant_str (k := 0) (pos := ⟨0, 0, 0, 0⟩) (Calls.spliced_nil ⟨kxs_at N3 (List.mem_cons_self ..), ?_⟩)))
    have m3 : ∀ p ∈ [(e, excObj C t0 none .none)], p.1 < hp.objs.size := fun p hp' => by rw [List.mem_singleton.mp hp']; exact Heap.lt_size he
    have eu : e ≠ u := Nat.ne_of_lt (l3 (e, excObj C t0 none .none) (List.mem_cons_of_mem _ (List.mem_cons_self ..)))
    have eso : e ≠ h₁.objs.size := Nat.ne_of_lt (Heap.lt_size he1)
    refine kxs_call (t := t0) (dv := none) (c2 := .none) F3 X0 N3 PySem.F.excBase_ValueError F.exc (List.mem_cons_self ..) (.tail eu.symm (.tail eso.symm (.head fun p z => by cases z))) (by show 1 ≤ sizeLine; rw [sizeLine_eq]; decide) (fun t' h4 F4 N4 l4 => ?_)
    refine wpAt_of_wpAny (wpAny_execs_nil (q h4 _ t' (fun b o nb z => F4.keep b o (hideAll_get _ z (by rw [List.mem_singleton]; exact nb))) ?_))
    exact (N4 (e, excObj C t' none .none) (by simp)).1
end
section
variable {X : Cx} {C f cc cda : Addr} {p pos : Pos}
/-- NothingLeft() -/
theorem pmk_nl (F : NlK X.prog X.K C f cc cda) (hr : Room 1 X.A) (hm : X.mg "NothingLeft" = some (.ref C)) (ms : X.mg "super" = none) (hg : Gl X "NothingLeft" := by rfl) : PMk X (.Call (.Name "NothingLeft" p) [] [] pos) (fun _ H Q => Q (.ref C) none H) := by
  intro pins s σ H Q I h
  obtain ⟨nm, N', qn, bs, bm, hdct, sn, sub, ab, col, dd, k0, k1, k2, k3, k5, hC, hT⟩ := PySem.W.excInit_of I.kIn F.exc
  refine wpAny_Call_Name_kw (ld_glob I hg hm ?_ (by decide))
  refine PySem.W.callWith_K0 I.kIn F.kC ?_
  show wpAny _ _ (call (.ref C) []) _ _ _
  obtain ⟨hp, g, dr, tk, os⟩ := s
  have kk : ∀ b o, hp.get? b = some o → ((hp.push (PySem.W.kdv_tup [])).push (PySem.HandSPX.excO C hp.objs.size)).get? b = some o := fun b o e => Heap.get?_push_of_some _ (Heap.get?_push_of_some _ e)
  have hget : ((hp.push (PySem.W.kdv_tup [])).push (PySem.HandSPX.excO C hp.objs.size)).get? (hp.objs.size + 1) = some (PySem.HandSPX.excO C hp.objs.size) := by heap_get
  have new : hp.get? (hp.objs.size + 1) = none := by
    cases z : hp.get? (hp.objs.size + 1) with
    | none => rfl
    | some o => exact absurd (Heap.lt_size z) (Nat.not_lt.mpr (Nat.le_succ _))
  have eK : X.K.lookup (hp.objs.size + 1) = none := by
    cases z : X.K.lookup (hp.objs.size + 1) with
    | none => rfl
    | some o =>
      have y := I.kIn _ _ z
      rw [new] at y
      cases y
  have gl : hp.Ns mainGlobals X.mg := I.mod.glob.keeps I.bk
  obtain ⟨mb, bl1, bl2⟩ := I.mod.blt
  refine wpAny_call (PySem.HandSPX.call_own PySem.F.excBase_ValueError hT hC (PySem.W.looks_findIn I.kIn F.ini) (fun self => PySem.W.bind_fn I.kIn self F.tyf) (Nat.zero_le _)
    (nl_init F (I.kIn.keeps kk) (I.nolimit.keeps kk) (gl.keeps kk) ⟨mb, (bl1.keeps I.bk).keeps kk, bl2⟩ ms hget eK (hr.make C [] []).depth fun h' tk' t1 kp ge => ?_))
  refine ⟨rfl, ?_⟩
  refine ⟨hp.objs.size + 1, _, _, ⟨hp, g, dr, tk, os⟩, H, .ref C, none, rfl, I, fun b o z => kp b o (fun e => by rw [e, new] at z; cases z) (kk b o z), new, ge, ⟨rfl, rfl⟩, rfl, rfl, I.hok.fresh (Nat.le_succ _), rfl, I.bare, raises_own F.sBE F.tyC, h⟩
end
end Lk

set_option maxHeartbeats 1000000
/-! undo of a shelf with no deed behind it: it raises. -/
namespace Lk
open PySem PySem.Spec PyProof.Rows L2
open Evl (Ex)
section
variable {P : Program} {w : World} {K : Frag} {mg : Str → Option Value} {base : Heap}
def p_undoX (K : Frag) : Sp := fun vs H _ E => ∃ (a : Addr) (sg : List Nat) (cur : Pe), vs = [.ref a] ∧ ShD K H a sg cur [] ∧ ∀ H', Ex H H' → E (.ref (He.ga K "NothingLeft")) none H'
theorem mk_undoX (E : En w K mg base) (nl : NlP P K) : ∃ fd, FnOk P w K mg base (L2.CX P w) 2 (He.fAd K ("Shelf", some "undo")) fd ["self"] (p_undoX K) ∧ Binds K fd ["self"] [] := by
  obtain ⟨fd, F⟩ := E.fn D_Shelf_undo (List.mem_of_getElem? (i := 35) rfl)
  obtain ⟨f, cc, cda, nl⟩ := nl
  refine ⟨fd, F.ok sc_Shelf_undo (fun vs H Q EE h => by obtain ⟨a, sg, cur, rfl, _⟩ := h; rfl) fun cdv Ar outer s H vs Q EE hr h => ?_, F.bindsN fun _ _ _ _ _ _ us hl => match us, hl with | [_], _ => rfl⟩
  obtain ⟨a, sg, cur, rfl, ⟨dx, x, qp, xs, h1, h2⟩, q⟩ := h
  have hu : (cxOf (L2.CX P w) P w K mg base N_Shelf_undo D_Shelf_undo.qual D_Shelf_undo.scope (He.fAd K D_Shelf_undo.at_) cdv Ar outer s H EE).A.units < cLine := by have := hu_of hr; exact Nat.lt_of_le_of_lt (Nat.le_succ _) this
  have hps := h2.ps
  have hq := h2.q
  have ex : xs = [] := by
    cases hps
    rfl
  subst ex
  refine w_yes (et_cmp (t := true) (op_eqT0 hu) (ev_opV E (ev_v (i := 0) rfl fun _ => rfl) h1) ev_unit (fun S x y H3 Q3 e3 e4 hx hy gg => ?_) (nomark _)) fun H1 e1 => w_cons ⟨_, ps_raise rfl (takes_of rfl rfl rfl rfl) (pmk_nl nl (hr.mono (by decide)) (E.glo 9) E.sup), q _ e1⟩
  have hx : x = .ref qp := hx
  subst hx
  obtain ⟨qe, xe, rfl, he1, he2⟩ := Im.etup hy
  cases he2
  exact ⟨qp, qe, [], rfl, rfl, SqT.of ((e3.trans e4) _ _ hq), SqT.of he1, gg.at (.bl _)⟩
end
end Lk

set_option maxHeartbeats 1000000
/-! try: .. except (A, B, C) as n: .., and the block behind it, where the error is still known. -/
namespace Lk
open PySem PySem.Spec PyProof.Rows L2
theorem fly_push {B h h' : Heap} {l : List Env} {a : Addr} {Z : Obj → Prop} (f : HandSPX.FlyingZ B l a Z h) (k : ∀ b o, h.get? b = some o → h'.get? b = some o) : HandSPX.FlyingZ B l a Z h' := by
  obtain ⟨f1, f2, f3, oe, vs, T, oT, ts, g1, g2, g3, g4, g5, g6, g7, g8, g9⟩ := f
  exact ⟨fun b o z => k b o (f1 b o z), f2, f3.of_keeps fun b o z _ => ⟨o, k b o z, rfl⟩, oe, vs, T, oT, ts, k _ _ g1, g2, g3, g4, g5, g6, k _ _ g7, g8, g9⟩
section
variable {X : Cx} {x1 x2 x3 n : Str} {c1 c2 c3 : Value} {i kk : Nat} {body suite rest : List Stmt} {b₀ : Stmt} {p1 p2 p3 tpos pos pos' : Pos} {tb : WX → TS}
/-- what the error of the body brings -/
def wSaid (X : Cx) (cs : List Value) (i : Nat) (su rest : List Stmt) (D : Ends) : WX := fun cls d σ H => PySem.W.exmAny X.K cls cs = some true ∧ ∀ (a : Addr) (oe : Obj) (pn : List (Addr × Obj)), H a = none → Zc cls d oe → (∃ vs, oe.data = .fields vs) →
  ∃ ts tr : TS, PSs (X.suite a ((a, oe) :: pn)) su ts ∧ PSs (X.tr ((a, oe) :: pn) X.xe) rest tr ∧ ts { nx := fun σ6 H6 => tr D (σ6.set i none) H6, rt := fun _ _ => False } (σ.set i (some (.ref a))) H
theorem pss_said (hs : X.stack = X.env :: X.outer) (hf : X.env.frame = some X.env.locals) (hN : X.N.Nodup) (hi : X.N[i]? = some n) (hln : X.env.kindOf n = some .local) (g1 : Gl X x1) (m1 : X.mg x1 = some c1) (g2 : Gl X x2) (m2 : X.mg x2 = some c2) (g3 : Gl X x3) (m3 : X.mg x3 = some c3)
    (hb : ∀ (W : WX) (pn : List (Addr × Obj)) (xe : Value → Shared → Prop), Takes (X.tr pn xe) W → PassesOwn (model X.prog X.w) X.A X.env xe → PSs (X.tr pn xe) body (tb W))
    (d1 : (x1 == ("__debug__" : Str)) = false := by decide) (d2 : (x2 == ("__debug__" : Str)) = false := by decide) (d3 : (x3 == ("__debug__" : Str)) = false := by decide)
    (he : starEach [.Name x1 p1, .Name x2 p2, .Name x3 p3] X.env = (false, eval (.Name x1 p1) X.env) :: (false, eval (.Name x2 p2) X.env) :: (false, eval (.Name x3 p3) X.env) :: [] := by rfl) :
    PSs X (.Try body [.ExceptHandler (some (.Tuple [.Name x1 p1, .Name x2 p2, .Name x3 p3] kk tpos)) (some n) (b₀ :: suite) pos'] [] [] pos :: rest) (fun D σ H => tb (wSaid X [c1, c2, c3] i (b₀ :: suite) rest D) { nx := fun _ _ => False, rt := fun _ _ => False } σ H) := by
  refine ⟨fun pins s σ H D I h => ?_⟩
  have ok := I.ok
  have fr : X.A.frames = some (X.env :: X.outer) := by rw [ok.frames, hs]
  have lc : Loc X.env.scope n := .inl hln
  refine wpAny_execs_cons (wpAny_Try_except ?_)
  refine wpAny_mono ((hb (wSaid X [c1, c2, c3] i (b₀ :: suite) rest D) (X.pn ++ pins) _ (fun u s' xx => ?_) PassesOwn.looking).run [] s σ H _ (I.toTry _) h) (fun f s1 hsp => ?_) (fun e s1 z => z)
  · obtain ⟨a, B, sI, pins', σ', H', cls, d, rfl, J', nb, up, sky, na, os, ag, ex, sat⟩ := xx
    have J : Inv X pins σ' H' sI := J'.ofTry ok
    have sk : Sky B (X.env :: X.outer) a (Zc cls d) X.env.locals s'.heap := by rw [← hs]; exact sky
    show wpAny (model X.prog X.w) X.A (noteFrame (.ref a) X.env) _ _ _
    refine Sky.land Zc.steady fr hf sk fun h3 fl3 up3 => ?_
    have J3 : Inv X pins σ' H' { s' with heap := h3 } := J.landed nb fl3.1 (up.trans up3) os ag
    obtain ⟨oe3, vs3, he3, hz3, hd3⟩ := fl3.there
    have off : ∀ {h : Heap} {o : Obj} {vs : Array Value}, h.FunFrames B (X.env :: X.outer) → h.get? a = some o → o.data = .fields vs → a ∉ frs (X.env :: X.outer) := by
      intro h o vs ff e dd hm
      obtain ⟨_, o', e', hnf⟩ := ff.mem hm
      rw [e] at e'
      cases e'
      exact hnf _ dd
    have nfr := off fl3.2.2.1 he3 hd3
    have nL : a ≠ X.env.locals := by
      intro z
      exact nfr (List.mem_filterMap.mpr ⟨X.env, List.mem_cons_self, by rw [hf, z]⟩)
    have nF : a ∉ X.fs := by
      intro hm
      obtain ⟨e, he, q⟩ := List.mem_filterMap.mp hm
      exact nfr (List.mem_filterMap.mpr ⟨e, List.mem_cons_of_mem _ he, q⟩)
    have S3 := J3.suite he3 hd3 na nL nF
    refine wpAny_handleBy_cons (codeAny_handlers_test ?_) (by intro q; cases q)
    refine wpAny_Tuple_spliced ?_
    rw [he]
    refine Calls.spliced_cons (ld_glob (X := X.suite a ((a, oe3) :: (X.pn ++ pins))) S3 g1 m1 ?_ d1)
    refine Calls.spliced_cons (ld_glob (X := X.suite a ((a, oe3) :: (X.pn ++ pins))) S3 g2 m2 ?_ d2)
    refine Calls.spliced_cons (ld_glob (X := X.suite a ((a, oe3) :: (X.pn ++ pins))) S3 g3 m3 ?_ d3)
    refine Calls.spliced_nil ⟨sz6 (by simp), ?_⟩
    show wpAny _ _ (excMatches (.ref a) (.ref h3.objs.size)) _ _ { s' with heap := h3.push { cls := .type "tuple", data := .seq [c1, c2, c3].toArray } }
    have kp : ∀ b o, h3.get? b = some o → (h3.push { cls := .type "tuple", data := .seq [c1, c2, c3].toArray }).get? b = some o := fun b o e => Heap.get?_push_of_some _ e
    have tp : (h3.push { cls := .type "tuple", data := .seq [c1, c2, c3].toArray }).get? h3.objs.size = some { cls := .type "tuple", data := .seq [c1, c2, c3].toArray } := Heap.get?_push_at rfl rfl
    generalize h3.push { cls := .type "tuple", data := .seq [c1, c2, c3].toArray } = h5 at kp tp
    have LT : PySem.W.Looks (model X.prog X.w) h5 (typeOf (.ref a)) cls := fun A Q E s k q => wpAny_typeOf_ref (k _ _ (kp _ _ he3)) (by rw [hz3.1]; exact q)
    refine (PySem.W.exm_tup3 (M := model X.prog X.w) ((J3.kIn).keeps kp) LT tp ex).here ?_
    have fl5 := fly_push fl3 kp
    have up5 : s'.heap.UpToSlots h5 := up3.trans (Heap.UpToSlots.of_keeps kp)
    refine codeAny_handlers_suite_as ?_
    refine HandSPX.lands_againZ fl5 fun h4 fl4 up4 => ?_
    have J4 : Inv X pins σ' H' { s' with heap := h4 } := J.landed nb fl4.1 ((up.trans up5).trans up4) os ag
    obtain ⟨oe4, vs4, he4, hz4, hd4⟩ := fl4.there
    have S4 := J4.suite he4 hd4 na nL nF
    obtain ⟨ts, tr, w1, w2, w3⟩ := sat a oe4 (X.pn ++ pins) na hz4 ⟨_, hd4⟩
    refine store_ok (X := X.suite a ((a, oe4) :: (X.pn ++ pins))) (v := .ref a) S4 hN hi lc rfl (fun s5 S5 => ?_) (.inr hln)
    refine wpAny_mono (w1.run [] s5 _ H' _ S5 w3) (fun f s6 hsp => ?_) (fun _ _ z => z.elim)
    match f, hsp with
    | .next, ⟨σ6, H6, S6, q6⟩ =>
      have Y : Inv (X.tr ((a, oe4) :: (X.pn ++ pins)) X.xe) [] σ6 H6 s6 := ⟨ok.toTry _ _, S6.os, S6.bare, S6.base, S6.loc, S6.cell, S6.free, S6.freeC, S6.pin, S6.hok, S6.len⟩
      refine gone_ok (X := X.tr ((a, oe4) :: (X.pn ++ pins)) X.xe) Y hN hi hln fun s7 Y7 => ?_
      refine wpAny_mono (w2.run [] s7 _ H6 D Y7 q6) (fun fl s8 hq => ?_) (fun _ _ z => z)
      have back : ∀ {σ8 : L2.St} {H8 : Hp} {pq : List (Addr × Obj)}, Inv (X.tr ((a, oe4) :: (X.pn ++ pins)) X.xe) pq σ8 H8 s8 → Inv X pins σ8 H8 s8 := fun Z => ⟨ok, Z.os, Z.bare, Z.base, Z.loc, Z.cell, Z.free, Z.freeC, fun p hp => Z.pin p (List.mem_append_left _ (List.mem_cons_of_mem _ hp)), Z.hok, Z.len⟩
      match fl, hq with
      | .next, ⟨σ8, H8, Z, q8⟩ => exact ⟨σ8, H8, back Z, q8⟩
      | .brk, ⟨σ8, H8, Z, q8⟩ => exact ⟨σ8, H8, back Z, q8⟩
      | .cont, ⟨σ8, H8, Z, q8⟩ => exact ⟨σ8, H8, back Z, q8⟩
      | .ret v, ⟨v8, σ8, H8, Z, r8, q8⟩ => exact ⟨v8, σ8, H8, back Z, r8, q8⟩
    | .brk, ⟨_, _, _, z⟩ => exact z.elim
    | .cont, ⟨_, _, _, z⟩ => exact z.elim
    | .ret v, ⟨_, _, _, _, _, z⟩ => exact z.elim
  · match f, hsp with
    | .next, ⟨_, _, _, z⟩ => exact z.elim
    | .brk, ⟨_, _, _, z⟩ => exact z.elim
    | .cont, ⟨_, _, _, z⟩ => exact z.elim
    | .ret v, ⟨_, _, _, _, _, z⟩ => exact z.elim
end
end Lk

set_option maxHeartbeats 1000000
/-! _law_said, where what it calls raises NothingLeft. -/
namespace Lk
open PySem PySem.Spec PyProof.Rows L2
open Evl (Ex)
/-- isinstance of the error that is pinned -/
theorem call_isE1 {X : Cx} {a D : Addr} {oe : Obj} {pn : List (Addr × Obj)} {xe : Value → Shared → Prop} (C : ExcC X.K D) (hz : Zc (.ref D) none oe) (hf : ∃ vs, oe.data = .fields vs) : CallR (X.tr ((a, oe) :: pn) xe) (.builtin "isinstance") (rIsE X.K D a) := fun pins s σ H xs us Q I r h => by
  obtain ⟨c, cv, b, rfl, hcv, e, q⟩ := h
  match us, r with
  | [u1, u2], .cons rx (.cons rt .nil) =>
    cases rx
    have ec := hcv _ rt
    subst ec
    have pin := (I.pin (a, oe) (List.mem_append.mpr (.inl List.mem_cons_self))).1
    obtain ⟨vs, hv⟩ := hf
    have J : PySem.W.InstAt s.heap a oe D none := by
      obtain ⟨oc, od, oda, osl⟩ := oe
      obtain ⟨z1, z2⟩ := hz
      dsimp only at z1 z2 hv
      subst z1 z2 hv
      exact ⟨pin, rfl, rfl, trivial⟩
    exact PySem.W.kia_one (PySem.W.handS_kitx_exc C.hg C.hk C.hs C.hd C.ha C.hn C.ht C.hm) I.kIn J e (fun z => nomatch z) fun tk => ⟨.bl b, H, I.kept (t' := tk) fun _ _ z => z, rfl, q⟩
/-- the answer -/
def nothL : List Nat := [110, 111, 116, 104, 105, 110, 103]
theorem noth_eq : ("nothing" : Str) = T nothL := by decide +kernel
def wNl (K : Frag) (Q : VK) : XK := fun cls d H' => cls = .ref (He.ga K "NothingLeft") ∧ d = none ∧ Go (rT [.str (T nothL)]) H' Q
def TTsaid (K : Frag) : (XK → Hp → VK → Prop) → Hp → VK → Prop := fun tl H Q => ∀ H1, Ex H H1 → tl (wNl K Q) H1 (fun _ _ => False)
section
variable {X : Cx} {w : World} {g : Addr} {cdg : Value} {q : Str}
theorem said_gives (E : En w X.K X.mg X.base) (N : NlS X.K) : LamX.GivesTo X N__law_said "_law_said" (defScope S__law_said) g cdg (defBody S__law_said) "_law_call" q (TTsaid X.K) := by
  intro f c' s H0 Q tl act hc h
  generalize hX0 : cxOf C8.CX0 X.prog X.w X.K X.mg X.base N__law_said "_law_said" (defScope S__law_said) g cdg X.A X.stack s H0 C8.E0 = X0 at act
  have go : Wm X0.nox (defBody S__law_said) { nx := fun _ H' => Q .non H', rt := Q } (L2.start N__law_said [.ref f]) H0 := by
    subst hX0
    refine w_par (i := 1) (j := 2) rfl sc__law_said.nd ev_nil ev_non (by decide) fun v1 v2 H1 e1 hv1 hv2 => ?_
    have hv2 := Im.enon hv2
    subst hv2
    refine ⟨_, pss_said (i := 3) (c1 := .ref (He.ga X.K "OrderError")) (c2 := .ref (He.ga X.K "Missing")) (c3 := .ref (He.ga X.K "TooMany")) rfl rfl sc__law_said.nd rfl rfl rfl (E.glo 0) rfl (E.glo 10) rfl (E.glo 11)
      (tb := fun W D σ H => ∃ Ech : XK, (∀ cls d σ' H', Ech cls d H' → σ'.length = 5 → W cls d σ' H') ∧ σ[0]? = some (some (.ref f)) ∧ H c' = some (LamX.CodeO c' q) ∧ tl Ech H (fun _ _ => False))
      (fun W pn xe tk _ => ⟨fun pins s' σ H' D I h' => ?_⟩), ?_⟩
    · obtain ⟨Ech, hW, h1, h2, h3⟩ := h'
      have tk' : Takes ((cxOf C8.CX0 X.prog X.w X.K X.mg X.base N__law_said "_law_said" (defScope S__law_said) g cdg X.A X.stack s H0 C8.E0).tr pn xe) (fun cls d σ H => σ.length = 5 → W cls d σ H) := fun u s' ⟨a, B, sI, pins, σ, H, cls, d, e, I, nb, up, sky, na, os, ag, w⟩ => tk u s' ⟨a, B, sI, pins, σ, H, cls, d, e, I, nb, up, sky, na, os, ag, w I.len⟩
      have hp := fun (p1 p2 : Pos) => act (fun cls d σ H => σ.length = 5 → W cls d σ H) pn xe Ech p1 p2 tk' (fun cls d σ' H' z => hW cls d σ' H' z)
      have hp2 : ∀ p1 p2 : Pos, PE ((cxOf C8.CX0 X.prog X.w X.K X.mg X.base N__law_said "_law_said" (defScope S__law_said) g cdg X.A X.stack s H0 C8.E0).tr pn xe) (.Call (.Name "_law_call" p1) [] [] p2) (fun σZ HZ _ => σZ[0]? = some (some (.ref f)) ∧ HZ c' = some (LamX.CodeO c' q) ∧ tl Ech HZ (fun _ _ => False)) :=
        fun p1 p2 => ⟨fun pins s σ H Q I z => wpAny_mono ((hp p1 p2).run pins s σ H _ I z) (fun v s' hv => by obtain ⟨_, _, _, _, y⟩ := hv; exact y.elim) fun _ _ z => z⟩
      exact (pss_one (ps_set (i := 1) sc__law_said.nd rfl (.inl rfl) (pe_lst (pa_cons (hp2 _ _) pa_nil)))).run pins s' σ H' D I ⟨h1, h2, h3⟩
    · refine ⟨wNl X.K Q, fun cls d σ' H' hE hl => ?_, rfl, e1 _ _ hc, h H1 e1⟩
      obtain ⟨rfl, rfl, gq⟩ := hE
      refine ⟨?_, fun a oe pn na hz hfd => ⟨Wm _ _, Wm _ _, wm_ok, wm_ok, ?_⟩⟩
      · show PySem.W.exmAny X.K _ _ = _
        simp only [PySem.W.exmAny, N.one, N.two, N.three, Bool.or_false]
      · match σ', hl with
        | [a0, a1, a2, a3, a4], _ =>
          refine w_set (i := 2) sc__law_said.nd (ev_v (i := 3) (ρ := rV (.ref a)) rfl fun _ => rfl) fun v H2 e2 hv => w_end ?_
          have hv : v = .ref a := hv
          subst hv
          have isi : ∀ {pos p p1 p2 : Pos} {D : Str} {σ : L2.St} {H : Hp} (b : Bool), σ[2]? = some (some (.ref a)) → X.mg D = some (.ref (He.ga X.K D)) → PySem.W.kitOne X.K (.ref (He.ga X.K "NothingLeft")) (.ref (He.ga X.K D)) = some b → (hgD : Gl (((cxOf C8.CX0 X.prog X.w X.K X.mg X.base N__law_said "_law_said" (defScope S__law_said) g cdg X.A X.stack s H0 C8.E0).nox.tr ((a, oe) :: pn) (cxOf C8.CX0 X.prog X.w X.K X.mg X.base N__law_said "_law_said" (defScope S__law_said) g cdg X.A X.stack s H0 C8.E0).nox.xe)) D := by rfl) → (hdD : (D == ("__debug__" : Str)) = false := by decide) →
              Ev ((cxOf C8.CX0 X.prog X.w X.K X.mg X.base N__law_said "_law_said" (defScope S__law_said) g cdg X.A X.stack s H0 C8.E0).nox.tr ((a, oe) :: pn) (cxOf C8.CX0 X.prog X.w X.K X.mg X.base N__law_said "_law_said" (defScope S__law_said) g cdg X.A X.stack s H0 C8.E0).nox.xe) (.Call (.Name "isinstance" p) [.Name "_law_error" p1, .Name D p2] [] pos) σ H (rB b) := fun {pos p p1 p2 D σ H} b hσ hm hk hgD hdD =>
            ev_cb (call_isE1 N.ex hz hfd) E.isi (by decide +kernel) (eac (ev_v (i := 2) (ρ := rV (.ref a)) hσ fun _ => rfl) (eac (ev_glo hm hgD hdD) ea0)) fun S vs H2 Q2 _ _ hv gg => by
              obtain ⟨v, w, rfl, r1, r2⟩ := two_arg hv
              have r1 : v = .ref a := r1
              have r2 : w = .ref _ := r2
              subst r1 r2
              exact ⟨_, _, b, rfl, fun _ z => z, hk, gg.at (.bl _)⟩
          refine w_no (et_cmp (t := false) op_isN (ev_v (i := 2) (ρ := rV (.ref a)) rfl fun _ => rfl) ev_non (fun S x y H3 Q3 _ _ hx hy gg => ?_) (nomark _)) fun H3 e3 => ?_
          · have hx : x = .ref a := hx
            subst hx
            exact ⟨Im.enon hy, gg.at (.bl _)⟩
          refine w_set (i := 4) sc__law_said.nd ev_nil fun v4 H4 e4 ⟨l, xs, ev, l0, hl4, im⟩ => ?_
          subst ev
          cases im
          refine w_no (et_v (isi (D := "BadText") false rfl (E.glo 3) (N.no _ (by simp)))) fun H5 e5 => ?_
          refine w_no (et_v (isi (D := "BadStrength") false rfl (E.glo 4) (N.no _ (by simp)))) fun H6 e6 => ?_
          refine w_no (et_v (isi (D := "BadPlace") false rfl (E.glo 7) (N.no _ (by simp)))) fun H7 e7 => ?_
          refine w_no (et_v (isi (D := "BadWidth") false rfl (E.glo 8) (N.no _ (by simp)))) fun H8 e8 => ?_
          refine w_no (et_v (isi (D := "BadPaper") false rfl (E.glo 5) (N.no _ (by simp)))) fun H9 e9 => ?_
          refine w_no (et_v (isi (D := "Missing") false rfl (E.glo 10) (N.no _ (by simp)))) fun H10 e10 => ?_
          refine w_no (et_v (isi (D := "TooMany") false rfl (E.glo 11) (N.no _ (by simp)))) fun H11 e11 => ?_
          refine w_no (et_v (isi (D := "OtherSigns") false rfl (E.glo 6) (N.no _ (by simp)))) fun H12 e12 => ?_
          have e414 := ((((((e5.trans e6).trans e7).trans e8).trans e9).trans e10).trans e11).trans e12
          refine w_yes (et_v (isi (D := "NothingLeft") true rfl (E.glo 9) N.yes)) fun H13 e13 => ?_
          have l13 := (e414.trans e13) _ _ hl4
          refine w_app (a := l) (xs := []) (ev_v (i := 4) rfl fun _ => rfl) (ev_t1 (ev_d ev_str (congrArg PyData.str noth_eq))) l13 (by simp) fun v14 H14 e14 hv14 => w_end ?_
          have n14 := e14 _ _ l13
          have im14 : Ims (upd H14 l (.lst ([] ++ [v14]))) [v14] [.tuple [.str (T nothL)]] := .one (hv14.tu (d := _) (tu_upd n14 fun _ z => by cases z))
          refine w_ret (ρ := rT [.str (T nothL)]) (ev_if (et_cmp (t := true) op_eq (ev_len (ds := [.tuple [.str (T nothL)]]) E.len (ev_ql (ev_v (i := 4) rfl fun _ => ⟨l, _, rfl, upd_same, im14⟩))) (ev_int (i := 1)) r_eqi (nomark _)) (fun _ => ev_ixl (ds := [.tuple [.str (T nothL)]]) (ev_v (i := 4) rfl fun _ => ⟨l, _, rfl, upd_same, im14⟩) ev_int rfl) fun z => by cases z) fun v H15 e15 hv15 => ?_
          exact gq v H15 ((Ex.mut ((((e2.trans e3).trans e4).trans (e414.trans e13)).trans e14) (Evl.fresh_back (e2.trans e3) l0)).trans e15) hv15
  obtain ⟨t, h1, h2⟩ := go
  subst hX0
  exact ⟨t, h1, h2⟩
end
end Lk

set_option maxHeartbeats 1000000
/-! _law_undone. -/
namespace Lk
open PySem PySem.Spec PyProof.Rows L2
open Evl (Ex)
/-- all but those at vs, and tables, stay -/
def Vn (vs : List Addr) (H H' : Hp) : Prop := ∀ b u, H b = some u → b ∉ vs → (∀ ps, u ≠ .tbl ps) → H' b = some u
structure Dn (m g : Addr) (vs : List Addr) (H H' : Hp) : Prop where
  ex : ∀ b u, H b = some u → b ≠ m → b ≠ g → b ∉ vs → (∀ ps, u ≠ .tbl ps) → H' b = some u
  em : H g = some (.lst []) → H' g = some (.lst [])
section
variable {vs ws : List Addr} {H H1 H' : Hp} {a o m c g : Addr} {r : Nat}
theorem Vo.vn (v : Vo vs H H') : Vn vs H H' := fun b u h n _ => v b u h n
theorem Vn.of (e : Ex H H') : Vn vs H H' := fun b u h _ _ => e b u h
theorem vn_ext (e : LamX.ExtN H H') : Vn vs H H' := fun b u h _ n => e b u h n
theorem Vn.trans (x : Vn vs H H1) (y : Vn vs H1 H') : Vn vs H H' := fun b u h n t => y b u (x b u h n t) n t
theorem vn_upd {u : HO} (e : Vn vs H H') (ha : a ∈ vs) : Vn vs H (upd H' a u) := fun b w h n t => by
  rw [upd_ne fun z => n (by rw [z]; exact ha)]
  exact e b w h n t
theorem cst_tbl {u : HO} (h : Cst u) : ∀ ps, u ≠ .tbl ps := fun ps z => by
  subst z
  exact h
theorem kp_ext (e : LamX.ExtN H H') : Kp H H' := fun b u h cu => e b u h (cst_tbl cu)
theorem Dd.dn (d : Dd m g vs H H') : Dn m g vs H H' := ⟨fun b u h h1 h2 h3 _ => d.ex b u h h1 h2 h3, d.em⟩
theorem Dn.of (e : Ex H H') : Dn m g vs H H' := ⟨fun b u h _ _ _ _ => e b u h, fun h => e _ _ h⟩
theorem Dn.trans (x : Dn m g vs H H1) (y : Dn m g vs H1 H') : Dn m g vs H H' := ⟨fun b u h h1 h2 h3 h4 => y.ex b u (x.ex b u h h1 h2 h3 h4) h1 h2 h3 h4, fun h => y.em (x.em h)⟩
theorem dn_vn (e : Vn vs H H') (hg : g ∉ vs) : Dn m g vs H H' := ⟨fun b u h _ _ n t => e b u h n t, fun h => e _ _ h hg fun ps z => by cases z⟩
theorem dn_fresh (d : Dn m g (vs ++ ws) H H') (h : ∀ x ∈ ws, H x = none) : Dn m g vs H H' := ⟨fun b u z h1 h2 h3 h4 => d.ex b u z h1 h2 (fun q => (List.mem_append.mp q).elim h3 fun q => by rw [h b q] at z; cases z) h4, d.em⟩
theorem Dn.mono (a : Dn m g vs H H') (h : ∀ x ∈ vs, x ∈ ws) : Dn m g ws H H' := ⟨fun x u z h1 h2 h3 h4 => a.ex x u z h1 h2 (fun q => h3 (h x q)) h4, a.em⟩
theorem mst_kpn (s : Mst m c g H r) (hv : ∀ v ∈ vs, ∀ u, H v = some u → ¬ Cst u) (d : Dn m g vs H H') : Kp H H' := fun b u h cu => by
  by_cases e : b = g
  · subst e
    obtain ⟨_, _, ⟨gs, hg⟩, _⟩ := s
    rw [hg] at h
    cases h
    cases gs with
    | nil => exact d.em hg
    | cons x gs =>
      rcases cu (V.int x) (by simp) with ⟨s, z⟩ | ⟨q, z⟩ <;> cases z
  · exact d.ex b u h (fun z => mst_notM s (z ▸ h) cu) e (fun z => hv b z u h cu) (cst_tbl cu)
theorem mst_vn (st : Mst m c g H r) (v : Vn vs H H') (n : m ∉ vs ∧ c ∉ vs ∧ g ∉ vs) : Mst m c g H' r := by
  obtain ⟨⟨k, a1, a2⟩, ⟨cs, a3, a4⟩, ⟨gs, a5⟩, ne⟩ := st
  exact ⟨⟨k, v _ _ a1 n.1 (fun ps z => by cases z), a2⟩, ⟨cs, a3, v _ _ a4 n.2.1 fun ps z => by cases z⟩, ⟨gs, v _ _ a5 n.2.2 fun ps z => by cases z⟩, ne⟩
/-- the table of _law_undone's code objects -/
def Tq (K : Frag) : List (Addr × Str) := [((He.cT K udn).2, "_law_undone.<locals>.<lambda>")]
abbrev Tb (K : Frag) (H : Hp) : Prop := LamX.Tabs (Tq K) H
theorem tabs_dn {K : Frag} (t : Tb K H) (v : Dd m g vs H H') (s : Mst m c g H r) (hv : ∀ x ∈ vs, ∀ u, H x = some u → ¬ Cst u ∧ ∀ ps, u ≠ .tbl ps) : Tb K H' := by
  have kp : Kp H H' := mst_kp s (fun x hx u h => (hv x hx u h).1) v
  intro p hp
  obtain ⟨ps, h1, h2, h3⟩ := t p hp
  refine ⟨ps, v.ex _ _ h1 ?_ ?_ (fun z => (hv _ z _ h1).2 ps rfl), h2, fun pos cv hc => ?_⟩
  · rintro rfl
    obtain ⟨⟨n, hm, _⟩, _⟩ := s
    cases hm.symm.trans h1
  · rintro rfl
    obtain ⟨_, _, ⟨gs, hg⟩, _⟩ := s
    cases hg.symm.trans h1
  · obtain ⟨c, e1, e2⟩ := h3 pos cv hc
    exact ⟨c, e1, kp _ _ e2 trivial⟩
theorem tabs_vo {K : Frag} (t : Tb K H) (v : Vo vs H H') (hv : ∀ x ∈ vs, ∀ u, H x = some u → ¬ Cst u ∧ ∀ ps, u ≠ .tbl ps) : Tb K H' := by
  have kp : Kp H H' := kp_vo (fun x hx u h => (hv x hx u h).1) v
  intro p hp
  obtain ⟨ps, h1, h2, h3⟩ := t p hp
  refine ⟨ps, v _ _ h1 (fun z => (hv _ z _ h1).2 ps rfl), h2, fun pos cv hc => ?_⟩
  obtain ⟨c, e1, e2⟩ := h3 pos cv hc
  exact ⟨c, e1, kp _ _ e2 trivial⟩
theorem tabs_ex {K : Frag} (t : Tb K H) (e : Ex H H') : Tb K H' := t.ext e
theorem St.hv {K : Frag} {sg : List Nat} {n1 N : Nat} {cur : Pe} {past : List Pe} (S : St K H a o sg n1 N cur past) : ∀ x ∈ [a, o], ∀ u, H x = some u → ¬ Cst u ∧ ∀ ps, u ≠ .tbl ps := fun x hx u h => by
  simp only [List.mem_cons, List.not_mem_nil, or_false] at hx
  rcases hx with rfl | rfl
  · refine ⟨S.sh.not h, fun ps z => ?_⟩
    obtain ⟨dx, x0, q, xs, h1, _⟩ := S.sh
    subst z
    cases h1.symm.trans h
  · refine ⟨S.ow.not h, fun ps z => ?_⟩
    obtain ⟨kn, tx, pl, ws, h1, _⟩ := S.ow
    subst z
    cases h1.symm.trans h
theorem PoR.last {K : Frag} {sg : List Nat} {n1 : Nat} {p : Pe} : ∀ (ps : List Pe) {xs : List V}, PoR K H sg n1 xs (ps ++ [p]) → ∃ ys v, xs = ys ++ [v] ∧ PoR K H sg n1 ys ps ∧ ∃ q kn tx, v = .ref q ∧ H q = some (.tup [.ref p.tv, .ref kn, .int p.s, .ref tx]) ∧ LoR K H sg n1 p kn tx
  | [], _, h => by
    cases h with
    | cons h1 h2 =>
      cases h2
      exact ⟨[], _, rfl, .nil, h1⟩
  | q :: ps, _, h => by
    cases h with
    | cons h1 h2 =>
      obtain ⟨ys, v, rfl, y1, y2⟩ := PoR.last ps h2
      exact ⟨_ :: ys, v, rfl, .cons h1 y1, y2⟩
end
end Lk

set_option maxHeartbeats 1000000
/-! The promise of _law_undone. -/
namespace Lk
open PySem PySem.Spec PyProof.Rows L2
open Evl (Ex)
theorem oD_putP2 (sg : List Nat) (kn : Addr) (s : Int) (tx pl pl2 tb : Addr) : putK (oD sg kn s tx pl tb) kyPa (.ref pl2) = oD sg kn s tx pl2 tb := by rfl
theorem oD_putX2 (sg : List Nat) (kn : Addr) (s : Int) (tx tx2 pl tb : Addr) : putK (oD sg kn s tx pl tb) kyTx (.ref tx2) = oD sg kn s tx2 pl tb := by rfl
section
variable {X : Cx} {σ : L2.St} {H H' : Hp} {e a b c o tg : Expr} {pos p2 : Pos} {ρ : Rp} {D : Ends} {rest : List Stmt}
/-- l[-1] of a list of any values -/
theorem ev_lastL {q : Addr} {xs : List V} {v : V} {i : Int} (ha : Ev X a σ H (rV (.ref q))) (hq : H q = some (.lst xs)) (hb : Ev X b σ H (rI i)) (h : atI xs i = some v) (hs : PlainIx b := by exact fun _ _ => rfl) : Ev X (.Subscript a b pos) σ H (rV v) := fun H1 e1 Q g =>
  ⟨_, pe_ix ix_list we_ok we_ok hs, ha H1 e1 _ fun x H2 e2 h2 => hb H2 (e1.trans e2) _ fun y H3 e3 h3 => by
    have h2 : x = .ref q := h2
    have h3 := Im.eint h3
    subst h2 h3
    exact ⟨q, xs, i, v, rfl, rfl, SqL.of (((e1.trans e2).trans e3) _ _ hq), h, g v H3 (e2.trans e3) rfl⟩⟩
end
section
variable {P : Program} {w : World} {K : Frag} {mg : Str → Option Value} {base : Heap}
theorem vn_of_vo {vs ws : List Addr} {H H' : Hp} (v : Vo vs H H') (h : ∀ x ∈ vs, x ∈ ws) : Vn ws H H' := fun b u z n _ => v b u z fun q => n (h b q)
theorem vn_mono {vs ws : List Addr} {H H' : Hp} (v : Vn vs H H') (h : ∀ x ∈ vs, x ∈ ws) : Vn ws H H' := fun b u z n t => v b u z (fun q => n (h b q)) t
abbrev p_undone (K : Frag) : Sp := fun vs H Q _ => ∃ (a o : Addr) (sg : List Nat) (n1 N : Nat) (cur : Pe) (past : List Pe), vs = [.ref a, .ref o] ∧ Tb K H ∧ St K H a o sg n1 N cur past ∧
  ((past = [] ∧ ∀ H', Vn [a, o] H H' → Tb K H' → St K H' a o sg n1 N cur past → Q (.bl true) H') ∨
   ∃ past' p, past = past' ++ [p] ∧ ∀ H', Vn [a, o] H H' → Tb K H' → St K H' a o sg n1 N p past' → Q (.bl true) H')
theorem mk_undone (E : En w K mg base) (nl : NlP P K) (ns : NlS K) (TB : LamX.TabB base mg (He.cT K udn).1 (He.cT K udn).2) : Cal P w K mg base "_law_undone" 7 [] (p_undone K) := by
  obtain ⟨fd, F⟩ := E.fn D__law_undone (List.mem_of_getElem? (i := 62) rfl)
  have hb := F.bindsN (ps := A__law_undone) fun _ _ _ _ _ _ us hl => match us, hl with | [_, _], _ => rfl
  have hkp := F.kp
  obtain ⟨oc, od, dV, kV, doc, pm, an, cdv, ct, osl, rfl, lk, cod, _, _⟩ := F.ex
  obtain ⟨cd, rfl⟩ := He.codeIn_ref cod
  have ec : (He.cT K udn).1 = cd := He.codeOf_eq lk rfl
  rw [ec] at TB
  refine ⟨He.fAd K D__law_undone.at_, _, A__law_undone, [], fn_of (k := 6) lk cod sc__law_undone (fun vs H Q EE h => by obtain ⟨a, o, sg, n1, N, cur, past, rfl, _⟩ := h; rfl) (fun Ar outer s H vs Q EE hr h => ?_), E.glo 59, hkp, hb, .nil⟩
  have go : Wm (Bx P w K mg base N__law_undone D__law_undone (.ref cd) Ar outer s H EE) D__law_undone.body { nx := fun _ H' => Q .non H', rt := Q } (start N__law_undone vs) H := by
    obtain ⟨a, o, sg, n1, N, cur, past, rfl, T0, S, q⟩ := h
    have hu := hu_of hr
    have ao := S.ne
    have va : ∀ {Hx : Hp} S, (rV (.ref a)).r S (.ref a) Hx := fun _ => rfl
    have vo : ∀ {Hx : Hp} S, (rV (.ref o)).r S (.ref o) Hx := fun _ => rfl
    obtain ⟨sh, ⟨kn, tx, pl, ws, ho, hpl, hpo, hl⟩, okA, lz⟩ := id S
    have test : ∀ t, past.isEmpty = t → Et (Bx P w K mg base N__law_undone D__law_undone (.ref cd) Ar outer s H EE) (.Compare (.Subscript (.Name "_law_own_here" ⟨477, 7, 477, 20⟩) (.Constant (.str "past") 0 ⟨477, 21, 477, 27⟩) ⟨477, 7, 477, 28⟩) [.Eq] [.List [] ⟨477, 32, 477, 34⟩] ⟨477, 7, 477, 34⟩) (start N__law_undone [.ref a, .ref o]) H t := fun t ht =>
      et_cmp (t := t) (op_eqL0 (Nat.lt_of_le_of_lt (Nat.le_succ _) hu)) (ev_oV (v := .ref pl) hu (ev_v (i := 1) rfl vo) ho) ev_nil (fun S2 x y H3 Q3 e3 e4 hx hy gg => by
        have hx : x = .ref pl := hx
        obtain ⟨l, xs, rfl, _, hl1, im⟩ := hy
        cases im
        refine ⟨pl, l, ws, hx, rfl, SqL.of ((e3.trans e4) _ _ hpl), SqL.of hl1, ?_⟩
        have e : ws.isEmpty = t := by
          rw [← ht]
          cases hpo <;> rfl
        rw [e]
        exact gg.at (.bl _)) (nomark _)
    rcases q with ⟨rfl, q⟩ | ⟨past', p, rfl, q⟩
    · refine w_yes (test true rfl) fun H1 e1 => ?_
      obtain ⟨fdU, FU, hbU⟩ := mk_undoX E nl
      obtain ⟨fdS, FS⟩ := E.fn D__law_said (List.mem_of_getElem? (i := 52) rfl)
      have hbS := FS.bindsN (ps := A__law_said) fun _ _ _ _ _ _ us hl => match us, hl with | [_], _ => rfl
      obtain ⟨oc2, od2, dV2, kV2, doc2, pm2, an2, cdv2, ct2, osl2, rfl, lk2, cod2, _, _⟩ := FS.ex
      have T1 := tabs_ex T0 e1
      have S1 := S.ex e1
      refine w_retW ⟨_, pe_cmpR (op_eqD hr.units) (LamX.pe_lamcall (T := Tq K) (k := 4) (a := "_law_call") (t := fun E => tMeth (He.ga K "Shelf") "undo" (p_undoX K) [] E (tVar 0) tNil) rfl (E.glo 49) FS.kp lk2 cod2 hbS sc__law_said rfl (.inl rfl) (said_gives E ns) TB rfl (by simp [Tq] <;> rfl) (fun p hp _ => by simp only [Tq, List.mem_singleton] at hp; rw [hp] <;> rfl) hr (LamX.lamS_by (by show LamX.lamSB (defScope S__law_undone) _ = true; decide +kernel)) rfl (fun _ _ _ _ _ => rfl)
        (fun Ax outx sx Hx Ex fx cx hrx => pe_meth0 (pe_var (i := 0) rfl (.inr (.inr rfl)) (by decide) (by decide)) E.clsS (E.meS 110) FU (hrx.mono (by decide)) hbU .nil (passes_call (takes_of rfl rfl rfl rfl) fun _ _ _ _ z => z))) we_ok (nomark _), ?_⟩
      refine ⟨T1, fun H2 eN T2 H3 e3 => ⟨.ref a, rfl, ?_⟩⟩
      have k12 : Kp H1 H2 := kp_ext eN
      have nt : ∀ {b u}, H1 b = some u → (∀ ps, u ≠ .tbl ps) → H3 b = some u := fun z n => e3 _ _ (eN _ _ z n)
      obtain ⟨dx, x0, q0, xs0, hI, hP⟩ := S1.sh
      have hI3 := nt hI fun ps z => by cases z
      have k13 : Kp H1 H3 := k12.trans (.of e3)
      refine ⟨a, dx, _, rfl, hI3, rfl, a, sg, cur, rfl, ⟨dx, x0, q0, xs0, hI3, hP.kp k13⟩, fun H4 e4 => ⟨rfl, rfl, fun v H5 e5 hv => Ev.app (ev_t1 (ev_d ev_str (congrArg PyData.str noth_eq))) fun y H6 e6 hy => ?_⟩⟩
      refine r_eqd (d := .tuple [.str (T nothL)]) (d' := .tuple [.str (T nothL)]) (by decide +kernel) (by decide +kernel) H6 v y H6 _ (Ex.refl _) (Ex.refl _) ((rT [.str (T nothL)]).m e6 hv) hy fun z H7 e7 hz => ?_
      have ez : PyData.eqv (.tuple [.str (T nothL)]) (.tuple [.str (T nothL)]) = true := by decide +kernel
      rw [ez] at hz
      have hz := Im.ebl hz
      subst hz
      have e37 := ((e4.trans e5).trans e6).trans e7
      have V7 : Vn [a, o] H H7 := ((Vn.of e1).trans (vn_ext eN)).trans (.of (e3.trans e37))
      have k17 := k13.trans (.of e37)
      exact q H7 V7 (tabs_ex T2 (e3.trans e37)) (S1.kp k17 (fun u z => e37 _ _ (nt z (S1.hv a (by simp) u z).2)) fun u z => e37 _ _ (nt z (S1.hv o (by simp) u z).2))
    · obtain ⟨ys, vk, rfl, hys, qk, knk, txk, rfl, hq, lor⟩ := PoR.last past' hpo
      have vk : ∀ {Hx : Hp} S, (rV (.ref qk)).r S (.ref qk) Hx := fun _ => rfl
      have okp := okA p (by simp)
      refine w_no (test false (by simp)) fun H1 e1 => ?_
      refine w_set (i := 2) sc__law_undone.nd (ev_lastL (v := .ref qk) (ev_oV (v := .ref pl) hu (ev_v (i := 1) rfl vo) (e1 _ _ ho)) (e1 _ _ hpl) (ev_neg ev_int) (by rw [atI_last] <;> rfl)) fun v2 H2 e2 hv2 => ?_
      have hv2 : v2 = .ref qk := hv2
      subst hv2
      have e12 := e1.trans e2
      refine w_dput2 hu rfl o kyTb kyKn (fun _ => ev_v (i := 1) rfl vo) (fun _ => ev_ks ev_str) (fun _ => ev_v (i := 1) rfl vo) (fun _ => ev_ks ev_str) (Ev.app (ev_lastV (v := .ref p.tv) (ev_v (i := 2) rfl vk) (e12 _ _ hq) ev_int rfl) fun x4 H4 e4 hx4 => Ev.app (ev_lastV (v := .ref knk) (ev_v (i := 2) rfl vk) (e4 _ _ (e12 _ _ hq)) ev_int rfl) fun x5 H5 e5 hx5 => ?_)
      have hx4 : x4 = .ref p.tv := hx4
      have hx5 : x5 = .ref knk := hx5
      subst hx4 hx5
      have e15 := (e12.trans e4).trans e5
      refine ⟨oD sg kn cur.s tx pl cur.tv, e15 _ _ ho, by simp [oD], fun H6 H7 e6 e7 => ?_⟩
      rw [oD_putB] at e7 ⊢
      rw [oD_putK]
      have e16 := e15.trans e6
      have k7 : Kp H (upd H7 o (.dK (oD sg knk cur.s tx pl p.tv))) := (kp_own ho oD_not e16).trans (kp_own upd_same oD_not e7)
      have v7 : Vo [a, o] H (upd H7 o (.dK (oD sg knk cur.s tx pl p.tv))) := vo_upd ((vo_upd (.of e16) (by simp)).trans (.of e7)) (by simp)
      have a7 : ∀ u, H a = some u → upd H7 o (.dK (oD sg knk cur.s tx pl p.tv)) a = some u := fun u z => by
        rw [upd_ne ao]
        exact e7 _ _ (by rw [upd_ne ao]; exact e16 _ _ z)
      have ho7 : upd H7 o (.dK (oD sg knk cur.s tx pl p.tv)) o = some (.dK (oD sg knk cur.s tx pl p.tv)) := upd_same
      generalize upd H7 o (.dK (oD sg knk cur.s tx pl p.tv)) = G at k7 v7 a7 ho7
      have hqG := k7 _ _ hq trivial
      refine w_dput2 hu rfl o kySt kyTx (fun _ => ev_v (i := 1) rfl vo) (fun _ => ev_ks ev_str) (fun _ => ev_v (i := 1) rfl vo) (fun _ => ev_ks ev_str) (Ev.app (ev_lastV (v := .int p.s) (ev_v (i := 2) rfl vk) hqG ev_int rfl) fun x8 H8 e8 hx8 => Ev.app (ev_lastV (v := .ref txk) (ev_v (i := 2) rfl vk) (e8 _ _ hqG) ev_int rfl) fun x9 H9 e9 hx9 => ?_)
      have hx8 : x8 = .int p.s := hx8
      have hx9 : x9 = .ref txk := hx9
      subst hx8 hx9
      refine ⟨oD sg knk cur.s tx pl p.tv, (e8.trans e9) _ _ ho7, by simp [oD], fun Ha Hb ea eb => ?_⟩
      rw [oD_putS] at eb ⊢
      rw [oD_putX]
      have e7a := (e8.trans e9).trans ea
      have kb : Kp H (upd Hb o (.dK (oD sg knk p.s txk pl p.tv))) := (k7.trans (kp_own ho7 oD_not e7a)).trans (kp_own upd_same oD_not eb)
      have vb : Vo [a, o] H (upd Hb o (.dK (oD sg knk p.s txk pl p.tv))) := v7.trans (vo_upd ((vo_upd (.of e7a) (by simp)).trans (.of eb)) (by simp))
      have ab : ∀ u, H a = some u → upd Hb o (.dK (oD sg knk p.s txk pl p.tv)) a = some u := fun u z => by
        rw [upd_ne ao]
        exact eb _ _ (by rw [upd_ne ao]; exact e7a _ _ (a7 u z))
      have hob : upd Hb o (.dK (oD sg knk p.s txk pl p.tv)) o = some (.dK (oD sg knk p.s txk pl p.tv)) := upd_same
      generalize upd Hb o (.dK (oD sg knk p.s txk pl p.tv)) = G2 at kb vb ab hob
      have hplG := kb _ _ hpl hpo.cst
      refine w_dputW hu ⟨_, pe_slice sl_list we_ok wp_ok wp_ok, Ev.app (ev_oV (v := .ref pl) hu (ev_v (i := 1) rfl vo) hob) fun x Hc ec hx => ep0 Hc (Ex.refl _) _ fun Hd ed => (ep1 (ev_neg ev_int)) Hd (Ex.refl _) _ fun He ee => ?_⟩
      have hx : x = .ref pl := hx
      subst hx
      have ece := (ec.trans ed).trans ee
      refine ⟨pl, _, rfl, SqL.of (ece _ _ hplG), fun r hr0 => ?_⟩
      rw [show (-(1 : Int)) = -1 from rfl, cutV_last]
      have ro : r ≠ o := fun z => by rw [z, ece _ _ hob] at hr0; cases hr0
      refine ⟨o, oD sg knk p.s txk pl p.tv, kyPa, ((ece.trans (Ex.new hr0)) _ _ hob), by simp [oD], ev_v (i := 1) rfl vo, ev_ks ev_str, fun Hf ef => ?_⟩
      rw [oD_putP]
      have eGf := (ece.trans (Ex.new (o := .lst ys) hr0)).trans ef
      have hrf : upd Hf o (.dK (oD sg knk p.s txk r p.tv)) r = some (.lst ys) := by
        rw [upd_ne ro]
        exact ef _ _ upd_same
      have kf : Kp H (upd Hf o (.dK (oD sg knk p.s txk r p.tv))) := kb.trans (kp_own hob oD_not eGf)
      have vf : Vo [a, o] H (upd Hf o (.dK (oD sg knk p.s txk r p.tv))) := vb.trans (vo_upd (.of eGf) (by simp))
      have af : ∀ u, H a = some u → upd Hf o (.dK (oD sg knk p.s txk r p.tv)) a = some u := fun u z => by
        rw [upd_ne ao]
        exact eGf _ _ (ab u z)
      have hof : upd Hf o (.dK (oD sg knk p.s txk r p.tv)) o = some (.dK (oD sg knk p.s txk r p.tv)) := upd_same
      generalize upd Hf o (.dK (oD sg knk p.s txk r p.tv)) = G3 at kf vf af hof hrf
      have shf := sh.kp kf af
      obtain ⟨dx, x0, q0, xs0, hI, hP⟩ := shf
      refine w_retW ⟨_, pe_cmpR op_isN we_ok we_ok (nomark _), we_meth0 E.clsS (E.meS 110) (mk_undo E) hr (ev_v (i := 0) rfl va) hI rfl fun Hg eg => ⟨a, sg, cur, p, past', rfl, ⟨dx, x0, q0, xs0, eg _ _ hI, hP.ex eg⟩, fun Hh eh shh => Ev.app ev_non fun y Hi ei hy => ⟨Im.enon hy, ?_⟩⟩⟩
      have kh := kp_off (eg _ _ hI) ins_not eh
      have ow3 : OwR K G3 o sg n1 p past' := ⟨knk, txk, r, ys, hof, hrf, hys.kp kf, lor.kp kf⟩
      have vh : Vo [a, o] H Hh := (vf.trans (.of eg)).trans (vo_off eh (by simp))
      refine q Hi ((vn_of_vo · fun _ z => z) (vh.trans (.of ei))) (tabs_ex (tabs_vo T0 vh S.hv) ei) ⟨shh.ex ei, ((ow3.kp (.of eg) fun _ z => eg _ _ z).kp kh fun u z => eh _ _ (by rw [off_ne ao.symm]; exact z)).kp (.of ei) fun _ z => ei _ _ z, fun p2 hp2 => okA p2 ?_, ?_⟩
      · rcases List.mem_cons.mp hp2 with rfl | hp2
        · simp
        · simp [hp2]
      · rw [List.length_append] at lz
        omega
  obtain ⟨t, h1, h2⟩ := go
  exact ⟨t, h1.nox, h2⟩
end
end Lk

set_option maxHeartbeats 1000000
/-! The law's groups and headings are the shelf's. -/
namespace Lk
open PySem PySem.Spec PyProof.Rows L2
theorem leK_eq : PySem.W.dataLe false eK = fun p q => decide (p ≤ q) := by
  funext p q
  show (!PySem.W.dataLt (.tuple (q.map .int)) (.tuple (p.map .int))) = _
  rw [PySem.W.dataLt_tuple]
  show (!PySem.W.rowLt (q.map .int) (p.map .int)) = _
  rw [PySem.W.dataLt_ints]
  by_cases h : q < p
  · have h' : ¬ p ≤ q := fun r => List.not_lt.mpr r h
    simp [h, h']
  · have h' : p ≤ q := List.not_lt.mp h
    simp [h, h']
theorem leP_fst {p q : List Int × Nat} (h : leP p q = true) : p.1 ≤ q.1 := by
  refine List.not_lt.mp fun z => ?_
  have h : (!PySem.W.dataLt (eP q) (eP p)) = true := h
  unfold eP at h
  rw [PySem.W.dataLt_pair (alike_eK _ _) (by simp [PySem.W.alike])] at h
  have ne : PyData.eqv (eK q.1) (eK p.1) = false := by
    cases e : PyData.eqv (eK q.1) (eK p.1) with
    | false => rfl
    | true =>
      have l : PySem.W.dataLt (eK q.1) (eK p.1) = decide (q.1 < p.1) := by
        show PySem.W.dataLt (.tuple (q.1.map .int)) (.tuple (p.1.map .int)) = _
        rw [PySem.W.dataLt_tuple]
        exact PySem.W.dataLt_ints _ _
      have el : q.1 = p.1 := by
        rw [eqv_eK] at e
        exact of_decide_eq_true e
      rw [el] at z
      exact absurd z (List.lt_irrefl _)
  rw [ne, if_neg (by decide)] at h
  have l : PySem.W.dataLt (eK q.1) (eK p.1) = decide (q.1 < p.1) := by
    show PySem.W.dataLt (.tuple (q.1.map .int)) (.tuple (p.1.map .int)) = _
    rw [PySem.W.dataLt_tuple]
    exact PySem.W.dataLt_ints _ _
  rw [l, decide_eq_true z] at h
  cases h
theorem leP_total : PySem.W.TotalLe leP := by
  unfold leP PySem.W.dataLe
  exact PySem.W.sortLe_total _ _ _
theorem le_total2 {α : Type} {le : α → α → Bool} (t : PySem.W.TotalLe le) (a b : α) : (le a b || le b a) = true := by
  rw [Bool.or_eq_true]
  exact t.total a b
theorem leK_total : PySem.W.TotalLe (PySem.W.dataLe false eK) := by
  unfold PySem.W.dataLe
  exact PySem.W.sortLe_total _ _ _
theorem sortK_pw (ks : List (List Int)) : (sortK ks).Pairwise (· ≤ ·) := by
  have z := List.pairwise_mergeSort (fun a b c => leK_total.trans (a := a) (b := b) (c := c)) (le_total2 leK_total) ks
  refine z.imp fun {a b} h => ?_
  rw [leK_eq] at h
  exact of_decide_eq_true h
theorem line_keys (f : Fn) (s : Int) (ts : List (List Nat)) : (lineF f s ts).map (keyF f s) = sortK (keysF f s ts) := by
  have e : (lineF f s ts).map (keyF f s) = ((keysF f s ts).zipIdx.mergeSort leP).map (·.1) := by
    rw [lineF, orderF, List.map_map, List.map_map]
    refine List.map_congr_left fun p hp => ?_
    have hp : p ∈ (keysF f s ts).zipIdx := (List.mergeSort_perm _ _).mem_iff.mp hp
    have z := mem_zipI hp
    rw [keysF, List.getElem?_map] at z
    show keyF f s (ts.getD p.2 []) = p.1
    cases ht : ts[p.2]? with
    | none => rw [ht] at z; cases z
    | some t =>
      rw [ht] at z
      rw [List.getD_eq_getElem?_getD, ht]
      exact Option.some.inj z
  rw [e]
  refine List.Perm.eq_of_pairwise (le := (· ≤ ·)) (fun a b _ _ h1 h2 => List.le_antisymm h1 h2) ?_ (sortK_pw _) ?_
  · rw [List.pairwise_map]
    exact (List.pairwise_mergeSort (fun a b c => leP_total.trans (a := a) (b := b) (c := c)) (le_total2 leP_total) _).imp fun h => leP_fst h
  · refine (((List.mergeSort_perm _ _).map _).trans ?_).trans (sortK_perm _).symm
    rw [List.zipIdx_map_fst]
/-! groups -/
theorem gstep_app (l : List Gr) (g : Gr) (k : List Int) (i : Nat) : gstep (l ++ [g]) k i = if g.1 = k then l ++ [(k, g.2.1, g.2.2 + 1)] else l ++ [g] ++ [(k, i, 1)] := by
  unfold gstep
  rw [List.getLast?_concat]
  show (if g.1 = k then _ else _) = _
  split
  · rw [List.length_append, List.length_singleton, Nat.add_sub_cancel, List.set_append_right _ _ (Nat.le_refl _), Nat.sub_self] <;> rfl
  · rfl
def isSt (ks : List (List Int)) (k : Nat) : Bool := decide (k = 0) || !decide (ks.getD k [] = ks.getD (k - 1) [])
def cntK (ks : List (List Int)) (x : List Int) : Nat := (ks.filter fun y => decide (y = x)).length
def startsF (ks : List (List Int)) : List Nat := (List.range ks.length).filter (isSt ks)
def groupsL (ks : List (List Int)) : List (Nat × Nat) := (startsF ks).map fun k => (k, cntK ks (ks.getD k []))
theorem cntK_snoc (ks : List (List Int)) (x y : List Int) : cntK (ks ++ [y]) x = cntK ks x + if y = x then 1 else 0 := by
  unfold cntK
  rw [List.filter_append, List.length_append, List.filter_cons]
  by_cases h : y = x
  · rw [if_pos (by simp [h]), if_pos h] <;> rfl
  · rw [if_neg (by simp [h]), if_neg h] <;> rfl
theorem cntK_none {ks : List (List Int)} {x : List Int} (h : x ∉ ks) : cntK ks x = 0 := by
  unfold cntK
  rw [List.length_eq_zero_iff, List.filter_eq_nil_iff]
  intro y hy e
  exact h ((of_decide_eq_true e) ▸ hy)
theorem take_snocD {ks : List (List Int)} {n : Nat} (h : n < ks.length) : ks.take (n + 1) = ks.take n ++ [ks.getD n []] := by
  rw [List.take_succ, List.getD_eq_getElem?_getD, List.getElem?_eq_getElem h] <;> rfl
theorem new_key {ks : List (List Int)} (pw : ks.Pairwise (· ≤ ·)) {n : Nat} (h : n + 1 < ks.length) (ne : ks.getD (n + 1) [] ≠ ks.getD n []) : ks.getD (n + 1) [] ∉ ks.take (n + 1) := fun z => by
  obtain ⟨i, hi, e⟩ := List.mem_iff_getElem.mp z
  rw [List.length_take] at hi
  rw [List.getElem_take] at e
  have e1 : ks.getD (n + 1) [] = ks[n + 1] := by rw [List.getD_eq_getElem?_getD, List.getElem?_eq_getElem h] <;> rfl
  have e2 : ks.getD n [] = ks[n] := by rw [List.getD_eq_getElem?_getD, List.getElem?_eq_getElem (by omega)] <;> rfl
  rw [e1, e2] at ne
  rw [e1] at e
  have pw := List.pairwise_iff_getElem.mp pw
  have l1 : ks[n] ≤ ks[n + 1] := pw n (n + 1) (by omega) h (by omega)
  rcases Nat.lt_or_ge i n with q | q
  · have l2 : ks[i] ≤ ks[n] := pw i n (by omega) (by omega) q
    rw [e] at l2
    exact ne (List.le_antisymm l2 l1)
  · have : i = n := by omega
    subst this
    exact ne e.symm
theorem grp_eq {ks : List (List Int)} (pw : ks.Pairwise (· ≤ ·)) : ∀ n, n < ks.length → ∃ ini i, (List.range (n + 1)).filter (isSt ks) = ini ++ [i] ∧ ks.getD i [] = ks.getD n [] ∧ (∀ j ∈ ini, ks.getD j [] ≠ ks.getD n []) ∧ (∀ j ∈ ini ++ [i], ks.getD j [] ∈ ks.take (n + 1)) ∧
    grp ks (n + 1) = (ini ++ [i]).map fun k => (ks.getD k [], k, cntK (ks.take (n + 1)) (ks.getD k []))
  | 0, h => by
    have e0 : ks[0]? = some (ks.getD 0 []) := by rw [List.getD_eq_getElem?_getD, List.getElem?_eq_getElem h] <;> rfl
    have t1 : ks.take 1 = [ks.getD 0 []] := by rw [take_snocD h, List.take_zero] <;> rfl
    refine ⟨[], 0, ?_, rfl, fun j hj => (by cases hj), fun j hj => ?_, ?_⟩
    · rw [List.range_succ, List.range_zero, List.nil_append, List.filter_cons, if_pos (by simp [isSt])] <;> rfl
    · rw [List.nil_append, List.mem_singleton] at hj
      rw [hj, t1]
      simp
    · show (match ks[0]? with | some k => gstep (grp ks 0) k 0 | none => grp ks 0) = _
      rw [e0, t1]
      simp [grp, gstep, cntK]
  | n + 1, h => by
    obtain ⟨ini, i, s1, s2, s3, s4, s5⟩ := grp_eq pw n (by omega)
    have e0 : ks[n + 1]? = some (ks.getD (n + 1) []) := by rw [List.getD_eq_getElem?_getD, List.getElem?_eq_getElem h] <;> rfl
    have g0 : grp ks (n + 1 + 1) = gstep (grp ks (n + 1)) (ks.getD (n + 1) []) (n + 1) := by
      show (match ks[n + 1]? with | some k => gstep (grp ks (n + 1)) k (n + 1) | none => grp ks (n + 1)) = _
      rw [e0]
    have tk := take_snocD h
    rw [g0, s5, List.map_append, tk]
    simp only [List.map_cons, List.map_nil]
    rw [gstep_app]
    by_cases e : ks.getD (n + 1) [] = ks.getD n []
    · refine ⟨ini, i, ?_, by rw [s2, e], fun j hj => by rw [e]; exact s3 j hj, fun j hj => List.mem_append.mpr (.inl (s4 j hj)), ?_⟩
      · rw [List.range_succ, List.filter_append, s1, List.filter_cons, if_neg (by simp only [isSt, Nat.add_sub_cancel, e]; simp)]
        simp
      · have c : ks.getD i [] = ks.getD (n + 1) [] := by rw [s2, e]
        rw [if_pos c]
        rw [List.map_append]
        congr 1
        · refine List.map_congr_left fun j hj => ?_
          rw [cntK_snoc, if_neg (fun z => s3 j hj (by rw [← e]; exact z.symm))] <;> rfl
        · simp only [List.map_cons, List.map_nil]
          rw [cntK_snoc, if_pos c.symm, c]
    · have nk := new_key pw h e
      refine ⟨ini ++ [i], n + 1, ?_, rfl, fun j hj z => nk (by rw [← z]; exact s4 j hj), fun j hj => ?_, ?_⟩
      · rw [List.range_succ, List.filter_append, s1, List.filter_cons, if_pos (by simp only [isSt, Nat.add_sub_cancel]; simp; exact e)] <;> rfl
      · rcases List.mem_append.mp hj with hj | hj
        · exact List.mem_append.mpr (.inl (s4 j hj))
        · rw [List.mem_singleton.mp hj]
          simp
      · rw [if_neg (fun z => e (by rw [← s2]; exact z.symm))]
        rw [List.map_append, List.map_append]
        congr 1
        · have q : ∀ j ∈ ini ++ [i], (ks.getD j [], j, cntK (List.take (n + 1) ks) (ks.getD j [])) = (ks.getD j [], j, cntK (List.take (n + 1) ks ++ [ks.getD (n + 1) []]) (ks.getD j [])) := fun j hj => by
            rw [cntK_snoc, if_neg (fun z => nk (by rw [z]; exact s4 j hj))] <;> rfl
          congr 1
          · exact List.map_congr_left fun j hj => q j (List.mem_append.mpr (.inl hj))
          · simp only [List.map_cons, List.map_nil]
            rw [q i (by simp)]
        · simp only [List.map_cons, List.map_nil]
          rw [cntK_snoc, if_pos rfl, cntK_none nk]
theorem groups_eq {ks : List (List Int)} (pw : ks.Pairwise (· ≤ ·)) : groupsF ks = groupsL ks := by
  cases h : ks.length with
  | zero =>
    have : ks = [] := List.length_eq_zero_iff.mp h
    subst this
    rfl
  | succ n =>
    obtain ⟨ini, i, s1, s2, s3, s4, s5⟩ := grp_eq pw n (by omega)
    unfold groupsF groupsL startsF
    rw [h, s5, s1, List.map_map, ← h, List.take_length] <;> rfl
end Lk

set_option maxHeartbeats 1000000
/-! len(x), x[k], x == y, x += y by own methods. -/
namespace Lk
open PySem PySem.Spec PyProof.Rows L2
open Evl (Ex)
section
variable {X : Cx} {k : Nat} {f C : Addr} {fd : FuncData} {ps : List Str} {sp : Sp}
theorem run_sub {A : Around} {pins : List (Addr × Obj)} {σ : L2.St} {H : Hp} {s : Shared} {Q : VK} {us : List Value} {vs : List V} (F : FnOk X.prog X.w X.K X.mg X.base CX0 k f fd ps sp) (sb : Sub X k A) (hb : Binds X.K fd ps []) (I : Inv X pins σ H s) (r : Vals vs us) (h : sp vs H Q E0) :
    wpAny (model X.prog X.w) A (call (.ref f) us) (EP X pins σ Q) X.xe s := by
  have e0 : Env0 X.prog X.w X.K X.mg X.base A X.stack s H := by
    have e := I.env0
    exact ⟨by rw [sb.fr]; exact e.frames, e.mod, e.bs, e.bsz, e.funs, e.frf, e.hok, e.bare⟩
  have hl := F.len _ _ _ _ h
  have bb := hb s us I.kIn (by rw [List.append_nil, ← r.length]; exact hl)
  rw [List.append_nil] at bb
  refine wpAny_call (codeAny_mono (F.run A X.stack s H ⟨us, []⟩ us vs Q E0 sb.room e0 bb r h) fun r2 s' hq => ?_)
  match r2, hq with
  | .error e, hq => exact pass0 pins σ H s e s' I hq
  | .ok (.ret u), hq => exact I.after hq
  | .ok .next, hq => exact hq.elim
  | .ok .brk, hq => exact hq.elim
  | .ok .cont, hq => exact hq.elim
theorem call_lenO (F : FnOk X.prog X.w X.K X.mg X.base CX0 k f fd ps sp) (hm : Meth X.K C "__len__" f) (hb : Binds X.K fd ps []) (hr : Room (k + 1) X.A) :
    CallR X (.builtin "len") (fun vs H Q => ∃ (a dx : Addr) (fs : List (Str × V)), vs = [.ref a] ∧ H a = some (.ins C dx fs) ∧ sp [.ref a] H (fun v H' => ∃ n : Nat, v = .int (n : Int) ∧ n < 1000000 ∧ Q (.int (n : Int)) H') E0) := by
  intro pins s σ H vs us Q I r h
  obtain ⟨a, dx, fs, rfl, hI, q⟩ := h
  rw [Vals.ref1 r]
  obtain ⟨mA, J, _⟩ := ins_get I.hok hI
  obtain ⟨od, J, _⟩ := J.look
  obtain ⟨m, hF⟩ := I.fr
  refine PySem.W.len_K hF I.ok.mod.kin J hm.at_ hm.fn (wpAny_mono (run_sub F ⟨hr.in1, rfl⟩ hb I (vs := [.ref a]) (us := [.ref a]) (.cons rfl .nil) q) (fun v s' hv => ?_) fun _ _ z => z)
  obtain ⟨x, H', I', rx, n, rfl, hn, qq⟩ := hv
  obtain ⟨t, rfl⟩ := rx
  exact ⟨⟨by omega, by omega⟩, .int _, H', I'.kept (t' := s'.toks + 1) (fun _ _ z => z), ⟨_, rfl⟩, qq⟩
theorem call_itemO {x : Str} {px : Pos} {pos : Pos} {a : Expr} {ta tb : TE} (F : FnOk X.prog X.w X.K X.mg X.base CX0 k f fd ps sp) (hm : Meth X.K C "__getitem__" f) (hfn : PySem.W.fnIn X.K f = true) (hb : Binds X.K fd ps []) (hr : Room (k + 1) X.A) (ha : PE X a ta) (hx : PE X (.Name x px) tb) :
    PE X (.Subscript a (.Name x px) pos) (tOp (fun u v H Q => ∃ (q dx : Addr) (fs : List (Str × V)), u = .ref q ∧ H q = some (.ins C dx fs) ∧ sp [.ref q, v] H Q E0) ta tb) := by
  refine ⟨fun pins s σ H Q I h => ?_⟩
  refine Subscript_ (binT ha hx I h fun v u s2 y z H2 I2 ry rz qq => ?_)
  obtain ⟨q, dx, fs, rfl, hI, q2⟩ := qq
  cases ry
  obtain ⟨mA, J, _⟩ := ins_get I2.hok hI
  obtain ⟨od, J, _⟩ := J.look
  obtain ⟨m, hF⟩ := I2.fr
  exact PySem.W.sub_K hF I2.ok.mod.kin J hm.at_ hfn hm.fn (run_sub F ⟨hr.in1, rfl⟩ hb I2 (vs := [.ref q, z]) (us := [.ref q, u]) (.cons rfl (.cons rz .nil)) q2)
theorem iop_addO (F : FnOk X.prog X.w X.K X.mg X.base CX0 k f fd ps sp) (hm : Meth X.K C "__iadd__" f) (hc : PySem.W.selfFirst X.K C = true) (hb : Binds X.K fd ps []) (hr : Room k X.A) :
    OpR X (inplaceOp .Add) (fun u v H Q => ∃ (q dx : Addr) (fs : List (Str × V)), u = .ref q ∧ H q = some (.ins C dx fs) ∧ sp [.ref q, v] H (fun z H' => (∃ r, z = .ref r) ∧ Q z H') E0) := by
  intro pins s σ H x y v u Q I rx ry h
  obtain ⟨q, dx, fs, rfl, hI, q2⟩ := h
  cases rx
  obtain ⟨mA, J, _⟩ := ins_get I.hok hI
  obtain ⟨od, J, _⟩ := J.look
  obtain ⟨m, hF⟩ := I.fr
  refine PySem.W.ksp_inplace hF I.ok.mod.kin J hc hm.at_ hm.fn (wpAny_mono (run_sub F ⟨hr, rfl⟩ hb I (vs := [.ref q, y]) (us := [.ref q, u]) (.cons rfl (.cons ry .nil)) q2) (fun w s' hv => ?_) fun _ _ z => z)
  obtain ⟨x, H', I', rx, ⟨r, rfl⟩, qq⟩ := hv
  cases rx
  exact ⟨.ref r, H', I', rfl, qq⟩
/-- x == y of slotted ones by an own == -/
theorem op_eqO (F : FnOk X.prog X.w X.K X.mg X.base CX0 k f fd ps sp) (hm : Meth X.K C "__eq__" f) (hb : Binds X.K fd ps []) (hr : Room k X.A) :
    OpR X (compareOp .Eq) (fun u v H Q => ∃ (q dx q' dx' : Addr) (fs fs' : List (Option V)), u = .ref q ∧ v = .ref q' ∧ SlX.Slt H q C dx fs ∧ SlX.Slt H q' C dx' fs' ∧ sp [.ref q, .ref q'] H (fun z H' => (∃ b, z = .bl b) ∧ Q z H') E0) := by
  intro pins s σ H x y v u Q I rx ry h
  obtain ⟨q, dx, q', dx', fs, fs', rfl, rfl, hI, hI', q2⟩ := h
  cases rx
  cases ry
  obtain ⟨_, od, _, J, _⟩ := SlX.slt_inst I hI
  obtain ⟨_, od', _, J', _⟩ := SlX.slt_inst I hI'
  obtain ⟨m, hF⟩ := I.fr
  show wpAny (model X.prog X.w) X.A (richCompare .Eq (.ref q) (.ref q')) (EP X pins σ Q) X.xe s
  refine PySem.W.cmp_K (op := .Eq) (tb := .ref C) hr.units0 hF I.ok.mod.kin J J'.type (by simp [PySem.W.notFirst]) hm.at_ hm.fn (wpAny_mono (run_sub F ⟨hr, rfl⟩ hb I (vs := [.ref q, .ref q']) (us := [.ref q, .ref q']) (.cons rfl (.cons rfl .nil)) q2) (fun w s' hv => ?_) fun _ _ z => z)
  obtain ⟨x, H', I', rx, ⟨b, rfl⟩, qq⟩ := hv
  cases rx
  exact ⟨.bl b, H', I', rfl, qq⟩
end
end Lk

set_option maxHeartbeats 1000000
/-! The law's headings are the shelf's. -/
namespace Lk
open PySem PySem.Spec PyProof.Rows L2
def cntI (hs : List Int) (h : Int) : Nat := (hs.filter fun y => decide (y = h)).length
theorem cntI_snoc (hs : List Int) (x y : Int) : cntI (hs ++ [y]) x = cntI hs x + if y = x then 1 else 0 := by
  unfold cntI
  rw [List.filter_append, List.length_append, List.filter_cons]
  by_cases h : y = x
  · rw [if_pos (by simp [h]), if_pos h] <;> rfl
  · rw [if_neg (by simp [h]), if_neg h] <;> rfl
theorem cntI_none {hs : List Int} {x : Int} (h : x ∉ hs) : cntI hs x = 0 := by
  unfold cntI
  rw [List.length_eq_zero_iff, List.filter_eq_nil_iff]
  intro y hy e
  exact h ((of_decide_eq_true e) ▸ hy)
theorem cnt_spec (hs : List Int) : (∀ h, h ∈ (cntH hs).map (·.1) ↔ h ∈ hs) ∧ ∀ p ∈ cntH hs, p.2 = cntI hs p.1 := by
  have go : ∀ n, (∀ h, h ∈ (cntH (hs.take n)).map (·.1) ↔ h ∈ hs.take n) ∧ ∀ p ∈ cntH (hs.take n), p.2 = cntI (hs.take n) p.1 := by
    intro n
    induction n with
    | zero => exact ⟨fun h => by simp [cntH], fun p hp => by simp [cntH] at hp⟩
    | succ n ih =>
      cases hx : hs[n]? with
      | none =>
        have e : hs.take (n + 1) = hs.take n := by rw [List.take_succ, hx] <;> simp
        rw [e]
        exact ih
      | some x =>
        have e : hs.take (n + 1) = hs.take n ++ [x] := by rw [List.take_succ, hx] <;> rfl
        rw [e, cntH_snoc]
        obtain ⟨i1, i2⟩ := ih
        refine ⟨fun h => ?_, fun p hp => ?_⟩
        · rw [cput_keys]
          split
          · rename_i z
            have z := any_mem.mp z
            rw [i1, List.mem_append, List.mem_singleton]
            constructor
            · exact .inl
            · rintro (q | rfl)
              · exact q
              · exact (i1 _).mp z
          · rw [List.mem_append, List.mem_append, i1]
        · unfold cput at hp
          rw [cntI_snoc]
          split at hp
          · obtain ⟨q, hq, rfl⟩ := List.mem_map.mp hp
            have z := i2 q hq
            by_cases c : q.1 = x
            · rw [if_pos c]
              show q.2 + 1 = cntI _ q.1 + if x = q.1 then 1 else 0
              rw [if_pos c.symm, z]
            · rw [if_neg c]
              show q.2 = cntI _ q.1 + if x = q.1 then 1 else 0
              rw [if_neg fun w => c w.symm, z] <;> rfl
          · rename_i na
            rcases List.mem_append.mp hp with hp | hp
            · have z := i2 p hp
              have c : ¬ x = p.1 := fun w => na (any_mem.mpr (List.mem_map.mpr ⟨p, hp, w.symm⟩))
              rw [if_neg c, z] <;> rfl
            · rw [List.mem_singleton] at hp
              subst hp
              show 1 = cntI _ x + if x = x then 1 else 0
              rw [if_pos rfl, cntI_none fun w => na (any_mem.mpr ((i1 x).mpr w))]
  have z := go hs.length
  rw [List.take_length] at z
  exact z
/-- the headings, each once, in order -/
def nsF (hs : List Int) : List Int := ((cntH hs).map (·.1)).mergeSort fun a b => decide (a ≤ b)
theorem nsF_perm (hs : List Int) : (nsF hs).Perm ((cntH hs).map (·.1)) := List.mergeSort_perm _ _
theorem nsF_nd (hs : List Int) : (nsF hs).Nodup := (nsF_perm hs).nodup_iff.mpr (cntH_nd hs)
theorem nsF_mem {hs : List Int} {h : Int} : h ∈ nsF hs ↔ h ∈ hs := (nsF_perm hs).mem_iff.trans ((cnt_spec hs).1 h)
theorem nsF_pw (hs : List Int) : (nsF hs).Pairwise (· ≤ ·) := by
  have z := List.pairwise_mergeSort (le := fun a b : Int => decide (a ≤ b)) (fun a b c h1 h2 => by simp only [decide_eq_true_eq] at *; omega) (fun a b => by simp only [Bool.or_eq_true, decide_eq_true_eq]; omega) ((cntH hs).map (·.1))
  exact z.imp fun h => of_decide_eq_true h
theorem nsF_len (hs : List Int) : (nsF hs).length ≤ hs.length := by
  rw [(nsF_perm hs).length_eq, List.length_map]
  exact cntH_len hs
theorem leIN_eq : PySem.W.dataLe false eIN = fun p q => decide (p.1 < q.1 ∨ (p.1 = q.1 ∧ (p.2 : Int) ≤ (q.2 : Int))) := PySem.W.dataLe_ii (fun p : Int × Nat => p.1) fun p => (p.2 : Int)
theorem heads_eq (f : Fn) (ls : List (List Nat)) : headsF f ls = (nsF (ls.map (hdF f))).map fun h => (h, cntI (ls.map (hdF f)) h) := by
  generalize e : ls.map (hdF f) = hs
  unfold headsF
  rw [e]
  have tot : PySem.W.TotalLe (PySem.W.dataLe false eIN) := by
    unfold PySem.W.dataLe
    exact PySem.W.sortLe_total _ _ _
  refine List.Perm.eq_of_pairwise (le := fun p q : Int × Nat => p.1 < q.1 ∨ (p.1 = q.1 ∧ (p.2 : Int) ≤ (q.2 : Int))) (fun a b _ _ h1 h2 => ?_) ?_ ?_ ?_
  · refine Prod.ext ?_ ?_ <;> omega
  · refine (List.pairwise_mergeSort (fun a b c => tot.trans (a := a) (b := b) (c := c)) (le_total2 tot) (cntH hs)).imp fun {p q} h => ?_
    rw [leIN_eq] at h
    exact of_decide_eq_true h
  · rw [List.pairwise_map]
    refine (nsF_pw hs).imp fun {a b} h => ?_
    rcases Int.lt_or_eq_of_le h with h | rfl
    · exact .inl h
    · exact .inr ⟨rfl, Int.le_refl _⟩
  · refine (List.mergeSort_perm _ _).trans ?_
    have z : cntH hs = ((cntH hs).map (·.1)).map fun h => (h, cntI hs h) := by
      rw [List.map_map]
      conv => lhs; rw [← List.map_id (cntH hs)]
      refine List.map_congr_left fun p hp => ?_
      show p = (p.1, cntI hs p.1)
      rw [← (cnt_spec hs).2 p hp]
    rw [z]
    exact ((nsF_perm hs).map _).symm
theorem set_sorted {hs : List Int} {ks : List Key} (h : ks.Perm (allS (hs.map .inl))) : ks.mergeSort (PySem.W.dataLe false kD) = (nsF hs).map .inl := by
  have mem : ∀ k, k ∈ ks ↔ k ∈ (nsF hs).map Sum.inl := fun k => by
    rw [h.mem_iff, allS_mem, List.mem_map, List.mem_map]
    constructor
    · rintro ⟨x, hx, rfl⟩
      exact ⟨x, nsF_mem.mpr hx, rfl⟩
    · rintro ⟨x, hx, rfl⟩
      exact ⟨x, nsF_mem.mp hx, rfl⟩
  have nd2 : ((nsF hs).map (Sum.inl : Int → Key)).Nodup := by
    unfold List.Nodup
    rw [List.pairwise_map]
    exact (show (nsF hs).Pairwise (· ≠ ·) from nsF_nd hs).imp fun ne e => ne (Sum.inl.inj e)
  have pm : ks.Perm ((nsF hs).map Sum.inl) := (List.perm_ext_iff_of_nodup (h.nodup_iff.mpr (allS_nd _)) nd2).mpr mem
  have tot : PySem.W.TotalLe (PySem.W.dataLe false kD) := by
    unfold PySem.W.dataLe
    exact PySem.W.sortLe_total _ _ _
  have le : ∀ a b : Int, PySem.W.dataLe false kD (Sum.inl a : Key) (Sum.inl b) = decide (a ≤ b) := fun a b => by
    show (!PySem.W.dataLt (.int b) (.int a)) = _
    rw [PySem.W.dataLt_int, PySem.W.not_lt_int]
  refine List.Perm.eq_of_pairwise (le := fun a b => PySem.W.dataLe false kD a b = true) (fun a b ha hb h1 h2 => ?_) (List.pairwise_mergeSort (fun a b c => tot.trans (a := a) (b := b) (c := c)) (le_total2 tot) ks) ?_ ((List.mergeSort_perm _ _).trans pm)
  · obtain ⟨x, _, rfl⟩ := List.mem_map.mp ((mem a).mp ((List.mergeSort_perm _ _).mem_iff.mp ha))
    obtain ⟨y, _, rfl⟩ := List.mem_map.mp hb
    rw [le] at h1 h2
    have h1 := of_decide_eq_true h1
    have h2 := of_decide_eq_true h2
    congr 1
    omega
  · rw [List.pairwise_map]
    exact (nsF_pw hs).imp fun {a b} h => by rw [le]; exact decide_eq_true h
end Lk

set_option maxHeartbeats 1000000
/-! _law_stands. -/
namespace Lk
open PySem PySem.Spec PyProof.Rows L2
open Evl (Ex)
/-- the places that are looked at -/
def cntS (n st : Nat) : Nat := (Builtin.Range.rangeSize 0 (n : Int) (st : Int)).toNat
def spotsF (n st : Nat) : List Nat := (List.range (cntS n st)).map (· * st)
theorem cntS_eq {n st : Nat} (h : 0 < st) : Builtin.Range.rangeSize 0 (n : Int) (st : Int) = (cntS n st : Int) := by
  unfold cntS
  refine (Int.toNat_of_nonneg ?_).symm
  unfold Builtin.Range.rangeSize
  rw [if_pos (by omega)]
  split
  · have : 0 ≤ ((n : Int) - 0 - 1) / (st : Int) := Int.ediv_nonneg (by omega) (by omega)
    omega
  · omega
theorem cntS_le {n st : Nat} (h : 0 < st) : cntS n st ≤ n := by
  have z := cntS_eq (n := n) h
  unfold Builtin.Range.rangeSize at z
  rw [if_pos (by omega)] at z
  split at z
  · have q : ((n : Int) - 0 - 1) / (st : Int) ≤ (n : Int) - 0 - 1 := Int.ediv_le_self _ (by omega)
    omega
  · omega
theorem spots_lt {n st k : Nat} (h : 0 < st) (hk : k ∈ spotsF n st) : k < n := by
  obtain ⟨i, hi, rfl⟩ := List.mem_map.mp hk
  have hi := List.mem_range.mp hi
  have z := cntS_eq (n := n) h
  unfold Builtin.Range.rangeSize at z
  rw [if_pos (by omega)] at z
  split at z
  · have q : (i : Int) ≤ ((n : Int) - 0 - 1) / (st : Int) := by omega
    have w := (Int.le_ediv_iff_mul_le (by omega : (0 : Int) < (st : Int))).mp q
    have w2 : ((i * st : Nat) : Int) = (i : Int) * (st : Int) := by simp
    show i * st < n
    omega
  · omega
section
variable {X : Cx} {σ : L2.St} {H H' : Hp} {e a b c o : Expr} {es : List Expr} {pos pos' p p2 apos cpos : Pos} {D : Ends} {rest : List Stmt} {kk k' : Nat} {ρ : Rp} {w : World}
theorem ev_addA {ds es : List PyData} (ha : Ev X a σ H (rT ds)) (hb : Ev X b σ H (rT es)) (hz : ds.length + es.length ≤ 1000000) : Ev X (.BinOp a .Add b pos) σ H (rT (ds ++ es)) := ev_op op_catA ha hb fun _ x y H2 Q _ e2 hx hy q => by
  obtain ⟨p, xs, rfl, hp, ix⟩ := Im.etup hx
  obtain ⟨p', ys, rfl, hp', iy⟩ := Im.etup hy
  refine ⟨p, p', xs, ys, rfl, rfl, SqT.of hp, SqT.of hp', by rw [ix.len, iy.len, sizeLine_eq]; omega, fun z => ?_, fun _ z => ?_, fun _ _ r hr => q _ _ (Ex.new hr) (.tup upd_same ((ix.app iy).ex (Ex.new hr)))⟩
  · subst z
    cases ix
    exact q.at (.tup hp' iy)
  · subst z
    cases iy
    rw [List.append_nil] at q
    exact q.at (.tup hp ix)
/-- list(range(0, n, st)) -/
theorem ev_lrg3 {n st : Nat} (hc : X.calm = true) (hm : X.mg "list" = none) (hm2 : X.mg "range" = none) (ha : Ev X a σ H (rI 0)) (hb : Ev X b σ H (rI (n : Int))) (hst : Ev X c σ H (rI (st : Int))) (hz : n ≤ 1000) (h0 : 0 < st) (h1 : st ≤ 1000) (hg : Gl X "list" := by rfl) (hg2 : Gl X "range" := by rfl)
    (n1 : starEach [a, b, c] X.env = (false, eval a X.env) :: starEach [b, c] X.env := by rfl) (n2 : starEach [b, c] X.env = (false, eval b X.env) :: starEach [c] X.env := by rfl) (n3 : starEach [c] X.env = (false, eval c X.env) :: starEach [] X.env := by rfl) (hp : (backTo pos (starEach [b, c] X.env)).any (·.1) = false := by rfl)
    (nb : starEach [.Call (.Name "range" p2) [a, b, c] [] pos] X.env = (false, eval (.Call (.Name "range" p2) [a, b, c] [] pos) X.env) :: starEach [] X.env := by rfl) : Ev X (.Call (.Name "list" p) [.Call (.Name "range" p2) [a, b, c] [] pos] [] cpos) σ H (rF ((spotsF n st).map eN)) := fun H1 e1 Q q => by
  refine ⟨fun σ H Q => We X a σ H fun x H1 => We X b σ H1 fun y H2 => We X c σ H2 fun z H3 => x = .int 0 ∧ y = .int (n : Int) ∧ z = .int (st : Int) ∧ ∀ q, H3 q = none → Q (.ref q) (upd H3 q (.lst ((List.range (cntS n st)).map fun i : Nat => V.int (0 + (i : Nat) * (st : Int))))), ⟨fun pins s σ H Q I h => ?_⟩, ?_⟩
  · refine Call_ (ld_blt I hg hm boot_list (PyProof.Rows.callWith_type1 (args_cons ?_ nb) nb))
    refine thn (Call_ (ld_blt I hg2 hm2 boot_range (PyProof.Rows.callWith_type1 (args_cons (thn (we_ok.run pins s σ H _ I h) fun v s1 ⟨x, H1, I1, r1, q1⟩ => args_cons (thn (we_ok.run pins s1 σ H1 _ I1 q1) fun v2 s2 ⟨y, H2, I2, r2, q2⟩ => args_cons (thn (we_ok.run pins s2 σ H2 _ I2 q2) fun v3 s3 ⟨z, H3, I3, r3, q3⟩ => args_nil (?_)) n3) n2) n1) n1 hp)) (Q := fun x s' => ∃ r t u v H', x = .ref r ∧ IsRange s'.heap r 0 (n : Int) (st : Int) t u v ∧ Inv X pins σ H' s' ∧ ∀ q, H' q = none → Q (.ref q) (upd H' q (.lst ((List.range (cntS n st)).map fun i : Nat => V.int (0 + (i : Nat) * (st : Int))))))) fun x s1 ⟨r, t, u, v, H1, ex, hr, I1, q1⟩ => args_nil ?_
    · obtain ⟨rfl, rfl, rfl, qq⟩ := q3
      obtain ⟨t, rfl⟩ := r1
      obtain ⟨t', rfl⟩ := r2
      obtain ⟨t'', rfl⟩ := r3
      refine call_range_3 (by omega) ?_ (.inl (PyProof.noPylong_small (by omega)))
      exact ⟨_, _, _, _, H3, rfl, IsRange.new _ _ _ _ _ _ _, I3.kept (t' := s3.toks) fun b u e => Heap.get?_push_of_some _ e, qq⟩
    · subst ex
      have cl := cntS_le (n := n) h0
      refine call_list_range (n := cntS n st) (I1.ok.hd hc) hr ?_ (cntS_eq h0) (by omega) fun h' tk acc c' hk e' hi => ?_
      · unfold Builtin.Range.small
        rw [cntS_eq h0, if_pos (show (st : Int) > 0 by omega)]
        simp only [Builtin.Range.rangeFitsLong, Bool.and_eq_true, Bool.or_eq_true, decide_eq_true_eq, beq_iff_eq]
        refine ⟨⟨⟨⟨⟨?_, ?_⟩, ?_, ?_⟩, ?_, ?_⟩, ?_, ?_⟩, .inr ⟨?_, ?_⟩⟩ <;> omega
      · refine ⟨.ref s1.heap.objs.size, upd H1 s1.heap.objs.size (.lst ((List.range (cntS n st)).map fun i : Nat => V.int (0 + (i : Nat) * (st : Int)))), I1.laid hk (Nat.le_refl _) (show ObjOk X.prog X.w _ _ _ (.lst _) from ⟨?_, acc.toList, c', ?_, ?_⟩), rfl, q1 _ (I1.hok.fresh (Nat.le_refl _))⟩
        · rw [List.length_map, List.length_range, sizeLine_eq]; omega
        · have e : acc.toList.length = cntS n st := by rw [Array.length_toList]; exact hi.1
          rw [← e]
          refine vals_of_get acc.toList _ fun j u hj => ?_
          obtain ⟨t, rfl⟩ := hi.2 j u (by rw [← hj, Array.getElem?_toList])
          exact ⟨t, rfl⟩
        · rw [Array.toArray_toList]; exact e'
  · refine ha H1 e1 _ fun x H2 e2 hx => hb H2 (e1.trans e2) _ fun y H3 e3 hy => hst H3 ((e1.trans e2).trans e3) _ fun z H4 e4 hz4 => ⟨Im.eint hx, Im.eint hy, Im.eint hz4, fun q' hq => q _ _ (((e2.trans e3).trans e4).trans (Ex.new hq)) ⟨q', _, rfl, Evl.fresh_back ((e2.trans e3).trans e4) hq, upd_same, ?_⟩⟩
    unfold spotsF
    rw [List.map_map]
    have go : ∀ (HH : Hp) (l : List Nat), Ims HH (l.map fun i : Nat => V.int (0 + (i : Nat) * (st : Int))) (l.map (eN ∘ (· * st))) := fun HH l => by
      induction l with
      | nil => exact .nil
      | cons x l ih =>
        refine .cons ?_ ih
        have e : (eN ∘ (· * st)) x = .int (0 + (x : Nat) * (st : Int)) := by
          show PyData.int ((x * st : Nat) : Int) = _
          congr 1
          simp
        rw [e]
        exact .int _
    exact go _ _
theorem ev_like {d : PyData} (E : En X.w X.K X.mg X.base) (gd : X.A.guards = some []) (hr : Room k' X.A) (ha : Ev X a σ H (rY d)) (hb : Ev X b σ H (rY d)) (y : Yn d) (sw : Sh d) (hk : 1 ≤ k' := by decide) (hg : Gl X "_law_like" := by rfl)
    (he : starEach [a, b] X.env = (false, eval a X.env) :: starEach [b] X.env := by rfl) (he2 : starEach [b] X.env = (false, eval b X.env) :: starEach [] X.env := by rfl) (hpl : (backTo pos (starEach [b] X.env)).any (·.1) = false := by rfl) : Ev X (.Call (.Name "_law_like" p) [a, b] [] pos) σ H (rB true) := fun H1 e1 Q q =>
  we_callG (mk_like E) gd hr (eac ha (eac hb ea0 he2) he H1 e1 _ fun vs H2 e2 hv => ⟨d, H1, ⟨y, sw⟩, e2, hv, q.mono e2⟩) hk hg (by decide) he hpl
end
end Lk

set_option maxHeartbeats 1000000
/-! A shelf's own len, item; a table's ==. -/
namespace Lk
open PySem PySem.Spec PyProof.Rows L2
open Evl (Ex)
section
variable {X : Cx} {σ : L2.St} {H H' : Hp} {e a b c o : Expr} {es : List Expr} {pos pos' p p2 px apos cpos : Pos} {D : Ends} {rest : List Stmt} {kk k' : Nat} {ρ : Rp} {q : Addr} {sg : List Nat} {cur : Pe} {past : List Pe}
theorem ev_lenS (E : En X.w X.K X.mg X.base) (hr : Room k' X.A) (ha : Ev X a σ H (rV (.ref q))) (hD : ShD X.K H q sg cur past) (hz : cur.ts.length ≤ 200) (hk : 2 ≤ k' := by decide) (hg : Gl X "len" := by rfl) (he : starEach [a] X.env = (false, eval a X.env) :: starEach [] X.env := by rfl) (hpl : (backTo pos (starEach [] X.env)).any (·.1) = false := by rfl) :
    Ev X (.Call (.Name "len" p) [a] [] pos) σ H (rI (cur.ts.length : Int)) := by
  obtain ⟨fd, ps, ds, F, hb, hd⟩ := mk_len (P := X.prog) E
  cases hd
  exact ev_cb (call_lenO F (E.meS 111) hb (hr.mono hk)) E.len (by decide +kernel) (eac ha ea0 he) (fun S vs H2 Q e1 e2 hv g => by
    obtain ⟨v, rfl, hv1⟩ := one_arg hv
    have hv1 : v = .ref q := hv1
    subst hv1
    have hD2 := (hD.ex e1).ex e2
    obtain ⟨dx, x, qp, xs, h1, h2⟩ := id hD2
    exact ⟨q, dx, _, rfl, h1, q, ⟨sg, cur, past⟩, (), [], H2, rfl, hD2, Ex.refl _, rfl, trivial, fun v H3 e3 hv => ⟨cur.ts.length, Im.eint hv, by omega, by rw [← Im.eint hv]; exact g v H3 e3 hv⟩⟩) hg (by decide) (by decide) he hpl
theorem ev_itemS {x : Str} {i : Nat} (E : En X.w X.K X.mg X.base) (hr : Room k' X.A) (ha : Ev X a σ H (rV (.ref q))) (hx : Ev X (.Name x px) σ H (rI (i : Int))) (hD : ShD X.K H q sg cur past) (ok : OkP sg cur) (hi : i < cur.ts.length) (hk : 9 ≤ k' := by decide) :
    Ev X (.Subscript a (.Name x px) pos) σ H (rS ((lineF cur.f cur.s cur.ts).getD i [])) := fun H1 e1 Q g => by
  obtain ⟨fd, ps, ds, F, hb, hd⟩ := mk_getitem (P := X.prog) E
  cases hd
  have hfn : PySem.W.fnIn X.K (He.fAd X.K ("Shelf", some "__getitem__")) = true := by
    obtain ⟨fd2, G⟩ := E.fn D_Shelf___getitem__ (List.mem_of_getElem? (i := 24) rfl)
    obtain ⟨oc, od, dV, kV, doc, pm, an, cdv, ct, osl, rfl, lk, _⟩ := G.ex
    have lk : X.K.lookup (He.fAd X.K ("Shelf", some "__getitem__")) = _ := lk
    unfold PySem.W.fnIn
    rw [lk]
  refine ⟨_, call_itemO F (E.meS 112) hfn hb (hr.mono hk) we_ok we_ok, ha H1 e1 _ fun u H2 e2 hu => hx H2 (e1.trans e2) _ fun v H3 e3 hv => ?_⟩
  have hu : u = .ref q := hu
  subst hu
  have hD3 := hD.ex ((e1.trans e2).trans e3)
  obtain ⟨dx, x, qp, xs, h1, h2⟩ := id hD3
  exact ⟨q, dx, _, rfl, h1, q, ⟨sg, cur, past⟩, i, [v], H3, rfl, hD3, Ex.refl _, ⟨v, [], rfl, hv, rfl⟩, ⟨ok, hi⟩, g.mono (e2.trans e3)⟩
theorem ev_tabS (E : En X.w X.K X.mg X.base) (hr : Room k' X.A) (ha : Ev X a σ H (rV (.ref q))) (hD : ShD X.K H q sg cur past) (hk : 2 ≤ k' := by decide) (hb : attributeBase a "table" X.env (eval a X.env) = eval a X.env := by rfl) : Ev X (.Attribute a "table" pos) σ H (rV (.ref cur.tv)) := fun H1 e1 Q g => by
  obtain ⟨dx, x, qp, xs, h1, h2⟩ := hD.ex e1
  exact we_prop E.clsS (E.prS 0) (mk_gtab E) hr (ha.mono e1) h1 (fun H2 e2 => ⟨q, sg, cur, past, rfl, (hD.ex e1).ex e2, g.mono e2⟩) hk hb
theorem ev_eqT {t : Addr} {f : Fn} (E : En X.w X.K X.mg X.base) (hr : Room k' X.A) (ha : Ev X a σ H (rV (.ref t))) (hb : Ev X b σ H (rV (.ref t))) (ht : (rTb X.K sg f).r H (.ref t) H) (hm : behindInMarks .Eq b = false) (hk : 1 ≤ k' := by decide) : Ev X (.Compare a [.Eq] [b] pos) σ H (rB true) := by
  obtain ⟨fd, ps, ds, F, hbi, hd⟩ := mk_Table_eq (P := X.prog) E
  cases hd
  refine ev_cmp (op_eqO F (He.meth_ok (E.fa (.meth "Table" "__eq__") (List.mem_of_getElem? (i := 114) rfl))) hbi (hr.mono hk)) ha hb (fun S x y H2 Q e1 e2 hx hy g => ?_) hm
  have hx : x = .ref t := hx
  have hy : y = .ref t := hy
  subst hx hy
  have ht2 : (rTb X.K sg f).r H2 (.ref t) H2 := tb_kp (S' := H2) ht (.of (e1.trans e2))
  obtain ⟨a', dx, vl, dw, kvs, ks, ea, h1, h2, h3⟩ := id ht2
  cases ea
  exact ⟨t, dx, t, dx, vl, vl, rfl, rfl, .inr ⟨h1, h2⟩, .inr ⟨h1, h2⟩, t, sg, f, rfl, ht2, fun v H3 e3 hv => ⟨⟨true, Im.ebl hv⟩, g v H3 e3 hv⟩⟩
end
end Lk

set_option maxHeartbeats 1000000
/-! The end of _law_stands. -/
namespace Lk
open PySem PySem.Spec PyProof.Rows L2
open Evl (Ex)
theorem sh_texts {sg : List Nat} {ls : List (List Nat)} (os : OkSg sg) (h : ∀ t ∈ ls, OkT sg t) : ∀ x ∈ ls.map eS, Shw 200 0 x := fun x hx => by
  obtain ⟨t, ht, rfl⟩ := List.mem_map.mp hx
  exact shw_str (fun c hc => by have := os.ok c ((h t ht).ok c hc); unfold OkC at this; omega) (h t ht).most
theorem cntK_le (ks : List (List Int)) (x : List Int) : cntK ks x ≤ ks.length := List.length_filter_le _ _
theorem cntI_le (hs : List Int) (x : Int) : cntI hs x ≤ hs.length := List.length_filter_le _ _
section
variable {P : Program} {w : World} {K : Frag} {mg : Str → Option Value} {base : Heap}
theorem stands_tail (E : En w K mg base) {cdv : Value} {Ar : Around} {outer : List Env} {s0 : Shared} {H0 H : Hp} {Q : VK} {EE : XK} (hr : Room 10 (Ar.deeper (envOfC D__law_stands.qual D__law_stands.scope s0.heap.objs.size (He.fAd K D__law_stands.at_) cdv))) (gd : Ar.guards = some [])
    {a o kn tx pl l4 l7 l9 l10 l12 : Addr} {v6 v13 : V} {sg : List Nat} {cur : Pe} {past : List Pe} {xs4 xs10 : List V} {gs : List (Nat × Nat)} {rs : List (Int × Nat)} (sh : ShD K H a sg cur past) (ho : H o = some (.dK (oD sg kn cur.s tx pl cur.tv))) (htb : (rTb K sg cur.f).r H (.ref cur.tv) H) (ok : OkP sg cur)
    (hl4 : H l4 = some (.lst xs4)) (im4 : Ims H xs4 ((lineF cur.f cur.s cur.ts).map eS)) (hl10 : H l10 = some (.lst xs10)) (im10 : Ims H xs10 (gs.map eNN)) (h13 : (rL (rs.map eIN)).r H v13 H)
    (eg : groupsF (sortK (keysF cur.f cur.s cur.ts)) = gs) (eh : headsF cur.f (lineF cur.f cur.s cur.ts) = rs) (bg : gs.length ≤ 200 ∧ ∀ p ∈ gs, p.1 ≤ 1000 ∧ p.2 ≤ 1000) (bh : rs.length ≤ 200 ∧ ∀ p ∈ rs, p.1.natAbs < 10 ^ 12 ∧ p.2 ≤ 1000) (q : ∀ H', Ex H H' → Q (.bl true) H') :
    Wm (Bx P w K mg base N__law_stands D__law_stands cdv Ar outer s0 H0 EE) (D__law_stands.body.drop 9) { nx := fun _ H' => Q .non H', rt := Q } [some (.ref a), some (.ref o), some (.ref tx), some (.ref kn), some (.ref l4), none, some v6, some (.ref l7), none, some (.ref l9), some (.ref l10), none, some (.ref l12), some v13, none, none] H := by
  have hu := hu_of hr
  have va : ∀ {Hx : Hp} S, (rV (.ref a)).r S (.ref a) Hx := fun _ => rfl
  have vo : ∀ {Hx : Hp} S, (rV (.ref o)).r S (.ref o) Hx := fun _ => rfl
  have lnok : ∀ t ∈ lineF cur.f cur.s cur.ts, OkT sg t := fun t ht => ok.t t (lineF_mem ht)
  have lnz : (lineF cur.f cur.s cur.ts).length = cur.ts.length := lineF_len _ _ _
  have tz := ok.most
  have ln : ∀ {Hx : Hp}, Ex H Hx → ∀ S, (rL ((lineF cur.f cur.s cur.ts).map eS)).r S (.ref l4) Hx := fun e _ => ⟨l4, xs4, rfl, e _ _ hl4, im4.ex e⟩
  have s2 : Sh (.list [.tuple (gs.map eNN), .tuple (rs.map eIN)]) := by
    have z : ∀ x ∈ [PyData.tuple (gs.map eNN), .tuple (rs.map eIN)], Shw 30000 2 x := fun x hx => by
      simp only [List.mem_cons, List.not_mem_nil, or_false] at hx
      rcases hx with rfl | rfl
      · refine (shw_tup (n := 100) (m := 1) fun y hy => ?_).mono (by rw [List.length_map]; omega) (by decide)
        obtain ⟨p, hp, rfl⟩ := List.mem_map.mp hy
        obtain ⟨b1, b2⟩ := bg.2 p hp
        refine (shw_tup (n := 40) (m := 0) fun u hu => ?_).mono (by simp) (by decide)
        simp only [List.mem_cons, List.not_mem_nil, or_false] at hu
        rcases hu with rfl | rfl
        · exact shw_nat (by omega)
        · exact shw_nat (by omega)
      · refine (shw_tup (n := 100) (m := 1) fun y hy => ?_).mono (by rw [List.length_map]; omega) (by decide)
        obtain ⟨p, hp, rfl⟩ := List.mem_map.mp hy
        obtain ⟨b1, b2⟩ := bh.2 p hp
        refine (shw_tup (n := 40) (m := 0) fun u hu => ?_).mono (by simp) (by decide)
        simp only [List.mem_cons, List.not_mem_nil, or_false] at hu
        rcases hu with rfl | rfl
        · exact shw_int b1
        · exact shw_nat (by omega)
    exact (shw_lst z).mono (by simp) (by decide)
  refine w_no (et_not (et_v (ev_like (d := .list [.tuple (gs.map eNN), .tuple (rs.map eIN)]) E gd hr
    (ev_l (ev_lst (eac (ρ := rD (.tuple (gs.map eNN))) (ev_d (ev_m0 E (E.meS 106) (mk_groups E) hr (ev_v (i := 0) rfl va) sh () rfl ok) (by rw [eg])) (eac (ρ := rD (.tuple (rs.map eIN))) (ev_d (ev_m0 E (E.meS 107) (mk_headings E) hr (ev_v (i := 0) rfl va) sh () rfl ok) (by rw [eh])) ea0)) (.cons (.cons .nil)) (by simp)))
    (ev_l (ev_lst (eac (ρ := rD (.tuple (gs.map eNN))) (ev_tuple E.tup (ev_ql (ev_v (i := 10) rfl fun _ => ⟨l10, xs10, rfl, hl10, im10⟩))) (eac (ρ := rD (.tuple (rs.map eIN))) (ev_tuple E.tup (ev_ql (ev_v (i := 13) rfl fun _ => h13))) ea0)) (.cons (.cons .nil)) (by simp))) trivial s2))) fun H1 e1 => ?_
  refine w_set (i := 15) sc__law_stands.nd (ev_lrg3 (n := cur.ts.length) (st := 1 + cur.ts.length / 3) rfl E.lst E.rng ev_int (ev_d (ev_len E.len (ev_ql (ev_v (i := 4) rfl (ln e1)))) (by rw [List.length_map, lnz])) (ev_d (ev_add (ev_int (i := 1)) (ev_fdiv (ev_d (ev_len E.len (ev_ql (ev_v (i := 4) rfl (ln e1)))) (by rw [List.length_map, lnz])) (ev_int (i := 3)) ⟨by decide, by decide⟩)) (by congr 1)) (by omega) (by omega) (by omega)) fun v15 H2 e2 hv15 => ?_
  obtain ⟨l15, xs15, rfl, _, hl15, im15⟩ := hv15
  generalize hsp : spotsF cur.ts.length (1 + cur.ts.length / 3) = sp at im15
  have spl : ∀ k ∈ sp, k < cur.ts.length := fun k hk => by
    rw [← hsp] at hk
    exact spots_lt (by omega) hk
  have spz : sp.length ≤ 200 := by
    rw [← hsp]
    unfold spotsF
    rw [List.length_map, List.length_range]
    exact Nat.le_trans (cntS_le (by omega)) tz
  have e12 := e1.trans e2
  refine w_lc (i := 6) (own := [("_law_k", 5)]) (lc_all sp eN (fun k => eS ((lineF cur.f cur.s cur.ts).getD k [])) (wk_v (ev_v (i := 15) rfl fun _ => rfl) hl15 im15) rfl (by omega) fun k hk => tn_0 (j := 5) sc__law_stands.nd fun x H3 e3 hx s H0 C cl fp => ev_ixl (ev_v (i := 4) rfl (ln (e12.trans e3))) (ev_v (i := 5) (ρ := rI (k : Int)) rfl fun _ => hx) (getD_atS (by rw [lnz]; exact spl k hk))) rfl sc__law_stands.nd fun v6' H3 e3 hv6 => ?_
  obtain ⟨l6, xs6, rfl, _, hl6, im6⟩ := hv6
  have e13 := e12.trans e3
  have sh3 := sh.ex e13
  have s3 : Sh (.list (sp.map fun k => eS ((lineF cur.f cur.s cur.ts).getD k []))) := by
    refine (shw_lst (n := 200) (m := 0) fun x hx => ?_).mono (by rw [List.length_map]; omega) (by decide)
    obtain ⟨k, hk, rfl⟩ := List.mem_map.mp hx
    refine sh_texts ok.f.sn lnok _ (List.mem_map.mpr ⟨_, ?_, rfl⟩)
    have hkl : k < (lineF cur.f cur.s cur.ts).length := by rw [lnz]; exact spl k hk
    rw [List.getD_eq_getElem?_getD, List.getElem?_eq_getElem hkl]
    exact List.getElem_mem hkl
  refine w_ret (ρ := rB true) (ev_d (ev_and (u := true) (ev_eqT (sg := sg) (f := cur.f) E hr (ev_tabS E hr (ev_v (i := 0) rfl va) sh3) (ev_oV (v := .ref cur.tv) hu (ev_v (i := 1) rfl vo) (e13 _ _ ho)) (tb_kp htb (.of e13)) (nomark _)) fun _ => ev_one (ev_like (d := .list (sp.map fun k => eS ((lineF cur.f cur.s cur.ts).getD k []))) E gd hr
    (ev_l (ev_lc (own := [("_law_k", 5)]) (lc_all sp eN (fun k => eS ((lineF cur.f cur.s cur.ts).getD k [])) (wk_v (ev_v (i := 15) rfl fun _ => rfl) (e3 _ _ hl15) (im15.ex e3)) rfl (by omega) fun k hk => tn_0 (j := 5) sc__law_stands.nd fun x H4 e4 hx s H0 C cl fp => ev_itemS E hr (ev_v (i := 0) rfl va) (ev_v (i := 5) (ρ := rI (k : Int)) rfl fun _ => hx) (sh3.ex e4) ok (spl k hk)) rfl sc__law_stands.nd))
    (ev_v (i := 6) rfl fun _ => ⟨l6, xs6, rfl, hl6, im6⟩) trivial s3)) rfl) fun v H4 e4 hv => ?_
  have hv := Im.ebl hv
  subst hv
  exact q H4 (e13.trans e4)
end
end Lk

set_option maxHeartbeats 1000000
/-! The promise of _law_stands. -/
namespace Lk
open PySem PySem.Spec PyProof.Rows L2
open Evl (Ex)
theorem getD_K {ks : List (List Int)} {n : Nat} (h : n < ks.length) : atI (ks.map eK) (n : Int) = some (eK (ks.getD n [])) := by
  apply atI_nat
  rw [List.getElem?_map, List.getD_eq_getElem?_getD, List.getElem?_eq_getElem h] <;> rfl
theorem hd_at (f : Fn) (t : List Nat) : ∃ ds, atI ((rowF f t).map eU ++ [PyData.tuple [.int 0, .int 0, .int 0]]) 0 = some (.tuple ds) ∧ atI ds 0 = some (.int (hdF f t)) := by
  unfold hdF
  cases h : rowF f t with
  | nil => exact ⟨_, atI_zero _ _, atI_zero _ _⟩
  | cons u us => exact ⟨_, atI_zero _ _, atI_zero _ _⟩
theorem set_ok {hs : List Int} (ks : List Key) (h : ks.Perm (allS (hs.map .inl))) : PySem.W.AllAlike (ks.map kD) ∧ PySem.W.Sortable (ks.map kD) := by
  have mem : ∀ d ∈ ks.map kD, ∃ i, d = .int i := fun d hd => by
    obtain ⟨k, hk, rfl⟩ := List.mem_map.mp hd
    have z := allS_mem.mp (h.mem_iff.mp hk)
    obtain ⟨i, _, rfl⟩ := List.mem_map.mp z
    exact ⟨i, rfl⟩
  refine ⟨fun d hd d' hd' => ?_, .inr fun d hd => ?_⟩
  · obtain ⟨i, rfl⟩ := mem d hd
    obtain ⟨j, rfl⟩ := mem d' hd'
    simp [PySem.W.alike]
  · obtain ⟨i, rfl⟩ := mem d hd
    exact ⟨by simp, by simp⟩
section
variable {X : Cx} {σ : L2.St} {H : Hp} {a : Expr} {p p2 p4 p5 : Pos}
theorem ev_srtset {hs : List Int} (hc : X.calm = true) (hm : X.mg "sorted" = none) (hm2 : X.mg "set" = none) (hu : X.A.units + 64 < cLine) (ha : Ev X a σ H (rL (hs.map .int))) (hz : hs.length ≤ 1000) (hg : Gl X "sorted" := by rfl) (hg2 : Gl X "set" := by rfl) (he : starEach [a] X.env = (false, eval a X.env) :: starEach [] X.env := by rfl) (hpl : (backTo p4 (starEach [] X.env)).any (·.1) = false := by rfl)
    (he2 : starEach [.Call (.Name "set" p2) [a] [] p4] X.env = (false, eval (.Call (.Name "set" p2) [a] [] p4) X.env) :: starEach [] X.env := by rfl) (hpl2 : (backTo p5 (starEach [] X.env)).any (·.1) = false := by rfl) :
    Ev X (.Call (.Name "sorted" p) [.Call (.Name "set" p2) [a] [] p4] [] p5) σ H (rF ((nsF hs).map .int)) :=
  (ev_sortSt (ks := allS (hs.map .inl)) hc hm hu (ev_set (hs.map .inl) hc hm2 ha (by rw [List.map_map] <;> rfl) (by rw [List.length_map]; omega) hg2 he hpl) (by have z := allS_le (hs.map (Sum.inl : Int → Key)); rw [List.length_map] at z; omega) set_ok hg he2 hpl2).imp fun S v H9 _ _ ⟨ks', hp, hv⟩ => by
    rw [set_sorted hp, List.map_map] at hv
    exact hv
end
theorem oku_abs {u : U} (h : OkU u) : u.1.natAbs < 10 ^ 12 := by
  have := h.a
  omega
section
variable {P : Program} {w : World} {K : Frag} {mg : Str → Option Value} {base : Heap}
abbrev p_stands (K : Frag) : Sp := fun vs H Q _ => ∃ (a o : Addr) (sg : List Nat) (n1 N : Nat) (cur : Pe) (past : List Pe), vs = [.ref a, .ref o] ∧ St K H a o sg n1 N cur past ∧ N ≤ 50 ∧ ∀ H', Ex H H' → Q (.bl true) H'
theorem mk_stands (E : En w K mg base) : CalG P w K mg base "_law_stands" 11 (p_stands K) :=
  calGd_of E D__law_stands 57 54 sc__law_stands (fun vs H Q EE h => by obtain ⟨a, o, sg, n1, N, cur, past, rfl, _⟩ := h; rfl) (fun cdv Ar outer s H vs Q EE hr gd h => by
    obtain ⟨a, o, sg, n1, N, cur, past, rfl, S, n50, q⟩ := h
    have hu := hu_of hr
    have okn := S.ok cur (List.mem_cons_self ..)
    have ok := okn.ok n50
    obtain ⟨sh, ⟨kn, tx, pl, ws, ho, hpl, hpo, hl⟩, okA, _⟩ := S
    have va : ∀ {Hx : Hp} S, (rV (.ref a)).r S (.ref a) Hx := fun _ => rfl
    have vo : ∀ {Hx : Hp} S, (rV (.ref o)).r S (.ref o) Hx := fun _ => rfl
    have lnok : ∀ t ∈ lineF cur.f cur.s cur.ts, OkT sg t := fun t ht => ok.t t (lineF_mem ht)
    have lnz : (lineF cur.f cur.s cur.ts).length = cur.ts.length := lineF_len _ _ _
    have tz := ok.most
    refine w_par2 (i := 2) (j := 3) rfl sc__law_stands.nd (ev_oV (v := .ref tx) hu (ev_v (i := 1) rfl vo) ho) (ev_oV (v := .ref kn) hu (ev_v (i := 1) rfl vo) ho) fun v1 v2 H1 e1 hv1 hv2 => ?_
    have hv1 : v1 = .ref tx := hv1
    have hv2 : v2 = .ref kn := hv2
    subst hv1 hv2
    refine w_set (i := 4) sc__law_stands.nd (ev_lc (own := [("_law_k", 5)]) (lc_all (orderF (keysF cur.f cur.s cur.ts)) eN (fun n => eS (cur.ts.getD n [])) (wk_l (ev_pr (mk_law_line E) hr ⟨sg, cur.f, cur.s, cur.ts⟩ ⟨ok.f, ok.s, ok.t, by show cur.ts.length ≤ _; omega⟩ (eac (ev_v (i := 3) rfl fun S => (hl.ex e1).kf S) (eac ((ev_oV (v := .int cur.s) hu (ev_v (i := 1) rfl vo) (e1 _ _ ho)).to fun _ _ _ => .int _) (eac (ev_v (i := 2) rfl fun S => (hl.ex e1).tl S) ea0))))) rfl (by rw [orderF_most]; omega) fun n hn => tn_0 (j := 5) sc__law_stands.nd fun x H2 e2 hx s H0 C cl fp => ev_ixl (ev_v (i := 2) rfl fun S => (hl.ex (e1.trans e2)).tl S) (ev_v (i := 5) (ρ := rI (n : Int)) rfl fun _ => hx) (getD_atS (orderF_ts hn))) rfl sc__law_stands.nd) fun v4 H2 e2 hv4 => ?_
    obtain ⟨l4, xs4, rfl, _, hl4, im4⟩ := hv4
    have im4 : Ims H2 xs4 ((lineF cur.f cur.s cur.ts).map eS) := by
      rw [lineF, List.map_map]
      exact im4
    have e02 := e1.trans e2
    have ln : ∀ {Hx : Hp}, Ex H2 Hx → ∀ S, (rL ((lineF cur.f cur.s cur.ts).map eS)).r S (.ref l4) Hx := fun e _ => ⟨l4, xs4, rfl, e _ _ hl4, im4.ex e⟩
    refine w_set (i := 6) (ρ := rL [.tuple ((lineF cur.f cur.s cur.ts).map eS), .int (cur.ts.length : Int), .int cur.s]) sc__law_stands.nd (ev_l (ev_lst (eac (ρ := rD (.tuple ((lineF cur.f cur.s cur.ts).map eS))) (ev_tuple E.tup (ev_ql (ev_v (i := 4) rfl (ln (Ex.refl _))))) (eac (ρ := rI (cur.ts.length : Int)) (ev_d (ev_len E.len (ev_ql (ev_v (i := 2) rfl fun S => (hl.ex e02).tl S))) (by rw [List.length_map])) (eac (ρ := rI cur.s) ((ev_oV (v := .int cur.s) hu (ev_v (i := 1) rfl vo) (e02 _ _ ho)).to fun _ _ _ => .int _) ea0))) (.cons (.cons (.cons .nil))) (by simp))) fun v6 H3 e3 hv6 => ?_
    have e03 := e02.trans e3
    have sh3 := sh.ex e03
    have s1 : Sh (.list [.tuple ((lineF cur.f cur.s cur.ts).map eS), .int (cur.ts.length : Int), .int cur.s]) := by
      have z : ∀ x ∈ [PyData.tuple ((lineF cur.f cur.s cur.ts).map eS), .int (cur.ts.length : Int), .int cur.s], Shw 50000 1 x := fun x hx => by
        simp only [List.mem_cons, List.not_mem_nil, or_false] at hx
        rcases hx with rfl | rfl | rfl
        · refine (shw_tup (sh_texts ok.f.sn lnok)).mono ?_ (by decide)
          rw [List.length_map, lnz]
          omega
        · exact (shw_nat (by omega)).mono (by decide) (by decide)
        · have := ok.s
          exact (shw_int (by omega)).mono (by decide) (by decide)
      exact (shw_lst z).mono (by simp) (by decide)
    refine w_no (et_not (et_v (ev_like (d := .list [.tuple ((lineF cur.f cur.s cur.ts).map eS), .int (cur.ts.length : Int), .int cur.s]) E gd hr (ev_l (ev_lst (eac (ρ := rD (.tuple ((lineF cur.f cur.s cur.ts).map eS))) (ev_prS E (E.prS 2) (mk_gline E) hr (ev_v (i := 0) rfl va) sh3 () rfl ok) (eac (ρ := rI (cur.ts.length : Int)) (ev_lenS E hr (ev_v (i := 0) rfl va) sh3 tz) (eac (ρ := rI cur.s) (ev_prS E (E.prS 1) (mk_gstr E) hr (ev_v (i := 0) rfl va) sh3 () rfl trivial) ea0))) (.cons (.cons (.cons .nil))) (by simp))) (ev_v (i := 6) rfl fun _ => hv6) trivial s1))) fun H4 e4 => ?_
    have e24 := e3.trans e4
    have e04 := e03.trans e4
    refine w_set (i := 7) sc__law_stands.nd (ev_lc (own := [("_law_text_here", 8)]) (lc_all (lineF cur.f cur.s cur.ts) eS (fun t => eK (keyF cur.f cur.s t)) (wk_v (ev_v (i := 4) rfl fun _ => rfl) (e24 _ _ hl4) (im4.ex e24)) rfl (by omega) fun t ht => tn_0 (j := 8) sc__law_stands.nd fun x H5 e5 hx s H0 C cl fp => ev_pr (mk_law_key E) hr ⟨sg, cur.f, cur.s, t⟩ ⟨ok.f, ok.s, lnok t ht⟩ (eac (ev_v (i := 3) rfl fun S => (hl.ex (e04.trans e5)).kf S) (eac (ev_v (i := 8) (ρ := rS t) rfl fun _ => hx) (eac ((ev_oV (v := .int cur.s) hu (ev_v (i := 1) rfl vo) ((e04.trans e5) _ _ ho)).to fun _ _ _ => .int _) ea0)))) rfl sc__law_stands.nd) fun v7 H5 e5 hv7 => ?_
    obtain ⟨l7, xs7, rfl, _, hl7, im7⟩ := hv7
    generalize hks : (lineF cur.f cur.s cur.ts).map (keyF cur.f cur.s) = ks
    have kz : ks.length = cur.ts.length := by rw [← hks, List.length_map, lnz]
    have im7 : Ims H5 xs7 (ks.map eK) := by
      rw [← hks, List.map_map]
      exact im7
    have kl : ∀ {Hx : Hp}, Ex H5 Hx → ∀ S, (rL (ks.map eK)).r S (.ref l7) Hx := fun e _ => ⟨l7, xs7, rfl, e _ _ hl7, im7.ex e⟩
    have ksort : ks = sortK (keysF cur.f cur.s cur.ts) := by rw [← hks, line_keys]
    have pw : ks.Pairwise (· ≤ ·) := by rw [ksort]; exact sortK_pw _
    have e05 := e04.trans e5
    have e25 := e24.trans e5
    refine w_lc (i := 9) (own := [("_law_k", 5)]) (lc_if (List.range ks.length) eN (isSt ks) eN (wk_r1 E.rng (n := (ks.length : Int)) (ev_d (ev_len E.len (ev_ql (ev_v (i := 4) rfl (ln e25)))) (by rw [List.length_map, lnz, kz])) (by omega) (by omega)) (by rw [rng_map, Int.toNat_natCast]; exact List.map_congr_left fun k _ => by show PyData.int (0 + (k : Int)) = PyData.int (k : Int); rw [Int.zero_add]) (by rw [List.length_range]; omega) fun k hk => tn_n (j := 5) sc__law_stands.nd fun x H6 e6 hx => ⟨fun s H0 C cl fp => ?_, fun _ s H0 C cl fp => ev_v (i := 5) (ρ := rI (k : Int)) rfl fun _ => hx⟩) rfl sc__law_stands.nd fun v9 H6 e6 hv9 => ?_
    · have hk := List.mem_range.mp hk
      refine ets1 (et_or (t := decide (k = 0)) (u := !decide (ks.getD k [] = ks.getD (k - 1) [])) (et_b (et_cmp (op := .Eq) op_eq (ev_v (i := 5) (ρ := rI (k : Int)) rfl fun _ => hx) (ev_int (i := 0)) r_eqi (nomark _)) (by by_cases h0 : k = 0 <;> simp [h0])) fun h0 => ew_or1 ?_)
      have h0 : ¬ k = 0 := of_decide_eq_false h0
      have z := @eqv_eK (ks.getD k []) (ks.getD (k - 1) [])
      refine et_b (et_cmp (op := .NotEq) (op_neD hr.units) (ev_ixl (ev_v (i := 7) rfl (kl e6)) (ev_v (i := 5) (ρ := rI (k : Int)) rfl fun _ => hx) (getD_K hk)) (ev_ixl (i := ((k - 1 : Nat) : Int)) (ev_v (i := 7) rfl (kl e6)) (ev_d (ev_sub (ev_v (i := 5) (ρ := rI (k : Int)) rfl fun _ => hx) ev_int) (by congr 1; omega)) (getD_K (by omega))) (r_ned (shp_eK _).ok (shp_eK _).ok) (nomark _)) (by rw [z])
    obtain ⟨l9, xs9, rfl, _, hl9, im9⟩ := hv9
    have im9 : Ims H6 xs9 ((startsF ks).map eN) := im9
    have e06 := e05.trans e6
    have stl : ∀ k ∈ startsF ks, k < ks.length := fun k hk => List.mem_range.mp (List.mem_filter.mp hk).1
    have stz : (startsF ks).length ≤ 200 := by
      have z := List.length_filter_le (isSt ks) (List.range ks.length)
      rw [List.length_range] at z
      exact Nat.le_trans z (by omega)
    refine w_lc (i := 10) (own := [("_law_k", 5)]) (lc_all (startsF ks) eN (fun k => eNN (k, cntK ks (ks.getD k []))) (wk_v (ev_v (i := 9) rfl fun _ => rfl) hl9 im9) rfl (by omega) fun k hk => tn_0 (j := 5) sc__law_stands.nd fun x H7 e7 hx s H0 C cl fp => ev_t2 (ev_v (i := 5) (ρ := rI (k : Int)) rfl fun _ => hx) (ev_d (ev_len E.len (ev_qf (ev_lc (own := [("_law_far", 11)]) (lc_if ks eK (fun y => decide (y = ks.getD k [])) (fun _ => .int 1) (wk_v (ev_v (i := 7) rfl fun _ => rfl) ((e6.trans e7) _ _ hl7) (im7.ex (e6.trans e7))) rfl (by omega) fun y hy => tn_n (j := 11) sc__law_stands.nd fun x2 H8 e8 hx2 => ⟨fun s2 H02 C2 cl2 fp2 => ets1 (et_b (et_cmp (op := .Eq) (op_eqD hr.units) (ev_v (i := 11) (ρ := rD (eK y)) rfl fun _ => hx2) (ev_ixl (ev_v (i := 7) rfl (kl ((e6.trans e7).trans e8))) (ev_v (i := 5) (ρ := rI (k : Int)) rfl fun _ => Im.ex hx e8) (getD_K (stl k hk))) (r_eqd (shp_eK _).ok (shp_eK _).ok) (nomark _)) (by rw [eqv_eK])), fun _ s2 H02 C2 cl2 fp2 => ev_int⟩) rfl sc__law_stands.nd))) (by rw [List.length_map] <;> rfl))) rfl sc__law_stands.nd fun va0 H7 e7 hv10 => ?_
    obtain ⟨l10, xs10, rfl, _, hl10, im10⟩ := hv10
    have im10 : Ims H7 xs10 ((groupsL ks).map eNN) := by
      rw [groupsL, List.map_map]
      exact im10
    have e07 := e06.trans e7
    have e27 := (e25.trans e6).trans e7
    generalize hhs : (lineF cur.f cur.s cur.ts).map (hdF cur.f) = hs
    have hz : hs.length = cur.ts.length := by rw [← hhs, List.length_map, lnz]
    refine w_set (i := 12) sc__law_stands.nd (ev_f (ds' := hs.map .int) (ev_lc (own := [("_law_text_here", 8)]) (lc_all (lineF cur.f cur.s cur.ts) eS (fun t => .int (hdF cur.f t)) (wk_v (ev_v (i := 4) rfl fun _ => rfl) (e27 _ _ hl4) (im4.ex e27)) rfl (by omega) fun t ht => tn_0 (j := 8) sc__law_stands.nd fun x H8 e8 hx s H0 C cl fp => ?_) rfl sc__law_stands.nd) (by rw [← hhs, List.map_map] <;> rfl)) fun v12 H8 e8 hv12 => ?_
    · have zr := (rowF_len ok.f (lnok t ht).ok).1
      have tm := (lnok t ht).most
      obtain ⟨ds, a1, a2⟩ := hd_at cur.f t
      exact ev_ixt (ds := ds) (i := 0) (ev_ixt (i := 0) (d := .tuple ds) (ev_addA (ev_pr (mk_law_row E) hr ⟨sg, cur.f, t⟩ ⟨ok.f, lnok t ht⟩ (eac (ev_v (i := 3) rfl fun S => (hl.ex (e07.trans e8)).kf S) (eac (ev_v (i := 8) (ρ := rS t) rfl fun _ => hx) ea0))) (ev_t1 (ev_t3 (ev_int (i := 0)) (ev_int (i := 0)) (ev_int (i := 0)))) (by rw [List.length_map]; simp; omega)) ev_int a1) ev_int a2
    obtain ⟨l12, xs12, rfl, _, hl12, im12⟩ := hv12
    have hdl : ∀ {Hx : Hp}, Ex H8 Hx → ∀ S, (rL (hs.map .int)).r S (.ref l12) Hx := fun e _ => ⟨l12, xs12, rfl, e _ _ hl12, im12.ex e⟩
    have e08 := e07.trans e8
    have nz := nsF_len hs
    refine w_lc (i := 13) (own := [("_law_head", 14)]) (lc_all (nsF hs) .int (fun h => eIN (h, cntI hs h)) (wk_l (ev_srtset rfl E.srt E.set hr.units (ev_v (i := 12) rfl (hdl (Ex.refl _))) (by omega))) rfl (by omega) fun h hh => tn_0 (j := 14) sc__law_stands.nd fun x H9 e9 hx s H0 C cl fp => ev_t2 (ev_v (i := 14) (ρ := rI h) rfl fun _ => hx) (ev_d (ev_len E.len (ev_qf (ev_lc (own := [("_law_far", 11)]) (lc_if hs .int (fun y => decide (y = h)) (fun _ => .int 1) (wk_v (ev_v (i := 12) rfl fun _ => rfl) (e9 _ _ hl12) (im12.ex e9)) rfl (by omega) fun y hy => tn_n (j := 11) sc__law_stands.nd fun x2 H10 e10 hx2 => ⟨fun s2 H02 C2 cl2 fp2 => ets1 (et_cmp (op := .Eq) op_eq (ev_v (i := 11) (ρ := rI y) rfl fun _ => hx2) (ev_v (i := 14) (ρ := rI h) rfl fun _ => Im.ex hx e10) r_eqi (nomark _)), fun _ s2 H02 C2 cl2 fp2 => ev_int⟩) rfl sc__law_stands.nd))) (by rw [List.length_map] <;> rfl))) rfl sc__law_stands.nd fun v13 H9 e9 hv13 => ?_
    obtain ⟨l13, xs13, rfl, _, hl13, im13⟩ := hv13
    have e09 := e08.trans e9
    have h29 := (e27.trans e8).trans e9
    refine stands_tail E hr gd (gs := groupsL ks) (rs := (nsF hs).map fun h => (h, cntI hs h)) (sh.ex e09) (e09 _ _ ho) (tb_kp (hl.ex e09).tb (.of (Ex.refl _))) ok (h29 _ _ hl4) (im4.ex h29) ((e8.trans e9) _ _ hl10) (im10.ex (e8.trans e9)) ⟨l13, xs13, rfl, hl13, by rw [List.map_map]; exact im13⟩ (by rw [← ksort, groups_eq pw]) (by rw [heads_eq, hhs]) ⟨by rw [groupsL, List.length_map]; exact stz, fun p hp => ?_⟩ ⟨by rw [List.length_map]; omega, fun p hp => ?_⟩ fun H' e' => q H' (e09.trans e')
    · obtain ⟨k, hk, rfl⟩ := List.mem_map.mp hp
      have z1 := stl k hk
      have z2 := cntK_le ks (ks.getD k [])
      exact ⟨by show k ≤ 1000; omega, by show cntK ks _ ≤ 1000; omega⟩
    · obtain ⟨h, hh, rfl⟩ := List.mem_map.mp hp
      have z2 := cntI_le hs h
      refine ⟨?_, by show cntI hs h ≤ 1000; omega⟩
      have hm := nsF_mem.mp hh
      rw [← hhs] at hm
      obtain ⟨t, ht, rfl⟩ := List.mem_map.mp hm
      have zr := (rowF_len ok.f (lnok t ht).ok).2
      show (hdF cur.f t).natAbs < 10 ^ 12
      unfold hdF
      cases hr2 : rowF cur.f t with
      | nil => decide
      | cons u us => exact oku_abs (zr u (by rw [hr2]; exact List.mem_cons_self ..))) (fun _ _ _ _ _ _ us hl => match us, hl with | [_, _], _ => rfl)
end
end Lk

set_option maxHeartbeats 1000000
/-! _law_filled. -/
namespace Lk
open PySem PySem.Spec PyProof.Rows L2
open Evl (Ex)
section
variable {X : Cx} {σ : L2.St} {H H' : Hp} {e a b c o : Expr} {pos p p2 : Pos} {D : Ends} {rest q1 q2 : List Stmt}
theorem wt_not {Q : Bool → Hp → Prop} (h : We X e σ H fun v H1 => ∃ t, v = .bl t ∧ Q (!t) H1) (he : ∀ whole, isTrue e X.env whole = (do let v ← whole; standAt e.pos; holding [v] (truthy v)) := by intro _; rfl) : Wt X (.UnaryOp .Not e p) σ H Q := ⟨_, pt_not (pt_val we_ok he), h⟩
/-- if not e: .., where e is True -/
theorem w_noW (h : We X e σ H fun v H1 => v = .bl true ∧ Wm X rest D σ H1) (he : ∀ whole, isTrue e X.env whole = (do let v ← whole; standAt e.pos; holding [v] (truthy v)) := by intro _; rfl) : Wm X (.If (.UnaryOp .Not e p) q1 [] pos :: rest) D σ H :=
  w_ifW (wt_not (we_mono h fun v H1 ⟨e1, z⟩ => ⟨true, e1, by
    rw [if_neg (by decide)]
    exact w_end z⟩) he)
/-- if a and b, both ways joined -/
theorem w_ifAndJ (J : L2.St → Hp → Prop) (hJ : ∀ σ' H', J σ' H' → Wm X rest D σ' H') (h : ∀ N : L2.St → Hp → Prop, (∀ σ' H', J σ' H' → N σ' H') → Wt X a σ H fun t H1 => if t = true then Wt X b σ H1 (fun t H2 => if t = true then Wm X q1 { D with nx := N } σ H2 else Wm X [] { D with nx := N } σ H2) else Wm X [] { D with nx := N } σ H1) : Wm X (.If (.BoolOp .And [a, b] p) q1 [] pos :: rest) D σ H :=
  w_ifAnd (h _ hJ)
end
/-- the state below all -/
def bot (cur : Pe) : List Pe → Pe
  | [] => cur
  | p :: _ => p
theorem bot_snoc (new cur : Pe) (past : List Pe) : bot new (past ++ [cur]) = bot cur past := by cases past <;> rfl
theorem dr_own {m c g o : Addr} {sg : List Nat} {kn tx pl tb : Addr} {s : Int} {H H' : Hp} {r : Nat} (d : Dr m g H H') (st : Mst m c g H r) (h : H o = some (.dK (oD sg kn s tx pl tb))) : H' o = some (.dK (oD sg kn s tx pl tb)) := d.keep h (mst_own st h).1.symm (.inl (mst_own st h).2.2.symm)
theorem dr_lst {m c g q : Addr} {xs : List V} {H H' : Hp} {r : Nat} (d : Dr m g H H') (st : Mst m c g H r) (h : H q = some (.lst xs)) (cu : Cst (.lst xs)) : H' q = some (.lst xs) := mst_kpD st d _ _ h cu
section
variable {P : Program} {w : World} {K : Frag} {mg : Str → Option Value} {base : Heap}
abbrev p_filled (K : Frag) : Sp := fun vs H Q _ => ∃ (m c g a o : Addr) (many : Nat) (sg : List Nat) (n1 N : Nat) (cur : Pe) (past : List Pe) (r : Nat), vs = [.ref m, .ref a, .ref o, .int (many : Int)] ∧ Mst m c g H (r + 100 * many) ∧ St K H a o sg n1 N cur past ∧ N + many ≤ 45 ∧
  ∀ H' cur' past', Dd m g [a, o] H H' → Mst m c g H' r → St K H' a o sg n1 (N + many) cur' past' → cur'.ts.length = cur.ts.length + many → bot cur' past' = bot cur past → Q (.bl true) H'
theorem mk_filled (E : En w K mg base) : CalG P w K mg base "_law_filled" 8 (p_filled K) :=
  calGd_of E D__law_filled 64 61 sc__law_filled (fun vs H Q EE h => by obtain ⟨m, c, g, a, o, many, sg, n1, N, cur, past, r, rfl, _⟩ := h; rfl) (fun cdv Ar outer s H vs Q EE hr gd h => by
    obtain ⟨m, c, g, a, o, many, sg, n1, N, cur, past, r, rfl, st, S, n45, q⟩ := h
    have hu := hu_of hr
    have vm : ∀ {Hx : Hp} S, (rV (.ref m)).r S (.ref m) Hx := fun _ => rfl
    have va : ∀ {Hx : Hp} S, (rV (.ref a)).r S (.ref a) Hx := fun _ => rfl
    have vo : ∀ {Hx : Hp} S, (rV (.ref o)).r S (.ref o) Hx := fun _ => rfl
    refine w_forR rfl E.rng (Ev.app (ev_v (i := 3) (ρ := rI (many : Int)) rfl fun _ => .int _) fun v1 H1 e1 hv1 => ⟨many, Im.eint hv1, by omega, fun i σ' H' => ∃ x4 x5 x6 x7, σ' = [some (.ref m), some (.ref a), some (.ref o), some (.int (many : Int)), x4, x5, x6, x7] ∧ Dd m g [a, o] H H' ∧ Mst m c g H' (r + 100 * (many - i)) ∧ ∃ cur' past', St K H' a o sg n1 (N + i) cur' past' ∧ cur'.ts.length = cur.ts.length + i ∧ bot cur' past' = bot cur past,
      ⟨_, _, _, _, rfl, .of e1, st.ex e1, cur, past, S.ex e1, rfl, rfl⟩, fun i σ' H2 hi h2 => ?_, fun σ' H2 h2 => ?_⟩)
    · obtain ⟨x4, x5, x6, x7, rfl, d2, st2, cur, past, S, lz, bz⟩ := h2
      have out := mst_St st2 S
      have okn := S.ok cur (List.mem_cons_self ..)
      have ok := okn.ok (by omega)
      have os := ok.f.sn
      have tz := okn.most
      obtain ⟨kn, tx, pl, ws, ho, hpl, hpo, hl⟩ := S.ow
      obtain ⟨xs, htx, imx⟩ := hl.tx
      refine wg_n (i := 4) sc__law_filled.nd (w_parS (i := 5) (j := 6) rfl sc__law_filled.nd (Es.go (r := r + 100 * (many - i) - 1) (es_pick (ds := [.int 2, .int 4, .int 9]) (R := fun d => ∃ n : Nat, d = .int (n : Int) ∧ n ≤ 9) (fun H1 d => ev_lst (eac ev_int (eac ev_int (eac ev_int ea0))) (.cons (.cons (.cons .nil))) (by simp)) (es_draw (lim := 3) E hr (mk_draw E) (fun H1 d => ev_v (i := 0) rfl vm) (fun H1 d => ev_int) (by decide) (by decide)) (by simp) (fun d hd => by
        simp only [List.mem_cons, List.not_mem_nil, or_false] at hd
        rcases hd with rfl | rfl | rfl
        · exact ⟨2, rfl, by decide⟩
        · exact ⟨4, rfl, by decide⟩
        · exact ⟨9, rfl, by decide⟩)) (st2.mono (by omega)) fun v3 H3 d3 s3 hv3 => ?_) (by decide))
      obtain ⟨_, ⟨mo, rfl, mo9⟩, im3⟩ := hv3
      have im3 := Im.eint im3
      subst im3
      refine Es.go (r := r + 100 * (many - i) - 2) (es_draw (lim := 4) E hr (mk_draw E) (fun H1 d => ev_v (i := 0) rfl vm) (fun H1 d => ev_int) (by decide) (by decide)) (s3.mono (by omega)) fun v4 H4 d4 s4 ⟨way, ev4, w0, w1⟩ => ?_
      subst ev4
      have d24 := d3.trans d4
      refine w_setW (i := 7) sc__law_filled.nd (Es.go (r := r + 100 * (many - i) - 62) (es_pm (mk_text E) hr (sg, mo) ⟨os, by show mo ≤ 50; omega⟩ (sv_dp _) (fun H1 d => ev_v (i := 0) rfl vm) (fun H1 d => eac ((ev_oV (v := .str (T sg)) hu (ev_v (i := 2) rfl vo) (dr_own (d24.trans d) st2 ho)).to fun _ _ _ => .str _) (eac (ev_v (i := 5) (ρ := rI (mo : Int)) rfl fun _ => .int _) ea0))) (s4.mono (by show _ + 60 ≤ _; omega)) fun v5 H5 d5 s5 hv5 => ?_)
      obtain ⟨_, ⟨t5, t5c, t5l, rfl⟩, im5⟩ := hv5
      have im5 := Im.estr im5
      subst im5
      have d25 := d24.trans d5
      have ok5 : OkT sg t5 := ⟨t5c, by have t5l : t5.length ≤ mo := t5l; omega⟩
      refine w_ifAndJ (fun σ' H' => ∃ t, σ' = [some (.ref m), some (.ref a), some (.ref o), some (.int (many : Int)), some (.int (i : Int)), some (.int (mo : Int)), some (.int way), some (.str (T t))] ∧ OkT sg t ∧ Dr m g H2 H' ∧ Mst m c g H' (r + 100 * (many - i) - 100)) (fun σ' H6 h6 => ?_) fun N hN => ?_
      · obtain ⟨t, rfl, okt, d6, s6⟩ := h6
        have S6 := S.dr st2 d6
        refine w_noW (we_callG (mk_lput E) gd hr ⟨_, pa_cons we_ok (pa_cons we_ok (pa_cons we_ok pa_nil)), Ev.app (ev_v (i := 1) rfl va) fun y1 H7 e7 hy1 => Ev.app (ev_v (i := 2) rfl vo) fun y2 H8 e8 hy2 => Ev.app (ev_v (i := 7) (ρ := rS t) rfl fun _ => .str _) fun y3 H9 e9 hy3 => ?_⟩)
        have hy1 : y1 = .ref a := hy1
        have hy2 : y2 = .ref o := hy2
        subst hy1 hy2
        have e69 := (e7.trans e8).trans e9
        refine ⟨a, o, y3, sg, n1, N + i, cur, past, t, rfl, S6.ex e69, hy3, okt, by omega, fun H10 v10 S10 => ⟨rfl, w_end ?_⟩⟩
        exact ⟨_, _, _, _, rfl, ((d2.trans (.dr d6)).trans (.of e69)).trans (dd_vo v10 out.2.2), mst_vo ((s6.ex e69).mono (by omega)) v10 out, _, _, S10, by show (cur.ts ++ [t]).length = _; rw [List.length_append, lz] <;> rfl, by rw [bot_snoc, bz]⟩
      · refine et_cmp (t := decide (way < 2)) op_lt (ev_v (i := 6) (ρ := rI way) rfl fun _ => .int _) (ev_int (i := 2)) r_lt (nomark _) H5 (Ex.refl _) _ fun H6 e6 => ?_
        have d26 := d25.trans (.of e6)
        have s6 := s5.ex e6
        by_cases hw : way < 2
        · rw [if_pos (decide_eq_true hw)]
          have hpl6 := dr_lst d26 st2 htx (ims_cst imx)
          refine et_cmp (t := !xs.isEmpty) (op_neL0 (Nat.lt_of_le_of_lt (Nat.le_succ _) hu)) (ev_oV (v := .ref tx) hu (ev_v (i := 2) rfl vo) (dr_own d26 st2 ho)) ev_nil (fun S2 x y H3 Q3 e3 e4 hx hy gg => by
            have hx : x = .ref tx := hx
            obtain ⟨l, xs2, rfl, _, hl1, im⟩ := hy
            cases im
            exact ⟨tx, l, xs, hx, rfl, SqL.of ((e3.trans e4) _ _ hpl6), SqL.of hl1, gg.at (.bl _)⟩) (nomark _) H6 (Ex.refl _) _ fun H7 e7 => ?_
          have d27 := d26.trans (.of e7)
          have s7 := s6.ex e7
          cases hx : xs.isEmpty with
          | true =>
            rw [if_neg (show ¬ (!true) = true by decide)]
            exact w_end (hN _ _ ⟨t5, rfl, ok5, d27, s7.mono (by omega)⟩)
          | false =>
            rw [if_pos (show (!false) = true from rfl)]
            have lx : 1 ≤ cur.ts.length := by
              have z := imx.len
              rw [List.length_map] at z
              cases xs with
              | nil => cases hx
              | cons x xs => simp at z; omega
            have hl7 := (hl.kp (mst_kpD st2 d27)).tl
            refine w_setW (i := 7) sc__law_filled.nd ⟨_, pe_ix ix_list we_ok we_ok (fun _ _ => rfl), Ev.app (ev_oV (v := .ref tx) hu (ev_v (i := 2) rfl vo) (dr_own d27 st2 ho)) fun x8 H8 e8 hx8 => ?_⟩
            have hx8 : x8 = .ref tx := hx8
            subst hx8
            refine Es.go (r := r + 100 * (many - i) - 63) (es_draw (lim := (cur.ts.length : Int)) E hr (mk_draw E) (fun H1 d => ev_v (i := 0) rfl vm) (fun H1 d => ev_d (ev_len E.len (ev_ql ((ev_oV (v := .ref tx) hu (ev_v (i := 2) rfl vo) (dr_own ((d27.trans (.of e8)).trans d) st2 ho)).to fun H9 e9 S9 => ((hl.kp (mst_kpD st2 ((d27.trans (.of e8)).trans d))).ex e9).tl S9))) (by rw [List.length_map])) (by omega) (by omega)) ((s7.ex e8).mono (by omega)) fun v9 H9 d9 s9 ⟨j, ev9, j0, j1⟩ => ?_
            subst ev9
            obtain ⟨j, rfl⟩ := Int.eq_ofNat_of_zero_le j0
            have d29 := (d27.trans (.of e8)).trans d9
            have htx9 := dr_lst d29 st2 htx (ims_cst imx)
            have imx9 := imx.tu (mst_kpD st2 d29).tu
            have jl : j < (cur.ts.map eS).length := by rw [List.length_map]; omega
            obtain ⟨v, v1, v2⟩ := imx9.get (List.getElem?_eq_getElem jl)
            rw [List.getElem_map] at v2
            have v2 := Im.estr v2
            subst v2
            have tj : cur.ts[j]'(by rw [List.length_map] at jl; exact jl) ∈ cur.ts := List.getElem_mem _
            generalize cur.ts[j]'(by rw [List.length_map] at jl; exact jl) = tt at v1 tj
            have okt := ok.t tt tj
            refine ⟨tx, xs, (j : Int), .str (T tt), rfl, rfl, SqL.of htx9, ?_, ?_⟩
            · unfold atI
              rw [Evl.ixN_nat (by rw [imx9.len]; exact jl)]
              exact v1
            refine w_setW (i := 7) sc__law_filled.nd ⟨_, pe_ifExp wt_ok we_ok we_ok, et_cmp (t := decide (way = 0)) op_eq (ev_v (i := 6) (ρ := rI way) rfl fun _ => .int _) (ev_int (i := 0)) r_eqi (nomark _) H9 (Ex.refl _) _ fun Ha ea => ?_⟩
            have d2a := d29.trans (.of ea)
            by_cases h0 : way = 0
            · rw [if_pos (decide_eq_true h0)]
              refine Ev.app (ev_v (i := 7) (ρ := rS tt) rfl fun _ => .str _) fun vb Hb eb hvb => w_end (hN _ _ ?_)
              have hvb := Im.estr hvb
              subst hvb
              exact ⟨tt, rfl, okt, d2a.trans (.of eb), ((s9.ex ea).ex eb).mono (by omega)⟩
            · rw [if_neg (by simp [h0])]
              refine ⟨_, pe_slice sl_str we_ok wp_ok wp_ok, Es.go (r := r + 100 * (many - i) - 66) (es_pm (mk_near E) hr (sg, tt) ⟨os, okt⟩ (sv_dp _) (fun H1 d => ev_v (i := 0) rfl vm) (fun H1 d => eac ((ev_oV (v := .str (T sg)) hu (ev_v (i := 2) rfl vo) (dr_own (d2a.trans d) st2 ho)).to fun _ _ _ => .str _) (eac (ev_v (i := 7) (ρ := rS tt) rfl fun _ => .str _) ea0))) ((s9.ex ea).mono (by show _ + 3 ≤ _; omega)) fun vb Hb db sb hvb => ?_⟩
              obtain ⟨_, ⟨tn, tnc, tnl, rfl⟩, imb⟩ := hvb
              have imb := Im.estr imb
              subst imb
              refine ep0 Hb (Ex.refl _) _ fun Hc ec => (ep1 ev_int) Hc (Ex.refl _) _ fun Hd ed => ?_
              refine ⟨T tn, rfl, by rw [T_len]; exact sz6 (by have tnl : tn.length ≤ 401 := tnl; omega), ?_⟩
              rw [cutS_T]
              refine w_end (hN _ _ ⟨cutL tn none (some 30), rfl, ⟨fun x hx => tnc x (cutL_mem hx), ?_⟩, (d2a.trans db).trans (.of (ec.trans ed)), (sb.ex (ec.trans ed)).mono (by omega)⟩)
              rw [show (30 : Int) = ((30 : Nat) : Int) from rfl, cutL_hi, List.length_take]
              omega
        · rw [if_neg (by simp [hw])]
          exact w_end (hN _ _ ⟨t5, rfl, ok5, d26, s6.mono (by omega)⟩)
    · obtain ⟨x4, x5, x6, x7, rfl, d2, st2, cur, past, S, lz, bz⟩ := h2
      refine w_ret ev_bl fun v H3 e3 hv => ?_
      have hv := Im.ebl hv
      subst hv
      exact q H3 cur past (d2.trans (.of e3)) ((st2.ex e3).mono (by omega)) (S.ex e3) lz bz) (fun _ _ _ _ _ _ us hl => match us, hl with | [_, _, _, _], _ => rfl)
end
end Lk

set_option maxHeartbeats 1000000
/-! A shelf made; _law_begin_shelf. -/
namespace Lk
open PySem PySem.Spec PyProof.Rows L2
open Evl (Ex)
section
variable {X : Cx} {σ : L2.St} {H H' : Hp} {e a b : Expr} {es : List Expr} {pos p : Pos} {k : Nat}
theorem we_mkS {w : World} {dvs : List V} {Q : VK} (E : En w X.K X.mg X.base) (C : CalF X.prog X.w X.K X.mg X.base (He.fAd X.K ("Shelf", some "__init__")) 4 dvs (p_Sh_init X.K)) (hr : Room k X.A)
    (h : Wa X (e :: es) σ H fun vs H2 => ∃ (tv : Addr) (s : Int) (sg : List Nat) (f : Fn), vs ++ dvs = [.ref tv, .int s] ∧ (rTb X.K sg f).r H2 (.ref tv) H2 ∧ OkS s ∧ ∀ x H3, H2 x = none → Ex H2 H3 → ShD X.K H3 x sg ⟨tv, f, s, []⟩ [] → Q (.ref x) H3) (hk : 5 ≤ k := by decide) (hg : Gl X "Shelf" := by rfl)
    (he : starEach (e :: es) X.env = (false, eval e X.env) :: starEach es X.env := by rfl) (hpl : (backTo pos (starEach es X.env)).any (·.1) = false := by rfl) : We X (.Call (.Name "Shelf" p) (e :: es) [] pos) σ H Q := by
  obtain ⟨fd, ps, ds, F, hB, hV⟩ := C
  refine ⟨_, pe_make E.mkS F (hr.mono hk) hg (E.glo 32) hB hV pass0 wa_ok (by decide) he hpl, wa_mono h fun vs H2 z => ?_⟩
  obtain ⟨tv, s, sg, f, ev, hT, os, q⟩ := z
  intro x dx hx hdx hne
  have n1 : Ex H2 (upd (upd H2 dx (.own x)) x (.ins (He.ga X.K "Shelf") dx [])) := (Ex.new hdx).trans (Ex.new (by rw [upd_ne hne.symm]; exact hx))
  rw [ev]
  refine ⟨x, dx, tv, s, sg, f, rfl, upd_same, tb_kp hT (.of n1), os, fun H' eH hD => ⟨rfl, q x H' hx (fun c u z => eH c u ?_) hD⟩⟩
  have c1 : c ≠ x := fun q => by rw [q, hx] at z; cases z
  have c2 : c ≠ dx := fun q => by rw [q, hdx] at z; cases z
  rw [off_ne c1, upd_ne c1, upd_ne c2]
  exact z
end
theorem rall1 {ρ : Rp} {S H : Hp} {v : V} (h : ρ.r S v H) : (rAll [ρ]).r S [v] H := ⟨v, [], rfl, h, rfl⟩
theorem rall2 {ρ ρ2 : Rp} {S H : Hp} {v v2 : V} (h : ρ.r S v H) (h2 : ρ2.r S v2 H) : (rAll [ρ, ρ2]).r S [v, v2] H := ⟨v, [v2], rfl, h, rall1 h2⟩
theorem rall3 {ρ ρ2 ρ3 : Rp} {S H : Hp} {v v2 v3 : V} (h : ρ.r S v H) (h2 : ρ2.r S v2 H) (h3 : ρ3.r S v3 H) : (rAll [ρ, ρ2, ρ3]).r S [v, v2, v3] H := ⟨v, [v2, v3], rfl, h, rall2 h2 h3⟩
section
variable {X : Cx} {σ : L2.St} {m c g : Addr} {H : Hp} {e a b : Expr} {es : List Expr} {pos pos2 p p2 : Pos} {k' r : Nat} {lim : Int}
/-- 1 + a draw -/
theorem we_1d {w : World} {Q : VK} (E : En w X.K X.mg X.base) (hr : Room k' X.A) (C : Cal X.prog X.w X.K X.mg X.base "_law_draw" 2 [] p_draw) (st : Mst m c g H (r + 1)) (ha : ∀ H1, Dr m g H H1 → Ev X a σ H1 (rV (.ref m))) (hb : ∀ H1, Dr m g H H1 → Ev X b σ H1 (rI lim)) (h1 : 1 ≤ lim) (h2 : lim < 1000000)
    (q : ∀ (n : Nat) H2, Dr m g H H2 → Mst m c g H2 r → 1 ≤ n → (n : Int) ≤ lim → Q (.int (n : Int)) H2) (hk : 2 ≤ k' := by decide) (hg : Gl X "_law_draw" := by rfl)
    (he : starEach [a, b] X.env = (false, eval a X.env) :: starEach [b] X.env := by rfl) (he2 : starEach [b] X.env = (false, eval b X.env) :: starEach [] X.env := by rfl) (hpl : (backTo pos (starEach [b] X.env)).any (·.1) = false := by rfl) {j : Nat} {p3 : Pos} :
    We X (.BinOp (.Constant (.int 1) j p3) .Add (.Call (.Name "_law_draw" p) [a, b] [] pos) pos2) σ H Q :=
  ⟨_, pe_op op_add we_ok we_ok, Ev.app ev_int fun x H1 e1 hx => (es_draw E hr C ha hb h1 h2 hk hg he he2 hpl) H1 r (.of e1) (st.ex e1) _ fun y H2 d2 s2 hy => by
    obtain ⟨k, rfl, k0, k1⟩ := hy
    obtain ⟨k, rfl⟩ := Int.eq_ofNat_of_zero_le k0
    refine ⟨1, (k : Int), Im.eint hx, rfl, ?_⟩
    have z := q (1 + k) H2 ((Dr.of e1).trans d2) s2 (by omega) (by push_cast; omega)
    show Q (.int (1 + (k : Int))) H2
    rw [show (1 : Int) + (k : Int) = ((1 + k : Nat) : Int) by push_cast; rfl]
    exact z⟩
end
section
variable {P : Program} {w : World} {K : Frag} {mg : Str → Option Value} {base : Heap}
abbrev p_begin (K : Frag) : Sp := fun vs H Q _ => ∃ (m c g : Addr) (r : Nat), vs = [.ref m, .int 4] ∧ Mst m c g H (r + 1000) ∧
  ∀ H' q a o sg cur, Dr m g H H' → Mst m c g H' r → H' q = some (.tup [.ref a, .ref o]) → H a = none → H o = none → sg.length ≤ 4 → cur.ts = [] → St K H' a o sg 9 0 cur [] → Q (.ref q) H'
theorem mk_begin (E : En w K mg base) : Cal P w K mg base "_law_begin_shelf" 12 [] (p_begin K) :=
  cal_of E D__law_begin_shelf 65 62 sc__law_begin_shelf (fun vs H Q EE h => by obtain ⟨m, c, g, r, rfl, _⟩ := h; rfl) (fun cdv Ar outer s H vs Q EE hr h => by
    obtain ⟨m, c, g, r, rfl, st, q⟩ := h
    have hu := hu_of hr
    have vm : ∀ {Hx : Hp} S, (rV (.ref m)).r S (.ref m) Hx := fun _ => rfl
    refine w_setW (i := 2) sc__law_begin_shelf.nd (we_call (mk_signs E) hr ⟨_, pa_cons we_ok (pa_cons we_ok pa_nil), Ev.app (ev_v (i := 0) rfl vm) fun x1 H1 e1 hx1 => we_1d (lim := 4) (r := r + 999) E hr (mk_draw E) (st.ex e1) (fun H1 d => ev_v (i := 0) rfl vm) (fun H1 d => ev_v (i := 1) (ρ := rI 4) rfl fun _ => .int _) (by decide) (by decide) fun n H2 d2 s2 n1 n4 => ?_⟩)
    have hx1 : x1 = .ref m := hx1
    subst hx1
    refine ⟨m, c, g, n, [.int (n : Int)], H2, r + 984, rfl, s2, ⟨n1, by omega⟩, Ex.refl _, rall1 (.int _), fun v3 H3 d3 s3 hv3 => ?_⟩
    obtain ⟨_, ⟨sg, os, sl, rfl⟩, im3⟩ := hv3
    have im3 := Im.estr im3
    subst im3
    have sl : sg.length = n := sl
    have d03 := ((Dr.of e1).trans d2).trans d3
    refine w_setW (i := 3) sc__law_begin_shelf.nd (we_call (mk_own E) hr ⟨_, pa_cons we_ok (pa_cons we_ok (pa_cons we_ok (pa_cons we_ok pa_nil))), Ev.app (ev_v (i := 0) rfl vm) fun x4 H4 e4 hx4 => Ev.app (ev_v (i := 2) (ρ := rS sg) rfl fun _ => .str _) fun x5 H5 e5 hx5 => ?_⟩)
    have hx4 : x4 = .ref m := hx4
    have hx5 := Im.estr hx5
    subst hx4 hx5
    have s5 := (s3.ex e4).ex e5
    refine Es.go (r := r + 584) (es_pm (mk_known E) hr ⟨sg, 5, 3⟩ ⟨os, by simp, by simp, by simp⟩ (sv_kn _ _) (fun H1 d => ev_v (i := 0) rfl vm) (fun H1 d => eac (ev_v (i := 2) (ρ := rS sg) rfl fun _ => .str _) (eac ev_int (eac ev_int ea0)))) s5 fun x6 H6 d6 s6 hx6 => ?_
    obtain ⟨kn, es, rfl, _, kd, oe, ez⟩ := hx6
    refine we_1d (lim := 3) (r := r + 583) E hr (mk_draw E) s6 (fun H1 d => ev_v (i := 0) rfl vm) (fun H1 d => ev_int) (by decide) (by decide) fun sn H7 d7 s7 sn1 sn3 => ?_
    have kd7 := kd.kp (mst_kpD s6 d7)
    refine ⟨m, c, g, ⟨sg, es, (sn : Int)⟩, [.str (T sg), .ref kn, .int (sn : Int)], H7, r + 543, rfl, s7, ⟨os, oe⟩, Ex.refl _, rall3 (.str _) ⟨kn, rfl, kd7⟩ (.int _), fun v8 H8 d8 s8 hv8 => ?_⟩
    obtain ⟨o, tv, rfl, o7, ow8⟩ := hv8
    have d07 := ((d03.trans (.of (e4.trans e5))).trans d6).trans d7
    have d08 := d07.trans d8
    have o0 : H o = none := d07.fresh s7.some.1 s7.some.2 o7
    have vo : ∀ {Hx : Hp} S, (rV (.ref o)).r S (.ref o) Hx := fun _ => rfl
    have oS : OkS (sn : Int) := ⟨by omega, by omega⟩
    have ez : es.length ≤ sg.length + 5 := ez
    have ow8 : OwR K H8 o sg es.length ⟨tv, fE es, (sn : Int), []⟩ [] := ow8
    have ow8 := ow8.mono (show es.length ≤ 9 by omega)
    obtain ⟨kn9, tx9, pl9, ws9, ho8, _⟩ := id ow8
    have tb8 : (rTb K sg (fE es)).r H8 (.ref tv) H8 := by
      obtain ⟨_, _, _, _, _, _, _, l8⟩ := ow8
      exact l8.tb
    have okn : OkN sg 0 ⟨tv, fE es, (sn : Int), []⟩ := ⟨fE_ok os oe, oS, fun t ht => (by cases ht), Nat.le_refl _⟩
    -- the end of both ways
    have fin : ∀ (H9 H10 H11 : Hp) (a : Addr), Dr m g H8 H9 → Mst m c g H9 r → H9 a = none → Ex H9 H10 → ShD K H10 a sg ⟨tv, fE es, (sn : Int), []⟩ [] → Ex H10 H11 → ∀ p, H11 p = none → Q (.ref p) (upd H11 p (.tup [.ref a, .ref o])) := fun H9 H10 H11 a d9 s9 a9 e10 sh e11 p hp => by
      have e9 : Ex H9 (upd H11 p (.tup [.ref a, .ref o])) := (e10.trans e11).trans (Ex.new hp)
      have d0 : Dr m g H H9 := d08.trans d9
      have k9 : Kp H8 (upd H11 p (.tup [.ref a, .ref o])) := (mst_kpD s8 d9).trans (.of e9)
      refine q _ p a o sg _ (d0.trans (.of e9)) (s9.ex e9) upd_same (d0.fresh s9.some.1 s9.some.2 a9) o0 (by omega) rfl ⟨sh.kp (.of (e11.trans (Ex.new hp))) fun _ z => (e11.trans (Ex.new hp)) _ _ z, ow8.kp k9 fun u z => e9 _ _ ?_, fun p2 hp2 => by rw [List.mem_singleton.mp hp2]; exact okn, Nat.le_refl _⟩
      have zu : u = .dK (oD sg kn9 (sn : Int) tx9 pl9 tv) := by
        rw [ho8] at z
        exact (Option.some.inj z).symm
      subst zu
      exact dr_own d9 s8 ho8
    have last : ∀ (Hb : Hp), Dr m g H8 Hb → Mst m c g Hb r → Wm (Bx P w K mg base N__law_begin_shelf D__law_begin_shelf cdv Ar outer s H EE) (D__law_begin_shelf.body.drop 3) { nx := fun _ H' => Q .non H', rt := Q } [some (.ref m), some (.int 4), some (.str (T sg)), some (.ref o)] Hb := fun Hb db sb => by
      have hob := dr_own db s8 ho8
      refine w_retW ⟨_, pe_tup (pa_cons we_ok (pa_cons we_ok pa_nil)), we_mkS E (mk_Sh_init E) hr ⟨_, pa_cons we_ok (pa_cons we_ok pa_nil), Ev.app (ev_oV (v := .ref tv) hu (ev_v (i := 3) rfl vo) hob) fun y1 H9 e9 hy1 => Ev.app (ev_oV (v := .int (sn : Int)) hu (ev_v (i := 3) rfl vo) (e9 _ _ hob)) fun y2 H10 e10 hy2 => ?_⟩⟩
      have hy1 : y1 = .ref tv := hy1
      have hy2 : y2 = .int (sn : Int) := hy2
      subst hy1 hy2
      refine ⟨tv, (sn : Int), sg, fE es, rfl, tb_kp (tb_kp (S' := H8) tb8 (mst_kpD s8 db)) (.of (e9.trans e10)), oS, fun x H11 x0 e11 shx => Ev.app (ev_v (i := 3) rfl vo) fun y3 H12 e12 hy3 => ⟨sz6 (by simp), fun p hp => ?_⟩⟩
      have hy3 : y3 = .ref o := hy3
      subst hy3
      exact fin H10 H11 H12 x (db.trans (.of (e9.trans e10))) (sb.ex (e9.trans e10)) x0 e11 shx e12 p hp
    refine w_ifAnd (et_cmp (t := decide ((sn : Int) = 3)) op_eq ((ev_oV (v := .int (sn : Int)) hu (ev_v (i := 3) rfl vo) ho8).to (ρ := rI (sn : Int)) fun _ _ _ => .int _) (ev_int (i := 3)) r_eqi (nomark _) H8 (Ex.refl _) _ fun Ha ea => ?_)
    by_cases h3 : (sn : Int) = 3
    · rw [if_pos (decide_eq_true h3)]
      refine ⟨_, pt_cmpR op_eq we_ok we_ok (nomark _), Es.go (r := r) (es_draw (lim := 2) E hr (mk_draw E) (fun H1 d => ev_v (i := 0) rfl vm) (fun H1 d => ev_int) (by decide) (by decide)) ((s8.ex ea).mono (by omega)) fun v Hb db sb ⟨k, ev, _, _⟩ => Ev.app ev_int fun v0 Hb' eb' hv0 => ?_⟩
      subst ev
      have hv0 := Im.eint hv0
      subst hv0
      refine ⟨rfl, decide (V.int k = V.int 0), rfl, ?_⟩
      have db := ((Dr.of ea).trans db).trans (.of eb')
      have sb := sb.ex eb'
      cases hk : decide (V.int k = V.int 0) with
      | false =>
        show (if _ then _ else _)
        rw [if_neg (by decide)]
        exact w_end (last Hb' db sb)
      | true =>
        show (if _ then _ else _)
        rw [if_pos rfl]
        have hob := dr_own db s8 ho8
        refine w_retW ⟨_, pe_tup (pa_cons we_ok (pa_cons we_ok pa_nil)), we_mkS E (mk_Sh_init3 E) hr ⟨_, pa_cons we_ok pa_nil, Ev.app (ev_oV (v := .ref tv) hu (ev_v (i := 3) rfl vo) hob) fun y1 H9 e9 hy1 => ?_⟩⟩
        have hy1 : y1 = .ref tv := hy1
        subst hy1
        refine ⟨tv, (sn : Int), sg, fE es, by rw [h3] <;> rfl, tb_kp (tb_kp (S' := H8) tb8 (mst_kpD s8 db)) (.of e9), oS, fun x H11 x0 e11 shx => Ev.app (ev_v (i := 3) rfl vo) fun y3 H12 e12 hy3 => ⟨sz6 (by simp), fun p hp => ?_⟩⟩
        have hy3 : y3 = .ref o := hy3
        subst hy3
        exact fin H9 H11 H12 x (db.trans (.of e9)) (sb.ex e9) x0 e11 shx e12 p hp
    · rw [if_neg (by simp [h3])]
      exact w_end (last Ha (.of ea) ((s8.ex ea).mono (by omega)))) (fun _ _ _ _ _ _ us hl => match us, hl with | [_, _], _ => rfl)
end
end Lk

set_option maxHeartbeats 1000000
/-! _law_joined. -/
namespace Lk
open PySem PySem.Spec PyProof.Rows L2
open Evl (Ex)
section
variable {K : Frag} {m c g a o x o2 : Addr} {H H' H1 : Hp} {r : Nat} {sg : List Nat} {n1 N : Nat} {cur : Pe} {past : List Pe}
theorem St.dd {vs : List Addr} (S : St K H a o sg n1 N cur past) (k : Kp H H') (st : Mst m c g H r) (d : Dd m g vs H H') (ha : a ∉ vs) (ho : o ∉ vs) : St K H' a o sg n1 N cur past := by
  have out := mst_St st S
  simp only [List.mem_cons, List.not_mem_nil, or_false, not_or] at out
  exact S.kp k (fun u z => d.ex _ _ z (fun z => out.1.1 z.symm) (fun z => out.2.2.1 z.symm) ha) fun u z => d.ex _ _ z (fun z => out.1.2 z.symm) (fun z => out.2.2.2 z.symm) ho
theorem lineF_ok {f : Fn} {s : Int} {ts : List (List Nat)} {P : List Nat → Prop} (h : ∀ t ∈ ts, P t) : ∀ t ∈ lineF f s ts, P t := fun t ht => h t (lineF_mem ht)
end
section
variable {P : Program} {w : World} {K : Frag} {mg : Str → Option Value} {base : Heap}
abbrev p_joined (K : Frag) : Sp := fun vs H Q _ => ∃ (m c g a o : Addr) (sg : List Nat) (n1 N : Nat) (cur : Pe) (past : List Pe) (r : Nat), vs = [.ref m, .ref a, .ref o] ∧ Mst m c g H (r + 2000) ∧ St K H a o sg n1 N cur past ∧ n1 ≤ 28 ∧ N ≤ 40 ∧
  ∀ H' cur' past', Dd m g [a, o] H H' → Mst m c g H' r → St K H' a o sg n1 (N + 1) cur' past' → bot cur' past' = bot cur past → Q (.bl true) H'
theorem mk_joined (E : En w K mg base) (sf : PySem.W.selfFirst K (He.ga K "Shelf") = true) : CalG P w K mg base "_law_joined" 13 (p_joined K) :=
  calGd_of E D__law_joined 66 63 sc__law_joined (fun vs H Q EE h => by obtain ⟨m, c, g, a, o, sg, n1, N, cur, past, r, rfl, _⟩ := h; rfl) (fun cdv Ar outer s H vs Q EE hr gd h => by
    obtain ⟨m, c, g, a, o, sg, n1, N, cur, past, r, rfl, st, S, n28, n40, q⟩ := h
    have hu := hu_of hr
    have ao := S.ne
    have vm : ∀ {Hx : Hp} S, (rV (.ref m)).r S (.ref m) Hx := fun _ => rfl
    have va : ∀ {Hx : Hp} S, (rV (.ref a)).r S (.ref a) Hx := fun _ => rfl
    have vo : ∀ {Hx : Hp} S, (rV (.ref o)).r S (.ref o) Hx := fun _ => rfl
    have out := mst_St st S
    have okn := S.ok cur (List.mem_cons_self ..)
    have ok := okn.ok (by omega)
    have os := ok.f.sn
    have lz := S.len
    obtain ⟨kn, tx, pl, ws, ho, hpl, hpo, hl⟩ := S.ow
    obtain ⟨es, kd, oe, ez, ef⟩ := hl.kn
    have sgz := os.most
    refine w_setW (i := 3) sc__law_joined.nd (we_call (mk_own E) hr ⟨_, pa_cons we_ok (pa_cons we_ok (pa_cons we_ok (pa_cons we_ok pa_nil))), Ev.app (ev_v (i := 0) rfl vm) fun x1 H1 e1 hx1 => Ev.app (ev_oV (v := .str (T sg)) hu (ev_v (i := 2) rfl vo) (e1 _ _ ho)) fun x2 H2 e2 hx2 => ?_⟩)
    have hx1 : x1 = .ref m := hx1
    have hx2 : x2 = .str (T sg) := hx2
    subst hx1 hx2
    have e12 := e1.trans e2
    refine Es.go (r := r + 1500) (es_pm (mk_other E) hr ⟨sg, es, 30⟩ ⟨os, oe, by show es.length + 1 ≤ 30; omega, by show sg.length + 4 ≤ 30; omega, by simp⟩ (sv_kn _ _) (fun H1 d => ev_v (i := 0) rfl vm) (fun H1 d => eac (ρ := rKd es) ((ev_oV (v := .ref kn) hu (ev_v (i := 2) rfl vo) (dr_own d (st.ex e12) (e12 _ _ ho))).to fun H3 e3 S3 => ⟨kn, rfl, ((kd.kp (.of e12)).kp (mst_kpD (st.ex e12) d)).kp (.of e3)⟩) (eac (ρ := rS sg) ((ev_oV (v := .str (T sg)) hu (ev_v (i := 2) rfl vo) (dr_own d (st.ex e12) (e12 _ _ ho))).to fun _ _ _ => .str _) ea0))) ((st.ex e12).mono (by show r + 1500 + 500 ≤ _; omega)) fun x3 H3 d3 s3 hx3 => ?_
    obtain ⟨kn2, es2, rfl, _, kd2, oe2, ez2⟩ := hx3
    have ez2 : es2.length ≤ 30 := ez2
    refine we_1d (lim := 3) (r := r + 1499) E hr (mk_draw E) s3 (fun H1 d => ev_v (i := 0) rfl vm) (fun H1 d => ev_int) (by decide) (by decide) fun sn H4 d4 s4 sn1 sn3 => ?_
    refine ⟨m, c, g, ⟨sg, es2, (sn : Int)⟩, [.str (T sg), .ref kn2, .int (sn : Int)], H4, r + 1459, rfl, s4, ⟨os, oe2⟩, Ex.refl _, rall3 (.str _) ⟨kn2, rfl, kd2.kp (mst_kpD s3 d4)⟩ (.int _), fun v5 H5 d5 s5 hv5 => ?_⟩
    obtain ⟨o2, tv2, rfl, o4, ow5⟩ := hv5
    have ow5 : OwR K H5 o2 sg es2.length ⟨tv2, fE es2, (sn : Int), []⟩ [] := ow5
    have ow5 := ow5.mono ez2
    have d04 := (((Dr.of e12).trans d3).trans d4)
    have d05 := d04.trans d5
    have o0 : H o2 = none := d04.fresh s4.some.1 s4.some.2 o4
    have vo2 : ∀ {Hx : Hp} S, (rV (.ref o2)).r S (.ref o2) Hx := fun _ => rfl
    have oS : OkS (sn : Int) := ⟨by omega, by omega⟩
    obtain ⟨kn5, tx5, pl5, ws5, ho5, _, _, l5⟩ := id ow5
    have tb5 := l5.tb
    refine w_setW (i := 4) sc__law_joined.nd (we_mkS E (mk_Sh_init E) hr ⟨_, pa_cons we_ok (pa_cons we_ok pa_nil), Ev.app (ev_oV (v := .ref tv2) hu (ev_v (i := 3) rfl vo2) ho5) fun y1 H6 e6 hy1 => Ev.app (ev_oV (v := .int (sn : Int)) hu (ev_v (i := 3) rfl vo2) (e6 _ _ ho5)) fun y2 H7 e7 hy2 => ?_⟩)
    have hy1 : y1 = .ref tv2 := hy1
    have hy2 : y2 = .int (sn : Int) := hy2
    subst hy1 hy2
    refine ⟨tv2, (sn : Int), sg, fE es2, rfl, tb_kp (tb_kp (S' := H5) tb5 (.of (Ex.refl _))) (.of (e6.trans e7)), oS, fun x H8 x7 e8 shx => ?_⟩
    have e58 := (e6.trans e7).trans e8
    have d08 := d05.trans (.of e58)
    have s8 := s5.ex e58
    have x0 : H x = none := (d05.trans (.of (e6.trans e7))).fresh (s5.ex (e6.trans e7)).some.1 (s5.ex (e6.trans e7)).some.2 x7
    have vx : ∀ {Hx : Hp} S, (rV (.ref x)).r S (.ref x) Hx := fun _ => rfl
    have F8 : St K H8 x o2 sg 30 0 ⟨tv2, fE es2, (sn : Int), []⟩ [] := ⟨shx, ow5.kp (.of e58) fun _ z => e58 _ _ z, fun p2 hp2 => by rw [List.mem_singleton.mp hp2]; exact ⟨fE_ok os oe2, oS, fun t ht => (by cases ht), Nat.le_refl _⟩, Nat.le_refl _⟩
    have S8 := S.dr st d08
    refine w_noW (we_callG (mk_filled E) gd hr ⟨_, pa_cons we_ok (pa_cons we_ok (pa_cons we_ok (pa_cons we_ok pa_nil))), Ev.app (ev_v (i := 0) rfl vm) fun z1 H9 e9 hz1 => Ev.app (ev_v (i := 4) rfl vx) fun z2 Ha ea hz2 => Ev.app (ev_v (i := 3) rfl vo2) fun z3 Hb eb hz3 => ?_⟩)
    have hz1 : z1 = .ref m := hz1
    have hz2 : z2 = .ref x := hz2
    have hz3 : z3 = .ref o2 := hz3
    subst hz1 hz2 hz3
    have e8b := (e9.trans ea).trans eb
    refine Es.go (r := r + 1458) (es_draw (lim := 5) E hr (mk_draw E) (fun H1 d => ev_v (i := 0) rfl vm) (fun H1 d => ev_int) (by decide) (by decide)) ((s8.ex e8b).mono (by omega)) fun z4 Hc dc sc ⟨many, ez4, m0, m1⟩ => ?_
    subst ez4
    obtain ⟨many, rfl⟩ := Int.eq_ofNat_of_zero_le m0
    have d0c := (d08.trans (.of e8b)).trans dc
    have Fc := (F8.ex e8b).dr (s8.ex e8b) dc
    have Sc := S.dr st d0c
    refine ⟨m, c, g, x, o2, many, sg, 30, 0, _, [], r + 1000, rfl, sc.mono (by omega), Fc, by omega, fun Hd far pastF dd sd Fd lf _ => ⟨rfl, ?_⟩⟩
    have lf : far.ts.length = many := by
      have lf : far.ts.length = 0 + many := lf
      omega
    have outF := mst_St sc Fc
    have kcd : Kp Hc Hd := mst_kp sc (fun v hv u hu => (Fc.hv v hv u hu).1) dd
    have ax : a ∉ [x, o2] := fun z => by
      obtain ⟨dx, x1, q1, xs1, hI, _⟩ := S.sh
      simp only [List.mem_cons, List.not_mem_nil, or_false] at z
      rcases z with rfl | rfl
      · rw [hI] at x0; cases x0
      · rw [hI] at o0; cases o0
    have ox : o ∉ [x, o2] := fun z => by
      simp only [List.mem_cons, List.not_mem_nil, or_false] at z
      rcases z with rfl | rfl
      · rw [ho] at x0; cases x0
      · rw [ho] at o0; cases o0
    have Sd : St K Hd a o sg n1 N cur past := Sc.dd kcd sc dd ax ox
    have dd0 : Dd m g [x, o2] H Hd := (Dd.dr d0c).trans dd
    have okF := (Fd.ok far (List.mem_cons_self ..))
    have okF := okF.ok (by omega)
    -- _law_kept
    refine w_expr (we_call (mk_kept E) hr ⟨_, pa_cons we_ok pa_nil, Ev.app (ev_v (i := 2) rfl vo) fun w1 He ee hw1 => ?_⟩)
    have hw1 : w1 = .ref o := hw1
    subst hw1
    have Se := Sd.ex ee
    refine ⟨o, sg, n1, cur, past, rfl, Se.ow, by omega, fun Hf ef owf => ?_⟩
    obtain ⟨knd, txd, pld, wsd, hod, _⟩ := Sd.ow
    have kef : Kp He Hf := kp_off (ee _ _ hod) oD_not ef
    have xo : x ≠ o := fun z => ox (by rw [← z]; simp)
    have o2o : o2 ≠ o := fun z => ox (by rw [← z]; simp)
    have shf : ShD K Hf a sg cur past := Se.sh.kp kef fun u z => ef _ _ (by rw [off_ne ao]; exact z)
    have Ff : St K Hf x o2 sg 30 many far pastF := by
      have Fe := (Fd.ex ee).kp kef (fun u z => ef _ _ (by rw [off_ne xo]; exact z)) fun u z => ef _ _ (by rw [off_ne o2o]; exact z)
      exact ⟨Fe.sh, Fe.ow, fun p hp => (Fe.ok p hp).mono (by omega), by have := Fe.len; omega⟩
    have vf : Vo [a, o] Hd Hf := (Vo.of ee).trans (vo_off ef (by simp))
    have sf2 : Mst m c g Hf (r + 1000) := mst_vo (sd.ex ee) (vo_off ef (by simp : o ∈ [a, o])) out
    obtain ⟨knF, txF, plF, wsF, hoF, _, _, lF⟩ := Ff.ow
    refine w_set (i := 5) sc__law_joined.nd (ev_pr (mk_law_line E) hr ⟨sg, far.f, far.s, far.ts⟩ ⟨okF.f, okF.s, okF.t, by show far.ts.length ≤ 1000; omega⟩ (eac ((ev_oV (v := .ref knF) hu (ev_v (i := 3) rfl vo2) hoF).to fun H1 e1 S1 => (lF.ex e1).kf S1) (eac ((ev_oV (v := .int far.s) hu (ev_v (i := 3) rfl vo2) hoF).to fun _ _ _ => .int _) (eac ((ev_oV (v := .ref txF) hu (ev_v (i := 3) rfl vo2) hoF).to fun H1 e1 S1 => (lF.ex e1).tl S1) ea0)))) fun v6 Hg eg hv6 => ?_
    obtain ⟨lk, xk, rfl, _, hlk, imk⟩ := hv6
    have owg := owf.kp (.of eg) fun _ z => eg _ _ z
    have shg := shf.ex eg
    have Fg := Ff.ex eg
    obtain ⟨kng, txg, plg, wsg, hog, hplg, hpog, hlg⟩ := owg
    refine w_dputW hu (Ev.app (ev_addl (ds := cur.ts.map eS) (es := (lineF far.f far.s far.ts).map eS) ((ev_oV (v := .ref txg) hu (ev_v (i := 2) rfl vo) hog).to fun H1 e1 S => (hlg.ex e1).tl S) (ev_l (ev_f (ev_lc (own := [("_law_k", 6)]) (lc_all (orderF (keysF far.f far.s far.ts)) eN (fun n => eS (far.ts.getD n [])) (wk_v (ev_v (i := 5) rfl fun _ => rfl) hlk imk) rfl (by rw [orderF_most]; omega) fun n hn => tn_0 (j := 6) sc__law_joined.nd fun y H2 e2 hy s H0 C cl fp => ev_ixl ((ev_oV (v := .ref txF) hu (ev_v (i := 3) rfl vo2) ((eg.trans e2) _ _ hoF)).to fun H1 e1 S1 => ((lF.ex (eg.trans e2)).ex e1).tl S1) (ev_v (i := 6) (ρ := rI (n : Int)) rfl fun _ => hy) (getD_atS (orderF_ts hn))) rfl sc__law_joined.nd) (by rw [lineF, List.map_map] <;> rfl))) (by rw [List.length_map, List.length_map, lineF_len]; have := okn.most; omega)) fun v7 Hh eh hv7 => ?_)
    obtain ⟨txh, xsh, rfl, tx0, htxh, imh⟩ := hv7
    refine ⟨o, oD sg kng cur.s txg plg cur.tv, kyTx, eh _ _ hog, by simp [oD], ev_v (i := 2) rfl vo, ev_ks ev_str, fun Hi ei => ?_⟩
    rw [oD_putX]
    have egi := eh.trans ei
    have kgi : Kp Hg (upd Hi o (.dK (oD sg kng cur.s txh plg cur.tv))) := kp_own hog oD_not egi
    have to : txh ≠ o := fun z => by rw [z, hog] at tx0; cases tx0
    have imh : Ims Hh xsh ((addL cur far).ts.map eS) := by
      show Ims Hh xsh ((cur.ts ++ _).map eS)
      rw [List.map_append]
      exact imh
    have tux : Tu Hi (upd Hi o (.dK (oD sg kng cur.s txh plg cur.tv))) := tu_upd (egi _ _ hog) fun _ z => by cases z
    have owj : OwR K (upd Hi o (.dK (oD sg kng cur.s txh plg cur.tv))) o sg n1 (addL cur far) (past ++ [cur]) := ⟨kng, txh, plg, wsg, upd_same, kgi _ _ hplg hpog.cst, hpog.kp kgi, ⟨(hlg.kp kgi).kn, ⟨xsh, by rw [upd_ne to]; exact ei _ _ htxh, (imh.ex ei).tu tux⟩, (hlg.kp kgi).tb⟩⟩
    have shj : ShD K (upd Hi o (.dK (oD sg kng cur.s txh plg cur.tv))) a sg cur past := shg.kp kgi fun u z => by rw [upd_ne ao]; exact egi _ _ z
    have Fj : St K (upd Hi o (.dK (oD sg kng cur.s txh plg cur.tv))) x o2 sg 30 many far pastF := Fg.kp kgi (fun u z => by rw [upd_ne xo]; exact egi _ _ z) fun u z => by rw [upd_ne o2o]; exact egi _ _ z
    have vj : Vo [a, o] Hd (upd Hi o (.dK (oD sg kng cur.s txh plg cur.tv))) := vf.trans (vo_upd (.of (eg.trans egi)) (by simp))
    have sj : Mst m c g (upd Hi o (.dK (oD sg kng cur.s txh plg cur.tv))) (r + 1000) := mst_vo sf2 (vo_upd (.of (eg.trans egi)) (by simp : o ∈ [a, o])) out
    generalize upd Hi o (.dK (oD sg kng cur.s txh plg cur.tv)) = G at owj shj Fj vj sj
    -- shelf += far
    obtain ⟨fd, ps, ds, FI, hbI, hdI⟩ := mk_iadd (P := P) E
    cases hdI
    refine w_cons ⟨_, ps_aug (i := 1) sc__law_joined.nd rfl (by first | exact .inl rfl | exact .inr rfl) we_ok (iop_addO FI (E.meS 113) sf hbI (hr.mono (by decide))), .ref a, rfl, Ev.app (ev_v (i := 4) rfl vx) fun y1 Hk ek hy1 => ?_⟩
    have hy1 : y1 = .ref x := hy1
    subst hy1
    have shk := shj.ex ek
    have Fk := Fj.ex ek
    obtain ⟨dxk, xk0, qk, xsk, hIk, hPk⟩ := id shk
    refine ⟨a, dxk, _, rfl, hIk, a, x, sg, cur, far, past, pastF, rfl, shk, Fk.sh, ok, okF, by have := okn.most; omega, by omega, fun Hl el shl => ⟨⟨a, rfl⟩, ?_⟩⟩
    have kkl : Kp Hk Hl := kp_off hIk ins_not el
    have xa : x ≠ a := fun z => ax (by rw [← z]; simp)
    have o2a : o2 ≠ a := fun z => ax (by rw [← z]; simp)
    have Fl : St K Hl x o2 sg 30 many far pastF := Fk.kp kkl (fun u z => el _ _ (by rw [off_ne xa]; exact z)) fun u z => el _ _ (by rw [off_ne o2a]; exact z)
    have owl : OwR K Hl o sg n1 (addL cur far) (past ++ [cur]) := (owj.kp (.of ek) fun _ z => ek _ _ z).kp kkl fun u z => el _ _ (by rw [off_ne ao.symm]; exact z)
    have vl : Vo [a, o] Hd Hl := (vj.trans (.of ek)).trans (vo_off el (by simp))
    have sl : Mst m c g Hl (r + 1000) := mst_vo (sj.ex ek) (vo_off el (by simp : a ∈ [a, o])) out
    refine w_retW (we_callG (mk_stands E) gd hr ⟨_, pa_cons we_ok (pa_cons we_ok pa_nil), Ev.app (ev_v (i := 4) rfl vx) fun y2 Hm em hy2 => Ev.app (ev_v (i := 3) rfl vo2) fun y3 Hn en hy3 => ?_⟩)
    have hy2 : y2 = .ref x := hy2
    have hy3 : y3 = .ref o2 := hy3
    subst hy2 hy3
    have eln := em.trans en
    refine ⟨x, o2, sg, 30, many, far, pastF, rfl, Fl.ex eln, by omega, fun Ho eo => ?_⟩
    have elo := eln.trans eo
    have dF : Dd m g ([a, o] ++ [x, o2]) H Ho := ((dd0.mono (by simp)).trans ((dd_vo vl out.2.2).mono (by simp))).trans (.of elo)
    refine q Ho (addL cur far) (past ++ [cur]) (dd_fresh dF fun b hb => by
      simp only [List.mem_cons, List.not_mem_nil, or_false] at hb
      rcases hb with rfl | rfl
      · exact x0
      · exact o0) ((sl.ex elo).mono (by omega)) ⟨shl.ex elo, owl.kp (.of elo) fun _ z => elo _ _ z, okN_more S.ok ⟨ok.f, ok.s, fun t ht => by
        rcases List.mem_append.mp ht with ht | ht
        · exact ok.t t ht
        · exact okF.t t (lineF_mem ht), by
          show (cur.ts ++ lineF far.f far.s far.ts).length ≤ _
          rw [List.length_append, lineF_len]
          have := okn.most
          omega⟩, snoc_len lz⟩ (bot_snoc _ _ _)) (fun _ _ _ _ _ _ us hl => match us, hl with | [_, _, _], _ => rfl)
end
end Lk

set_option maxHeartbeats 1000000
/-! _law_deed. -/
namespace Lk
open PySem PySem.Spec PyProof.Rows L2
open Evl (Ex)
section
variable {K : Frag} {m c g a o : Addr} {H H' : Hp} {r : Nat} {sg : List Nat} {n1 n2 N M : Nat} {cur : Pe} {past : List Pe}
theorem St.mono (S : St K H a o sg n1 N cur past) (h : n1 ≤ n2) (h2 : N ≤ M) : St K H a o sg n2 M cur past := ⟨S.sh, S.ow.mono h, fun p hp => (S.ok p hp).mono h2, Nat.le_trans S.len h2⟩
theorem St.tb (S : St K H a o sg n1 N cur past) (t : Tb K H) (st : Mst m c g H r) (d : Dd m g [a, o] H H') : Tb K H' := tabs_dn t d st S.hv
end
section
variable {P : Program} {w : World} {K : Frag} {mg : Str → Option Value} {base : Heap}
/-- what the written part must have for _law_undone -/
structure Und (P : Program) (K : Frag) (mg : Str → Option Value) (base : Heap) : Prop where
  nl : NlP P K
  ns : NlS K
  tb : LamX.TabB base mg (He.cT K udn).1 (He.cT K udn).2
  sf : PySem.W.selfFirst K (He.ga K "Shelf") = true
abbrev p_deed (K : Frag) : Sp := fun vs H Q _ => ∃ (m c g a o : Addr) (sg : List Nat) (n1 N : Nat) (cur : Pe) (past : List Pe) (r : Nat), vs = [.ref m, .ref a, .ref o] ∧ Mst m c g H (r + 3000) ∧ Tb K H ∧ St K H a o sg n1 N cur past ∧ sg.length ≤ 4 ∧ 9 ≤ n1 ∧ n1 ≤ 28 ∧ N ≤ 40 ∧
  ∀ H' cur' past', Dn m g [a, o] H H' → Tb K H' → Mst m c g H' r → St K H' a o sg (n1 + 1) (N + 1) cur' past' → bot cur' past' = bot cur past → Q (.bl true) H'
theorem mk_deed (E : En w K mg base) (U : Und P K mg base) : CalG P w K mg base "_law_deed" 15 (p_deed K) :=
  calGd_of E D__law_deed 67 64 sc__law_deed (fun vs H Q EE h => by obtain ⟨m, c, g, a, o, sg, n1, N, cur, past, r, rfl, _⟩ := h; rfl) (fun cdv Ar outer s H vs Q EE hr gd h => by
    obtain ⟨m, c, g, a, o, sg, n1, N, cur, past, r, rfl, st, T0, S, sg4, n9, n28, n40, q⟩ := h
    have hu := hu_of hr
    have vm : ∀ {Hx : Hp} S, (rV (.ref m)).r S (.ref m) Hx := fun _ => rfl
    have va : ∀ {Hx : Hp} S, (rV (.ref a)).r S (.ref a) Hx := fun _ => rfl
    have vo : ∀ {Hx : Hp} S, (rV (.ref o)).r S (.ref o) Hx := fun _ => rfl
    have out := mst_St st S
    have okn := S.ok cur (List.mem_cons_self ..)
    have ok := okn.ok (by omega)
    have os := ok.f.sn
    have tz := okn.most
    obtain ⟨kn, tx, pl, ws, ho, hpl, hpo, hl⟩ := S.ow
    obtain ⟨es, kd, oe, ez, ef⟩ := hl.kn
    obtain ⟨xs, htx, imx⟩ := hl.tx
    refine w_setW (i := 3) sc__law_deed.nd (Es.go (r := r + 2999) (es_draw (lim := 10) E hr (mk_draw E) (fun H1 d => ev_v (i := 0) rfl vm) (fun H1 d => ev_int) (by decide) (by decide)) (st.mono (by omega)) fun v1 H1 d1 s1 ⟨way, ev1, w0, w1⟩ => ?_)
    subst ev1
    have vw : ∀ {Hx : Hp} S, (rI way).r S (.int way) Hx := fun _ => .int _
    refine w_if (t := decide (way < 3)) (et_cmp op_lt (ev_v (i := 3) rfl vw) (ev_int (i := 3)) r_lt (nomark _)) (fun hw H2 e2 => ?_) fun hw H2 e2 => w_end ?_
    · have d02 := d1.trans (.of e2)
      refine w_retW (we_callG (mk_filled E) gd hr ⟨_, pa_cons we_ok (pa_cons we_ok (pa_cons we_ok (pa_cons we_ok pa_nil))), Ev.app (ev_v (i := 0) rfl vm) fun z1 H3 e3 hz1 => Ev.app (ev_v (i := 1) rfl va) fun z2 H4 e4 hz2 => Ev.app (ev_v (i := 2) rfl vo) fun z3 H5 e5 hz3 => Ev.app (ev_int (i := 1)) fun z4 H6 e6 hz4 => ?_⟩)
      have hz1 : z1 = .ref m := hz1
      have hz2 : z2 = .ref a := hz2
      have hz3 : z3 = .ref o := hz3
      have hz4 := Im.eint hz4
      subst hz1 hz2 hz3 hz4
      have e26 := ((e3.trans e4).trans e5).trans e6
      have d06 := d02.trans (.of e26)
      have s6 := (s1.ex e2).ex e26
      refine ⟨m, c, g, a, o, 1, sg, n1, N, cur, past, r, rfl, s6.mono (by omega), S.dr st d06, by omega, fun H' cur' past' dd sd Sd _ bz => ?_⟩
      have d0 : Dd m g [a, o] H H' := (Dd.dr d06).trans dd
      exact q H' cur' past' d0.dn (S.tb T0 st d0) sd (Sd.mono (by omega) (Nat.le_refl _)) bz
    have d02 := d1.trans (.of e2)
    have s2 := s1.ex e2
    -- the rest behind the second test
    have last : ∀ (H3 : Hp), Dr m g H H3 → Mst m c g H3 (r + 2999) → Wm (Bx P w K mg base N__law_deed D__law_deed cdv Ar outer s H EE) (D__law_deed.body.drop 3) { nx := fun _ H' => Q .non H', rt := Q } [some (.ref m), some (.ref a), some (.ref o), some (.int way), none] H3 := fun H3 d03 s3 => by
      refine w_if (t := decide (way < 7)) (et_cmp op_lt (ev_v (i := 3) rfl vw) (ev_int (i := 7)) r_lt (nomark _)) (fun h7 H4 e4 => ?_) fun h7 H4 e4 => w_end ?_
      · have d04 := d03.trans (.of e4)
        refine w_setW (i := 4) sc__law_deed.nd (Es.go (r := r + 2400) (es_pm (mk_other E) hr ⟨sg, es, n1 + 1⟩ ⟨os, oe, by show es.length + 1 ≤ n1 + 1; omega, by show sg.length + 4 ≤ n1 + 1; omega, by show n1 + 1 ≤ 30; omega⟩ (sv_kn _ _) (fun H1 d => ev_v (i := 0) rfl vm) (fun H1 d => eac (ρ := rKd es) ((ev_oV (v := .ref kn) hu (ev_v (i := 2) rfl vo) (dr_own (d04.trans d) st ho)).to fun H3 e3 S3 => ⟨kn, rfl, (kd.kp (mst_kpD st (d04.trans d))).kp (.of e3)⟩) (eac (ρ := rS sg) ((ev_oV (v := .str (T sg)) hu (ev_v (i := 2) rfl vo) (dr_own (d04.trans d) st ho)).to fun _ _ _ => .str _) ea0))) ((s3.ex e4).mono (by show r + 2400 + 500 ≤ _; omega)) fun v5 H5 d5 s5 hv5 => ?_)
        obtain ⟨kn2, es2, rfl, _, kd2, oe2, ez2⟩ := hv5
        have ez2 : es2.length ≤ n1 + 1 := ez2
        refine w_retW (we_callG (mk_lchanged E) gd hr ⟨_, pa_cons we_ok (pa_cons we_ok (pa_cons we_ok (pa_cons we_ok (pa_cons we_ok pa_nil)))), Ev.app (ev_v (i := 0) rfl vm) fun z1 H6 e6 hz1 => Ev.app (ev_v (i := 1) rfl va) fun z2 H7 e7 hz2 => Ev.app (ev_v (i := 2) rfl vo) fun z3 H8 e8 hz3 => Ev.app (ev_v (i := 4) (ρ := rV (.ref kn2)) rfl fun _ => rfl) fun z4 H9 e9 hz4 => ?_⟩)
        have hz1 : z1 = .ref m := hz1
        have hz2 : z2 = .ref a := hz2
        have hz3 : z3 = .ref o := hz3
        have hz4 : z4 = .ref kn2 := hz4
        subst hz1 hz2 hz3 hz4
        have e59 := ((e6.trans e7).trans e8).trans e9
        refine we_1d (lim := 3) (r := r + 2399) E hr (mk_draw E) (s5.ex e59) (fun H1 d => ev_v (i := 0) rfl vm) (fun H1 d => ev_int) (by decide) (by decide) fun sn Ha da sa sn1 sn3 => ?_
        have d0a := ((d04.trans d5).trans (.of e59)).trans da
        refine ⟨m, c, g, a, o, kn2, (sn : Int), sg, n1 + 1, N, cur, past, es2, r, rfl, sa.mono (by omega), (S.dr st d0a).mono (by omega) (Nat.le_refl _), (kd2.kp (.of e59)).kp (mst_kpD (s5.ex e59) da), oe2, ez2, ⟨by omega, by omega⟩, by omega, fun H' tv dd sd Sd => ?_⟩
        have d0 : Dd m g [a, o] H H' := (Dd.dr d0a).trans dd
        exact q H' _ _ d0.dn (S.tb T0 st d0) sd Sd (bot_snoc _ _ _)
      · have d04 := d03.trans (.of e4)
        refine w_if (t := decide (way = 7)) (et_cmp op_eq (ev_v (i := 3) rfl vw) (ev_int (i := 7)) r_eqi (nomark _)) (fun h8 H5 e5 => ?_) fun h8 H5 e5 => w_end ?_
        · have d05 := d04.trans (.of e5)
          refine w_retW (we_callG (mk_joined E U.sf) gd hr ⟨_, pa_cons we_ok (pa_cons we_ok (pa_cons we_ok pa_nil)), Ev.app (ev_v (i := 0) rfl vm) fun z1 H6 e6 hz1 => Ev.app (ev_v (i := 1) rfl va) fun z2 H7 e7 hz2 => Ev.app (ev_v (i := 2) rfl vo) fun z3 H8 e8 hz3 => ?_⟩)
          have hz1 : z1 = .ref m := hz1
          have hz2 : z2 = .ref a := hz2
          have hz3 : z3 = .ref o := hz3
          subst hz1 hz2 hz3
          have e58 := (e6.trans e7).trans e8
          have d08 := d05.trans (.of e58)
          refine ⟨m, c, g, a, o, sg, n1, N, cur, past, r, rfl, ((((s3.ex e4).ex e5).ex e58)).mono (by omega), S.dr st d08, n28, n40, fun H' cur' past' dd sd Sd bz => ?_⟩
          have d0 : Dd m g [a, o] H H' := (Dd.dr d08).trans dd
          exact q H' cur' past' d0.dn (S.tb T0 st d0) sd (Sd.mono (by omega) (Nat.le_refl _)) bz
        · have d05 := d04.trans (.of e5)
          refine w_retW (we_call (mk_undone E U.nl U.ns U.tb) hr ⟨_, pa_cons we_ok (pa_cons we_ok pa_nil), Ev.app (ev_v (i := 1) rfl va) fun z2 H7 e7 hz2 => Ev.app (ev_v (i := 2) rfl vo) fun z3 H8 e8 hz3 => ?_⟩)
          have hz2 : z2 = .ref a := hz2
          have hz3 : z3 = .ref o := hz3
          subst hz2 hz3
          have e58 := e7.trans e8
          have d08 := d05.trans (.of e58)
          have s8 := ((s3.ex e4).ex e5).ex e58
          have S8 := S.dr st d08
          have T8 := S.tb T0 st (Dd.dr d08)
          have out8 := mst_St s8 S8
          refine ⟨a, o, sg, n1, N, cur, past, rfl, T8, S8, ?_⟩
          have fin : ∀ H' cur' past', Vn [a, o] H8 H' → Tb K H' → St K H' a o sg n1 N cur' past' → bot cur' past' = bot cur past → Q (.bl true) H' := fun H' cur' past' v' T' S' bz => q H' cur' past' (((Dd.dr d08).dn).trans (dn_vn v' out8.2.2)) T' ((mst_vn s8 v' out8).mono (by omega)) (S'.mono (by omega) (by omega)) bz
          rcases List.eq_nil_or_concat past with rfl | ⟨past', p, rfl⟩
          · exact .inl ⟨rfl, fun H' v' T' S' => fin H' cur [] v' T' S' rfl⟩
          · exact .inr ⟨past', p, List.concat_eq_append .. |>.symm ▸ rfl, fun H' v' T' S' => fin H' p past' v' T' S' (by rw [List.concat_eq_append]; exact (bot_snoc _ _ _).symm)⟩
    refine w_ifAnd (et_cmp (t := decide (way < 5)) op_lt (ev_v (i := 3) rfl vw) (ev_int (i := 5)) r_lt (nomark _) H2 (Ex.refl _) _ fun H3 e3 => ?_)
    have d03 := d02.trans (.of e3)
    have s3 := s2.ex e3
    by_cases h5 : way < 5
    · rw [if_pos (decide_eq_true h5)]
      have htx3 := dr_lst d03 st htx (ims_cst imx)
      refine et_cmp (t := !xs.isEmpty) (op_neL0 (Nat.lt_of_le_of_lt (Nat.le_succ _) hu)) (ev_oV (v := .ref tx) hu (ev_v (i := 2) rfl vo) (dr_own d03 st ho)) ev_nil (fun S2 x y H3 Q3 e3 e4 hx hy gg => by
        have hx : x = .ref tx := hx
        obtain ⟨l, xs2, rfl, _, hl1, im⟩ := hy
        cases im
        exact ⟨tx, l, xs, hx, rfl, SqL.of ((e3.trans e4) _ _ htx3), SqL.of hl1, gg.at (.bl _)⟩) (nomark _) H3 (Ex.refl _) _ fun H4 e4 => ?_
      have d04 := d03.trans (.of e4)
      have s4 := s3.ex e4
      cases hx : xs.isEmpty with
      | true =>
        rw [if_neg (show ¬ (!true) = true by decide)]
        exact w_end (last H4 d04 s4)
      | false =>
        rw [if_pos (show (!false) = true from rfl)]
        have lx : 1 ≤ cur.ts.length := by
          have z := imx.len
          rw [List.length_map] at z
          cases xs with
          | nil => cases hx
          | cons x xs => simp at z; omega
        refine w_retW (we_callG (mk_ltaken E) gd hr ⟨_, pa_cons we_ok (pa_cons we_ok (pa_cons we_ok pa_nil)), Ev.app (ev_v (i := 1) rfl va) fun z2 H5 e5 hz2 => Ev.app (ev_v (i := 2) rfl vo) fun z3 H6 e6 hz3 => ⟨_, pe_ix ix_list we_ok we_ok (fun _ _ => rfl), Ev.app (ev_oV (v := .ref tx) hu (ev_v (i := 2) rfl vo) (dr_own (d04.trans (.of (e5.trans e6))) st ho)) fun x8 H8 e8 hx8 => ?_⟩⟩)
        have hz2 : z2 = .ref a := hz2
        have hz3 : z3 = .ref o := hz3
        have hx8 : x8 = .ref tx := hx8
        subst hz2 hz3 hx8
        have e48 := (e5.trans e6).trans e8
        have d08 := d04.trans (.of e48)
        refine Es.go (r := r + 2998) (es_draw (lim := (cur.ts.length : Int)) E hr (mk_draw E) (fun H1 d => ev_v (i := 0) rfl vm) (fun H1 d => ev_d (ev_len E.len (ev_ql ((ev_oV (v := .ref tx) hu (ev_v (i := 2) rfl vo) (dr_own (d08.trans d) st ho)).to fun H9 e9 S9 => ((hl.kp (mst_kpD st (d08.trans d))).ex e9).tl S9))) (by rw [List.length_map])) (by omega) (by omega)) (s4.ex e48) fun v9 H9 d9 s9 ⟨j, ev9, j0, j1⟩ => ?_
        subst ev9
        obtain ⟨j, rfl⟩ := Int.eq_ofNat_of_zero_le j0
        have d09 := d08.trans d9
        have htx9 := dr_lst d09 st htx (ims_cst imx)
        have imx9 := imx.tu (mst_kpD st d09).tu
        have jl : j < (cur.ts.map eS).length := by rw [List.length_map]; omega
        obtain ⟨v, v1, v2⟩ := imx9.get (List.getElem?_eq_getElem jl)
        rw [List.getElem_map] at v2
        have v2 := Im.estr v2
        subst v2
        have tj : cur.ts[j]'(by rw [List.length_map] at jl; exact jl) ∈ cur.ts := List.getElem_mem _
        generalize cur.ts[j]'(by rw [List.length_map] at jl; exact jl) = tt at v1 tj
        refine ⟨tx, xs, (j : Int), .str (T tt), rfl, rfl, SqL.of htx9, ?_, ?_⟩
        · unfold atI
          rw [Evl.ixN_nat (by rw [imx9.len]; exact jl)]
          exact v1
        have S9 := S.dr st d09
        have out9 := mst_St s9 S9
        refine ⟨a, o, .str (T tt), sg, n1, N, cur, past, tt, rfl, S9, .str _, tj, by omega, fun H' v' S' => ?_⟩
        have d0 : Dd m g [a, o] H H' := (Dd.dr d09).trans (dd_vo v' out9.2.2)
        exact q H' _ _ d0.dn (S.tb T0 st d0) ((mst_vo s9 v' out9).mono (by omega)) (S'.mono (by omega) (Nat.le_refl _)) (bot_snoc _ _ _)
    · rw [if_neg (by simp [h5])]
      exact w_end (last H3 d03 s3)) (fun _ _ _ _ _ _ us hl => match us, hl with | [_, _, _], _ => rfl)
end
end Lk

set_option maxHeartbeats 1000000
/-! The fixed example at the end of the law. -/
namespace Lk
open PySem PySem.Spec PyProof.Rows L2
def sgE : List Nat := [97, 98]
def enA : List En1 := [([97], [(1, 0, 0)]), ([98], [(2, 0, 0)])]
def enB : List En1 := [([98], [(1, 0, 0)]), ([97], [(1, 0, 0)])]
def peA (tv : Addr) (ts : List (List Nat)) : Pe := ⟨tv, fE enA, 3, ts⟩
theorem ok_sgE : OkSg sgE := ⟨by decide, by decide, by decide, fun c hc => by
  simp only [sgE, List.mem_cons, List.not_mem_nil, or_false] at hc
  rcases hc with rfl | rfl <;> exact ⟨by decide, by decide, by decide⟩⟩
theorem ok_enA : OkEs sgE enA := ⟨by decide, fun e he => by
  simp only [enA, List.mem_cons, List.not_mem_nil, or_false] at he
  rcases he with rfl | rfl <;> exact ⟨⟨by decide, by decide, by decide⟩, by decide, fun u hu => by
    simp only [List.mem_cons, List.not_mem_nil, or_false] at hu
    subst hu
    exact ⟨by decide, by decide, by decide⟩⟩, by decide, by decide⟩
theorem ok_enB : OkEs sgE enB := ⟨by decide, fun e he => by
  simp only [enB, List.mem_cons, List.not_mem_nil, or_false] at he
  rcases he with rfl | rfl <;> exact ⟨⟨by decide, by decide, by decide⟩, by decide, fun u hu => by
    simp only [List.mem_cons, List.not_mem_nil, or_false] at hu
    subst hu
    exact ⟨by decide, by decide, by decide⟩⟩, by decide, by decide⟩
theorem put0 : (cntLe (sortK (keysF (fE enA) 3 ([] ++ [[98]]))) (keyF (fE enA) 3 [98]) : Int) - 1 = 0 := by decide +kernel
theorem put1 : (cntLe (sortK (keysF (fE enA) 3 ([[98]] ++ [[97]]))) (keyF (fE enA) 3 [97]) : Int) - 1 = 0 := by
  have e : keysF (fE enA) 3 ([[98]] ++ [[97]]) = keysF (fE enA) 3 [[98]] ++ [keyF (fE enA) 3 [97]] := by rw [keysF, List.map_append] <;> rfl
  rw [e, cntLe_add]
  decide +kernel
theorem put2 : (cntLe (sortK (keysF (fE enA) 3 ([[98], [97]] ++ [[98]]))) (keyF (fE enA) 3 [98]) : Int) - 1 = 2 := by
  have e : keysF (fE enA) 3 ([[98], [97]] ++ [[98]]) = keysF (fE enA) 3 [[98], [97]] ++ [keyF (fE enA) 3 [98]] := by rw [keysF, List.map_append] <;> rfl
  rw [e, cntLe_add]
  decide +kernel
theorem leP_eq (p q : List Int × Nat) : leP p q = decide (p.1 < q.1 ∨ (p.1 = q.1 ∧ p.2 ≤ q.2)) := by
  show (!PySem.W.dataLt (eP q) (eP p)) = _
  unfold eP
  rw [PySem.W.dataLt_pair (alike_eK _ _) (by simp [PySem.W.alike]), eqv_eK]
  have l : PySem.W.dataLt (eK q.1) (eK p.1) = decide (q.1 < p.1) := by
    show PySem.W.dataLt (.tuple (q.1.map .int)) (.tuple (p.1.map .int)) = _
    rw [PySem.W.dataLt_tuple]
    exact PySem.W.dataLt_ints _ _
  rw [l, PySem.W.dataLt_int]
  by_cases h : q.1 = p.1
  · rw [h, if_pos (decide_eq_true rfl)]
    have nl : ¬ p.1 < p.1 := List.lt_irrefl _
    have ev : PyData.eqv (.int (q.2 : Int)) (.int (p.2 : Int)) = decide ((q.2 : Int) = (p.2 : Int)) := by
      show ((q.2 : Int) == (p.2 : Int)) = _
      by_cases z : (q.2 : Int) = (p.2 : Int) <;> simp [z]
    rw [ev]
    simp only [nl, false_or, true_and]
    by_cases h4 : (q.2 : Int) = (p.2 : Int)
    · rw [if_pos (decide_eq_true h4), decide_eq_true (show p.2 ≤ q.2 by omega)] <;> rfl
    · rw [if_neg (fun z => h4 (of_decide_eq_true z))]
      by_cases h2 : p.2 ≤ q.2
      · rw [decide_eq_true h2, decide_eq_false (show ¬ (q.2 : Int) < (p.2 : Int) by omega)] <;> rfl
      · rw [decide_eq_false h2, decide_eq_true (show (q.2 : Int) < (p.2 : Int) by omega)] <;> rfl
  · rw [if_neg (by simp [h])]
    have ne : ¬ p.1 = q.1 := fun z => h z.symm
    simp only [ne, false_and, or_false]
    by_cases h2 : q.1 < p.1
    · have h3 : ¬ p.1 < q.1 := fun z => List.lt_irrefl _ (List.lt_trans z h2)
      simp [h2, h3]
    · have h3 : p.1 < q.1 := by
        rcases List.le_iff_lt_or_eq.mp (List.not_lt.mp h2) with z | z
        · exact z
        · exact absurd z ne
      simp [h2, h3]
theorem orderF_of {ks : List (List Int)} (L : List (List Int × Nat)) (hp : L.Perm ks.zipIdx) (pw : L.Pairwise fun p q => p.1 < q.1 ∨ (p.1 = q.1 ∧ p.2 ≤ q.2)) : orderF ks = L.map (·.2) := by
  unfold orderF
  congr 1
  refine List.Perm.eq_of_pairwise (le := fun p q => p.1 < q.1 ∨ (p.1 = q.1 ∧ p.2 ≤ q.2)) (fun a b _ _ h1 h2 => ?_) ?_ pw ((List.mergeSort_perm _ _).trans hp.symm)
  · rcases h1 with h1 | ⟨h1, h3⟩
    · rcases h2 with h2 | ⟨h2, _⟩
      · exact absurd (List.lt_trans h1 h2) (List.lt_irrefl _)
      · rw [h2] at h1
        exact absurd h1 (List.lt_irrefl _)
    · rcases h2 with h2 | ⟨_, h4⟩
      · rw [h1] at h2
        exact absurd h2 (List.lt_irrefl _)
      · exact Prod.ext h1 (Nat.le_antisymm h3 h4)
  · refine (List.pairwise_mergeSort (fun a b c => leP_total.trans (a := a) (b := b) (c := c)) (le_total2 leP_total) _).imp fun {p q} h => ?_
    rw [leP_eq] at h
    exact of_decide_eq_true h
theorem kA3 : keysF (fE enA) 3 [[98], [97], [98]] = [[2, 0, 1, 0, 1], [1, 0, 1, 0, 1], [2, 0, 1, 0, 1]] := by decide +kernel
theorem kB3 : keysF (fE enB) 3 [[98], [97], [98]] = [[1, 0, 1, 0, 1], [1, 0, 1, 0, 1], [1, 0, 1, 0, 1]] := by decide +kernel
theorem kA1 : keysF (fE enA) 1 [[98], [97], [98]] = [[2], [1], [2]] := by decide +kernel
theorem oA3 : orderF [[2, 0, 1, 0, 1], [1, 0, 1, 0, 1], [2, 0, 1, 0, 1]] = [1, 0, 2] := orderF_of [([1, 0, 1, 0, 1], 1), ([2, 0, 1, 0, 1], 0), ([2, 0, 1, 0, 1], 2)] (by decide +kernel) (by decide +kernel)
theorem oB3 : orderF [[1, 0, 1, 0, 1], [1, 0, 1, 0, 1], [1, 0, 1, 0, 1]] = [0, 1, 2] := orderF_of [([1, 0, 1, 0, 1], 0), ([1, 0, 1, 0, 1], 1), ([1, 0, 1, 0, 1], 2)] (by decide +kernel) (by decide +kernel)
theorem oA1 : orderF [[2], [1], [2]] = [1, 0, 2] := orderF_of [([1], 1), ([2], 0), ([2], 2)] (by decide +kernel) (by decide +kernel)
theorem chg1 (tv : Addr) : turnsBy (peA tv [[98], [97], [98]]) (fE enB) 3 = 1 := by
  show (turnsF (placesF (orderF (keysF (fE enB) 3 [[98], [97], [98]])) (orderF (keysF (fE enA) 3 [[98], [97], [98]])))).length = 1
  rw [kA3, kB3, oA3, oB3]
  decide +kernel
theorem chg2 (tv : Addr) : turnsBy ⟨tv, fE enB, 3, [[98], [97], [98]]⟩ (fE enA) 1 = 1 := by
  show (turnsF (placesF (orderF (keysF (fE enA) 1 [[98], [97], [98]])) (orderF (keysF (fE enB) 3 [[98], [97], [98]])))).length = 1
  rw [kA1, kB3, oA1, oB3]
  decide +kernel
theorem tak : (orderF (keysF (fE enA) 1 [[98], [97], [98]])).idxOf (([[98], [97], [98]] : List (List Nat)).idxOf [98]) = 1 := by
  rw [kA1, oA1]
  decide +kernel
theorem oA1' : orderF [[1], [2]] = [0, 1] := orderF_of [([1], 0), ([2], 1)] (by decide +kernel) (by decide +kernel)
theorem lin : lineF (fE enA) 1 ([[98], [97], [98]].take 0 ++ [[98], [97], [98]].drop 1) = [[97], [98]] := by
  have e : keysF (fE enA) 1 ([[98], [97], [98]].take 0 ++ [[98], [97], [98]].drop 1) = [[1], [2]] := by decide +kernel
  unfold lineF
  rw [e, oA1']
  decide +kernel
end Lk

set_option maxHeartbeats 1000000
/-! The law's end: the fixed example. -/
namespace Lk
open PySem PySem.Spec PyProof.Rows L2
open Evl (Ex)
theorem not_lst {H : Hp} {l : Addr} {xs : List V} (h : H l = some (.lst xs)) : NoT H l := ⟨_, h, (fun _ _ z => by cases z), (fun _ z => by cases z), (fun _ z => by cases z), (fun _ z => by cases z), (fun _ z => by cases z)⟩
theorem shD_mut {K : Frag} {H : Hp} {a l : Addr} {sg : List Nat} {cur : Pe} {past : List Pe} {xs : List V} {u : HO} (h : ShD K H a sg cur past) (hl : H l = some (.lst xs)) : ShD K (upd H l u) a sg cur past := by
  obtain ⟨dx, x, q, ys, h1, h2⟩ := h
  have n : a ≠ l := fun z => by rw [z, hl] at h1; cases h1
  exact ⟨dx, x, q, ys, by rw [upd_ne n]; exact h1, (h2.off (not_lst hl)).ex (ex_updl off_ex)⟩
theorem kp_mut {H H' : Hp} {l : Addr} {u : HO} (k : Kp H H') (h : H l = none) : Kp H (upd H' l u) := fun b w z cw => by
  rw [upd_ne (fun q => by rw [q, h] at z; cases z)]
  exact k b w z cw
theorem str_ab : ("ab" : Str) = T sgE := by decide +kernel
theorem str_a : ("a" : Str) = T [97] := by decide +kernel
theorem str_b : ("b" : Str) = T [98] := by decide +kernel
def rs3 : List Int := [0, 0, 2]
def ts3 : List (List Nat) := [[98], [97], [98]]
section
variable {P : Program} {w : World} {K : Frag} {mg : Str → Option Value} {base : Heap}
theorem law_tail (E : En w K mg base) {cdv : Value} {Ar : Around} {outer : List Env} {s0 : Shared} {H0 H : Hp} {Q : VK} {EE : XK} (hr : Room 16 (Ar.deeper (envOfC D_law.qual D_law.scope s0.heap.objs.size (He.fAd K D_law.at_) cdv)))
    {x0 x1 x2 x3 x4 x5 : Option V} (q : ∀ H', Q (.bl true) H') :
    Wm (Bx P w K mg base N_law D_law cdv Ar outer s0 H0 EE) (D_law.body.drop 2) { nx := fun _ H' => Q .non H', rt := Q } [x0, x1, x2, x3, x4, x5, none, none, none, none] H := by
  have hu := hu_of hr
  refine w_setW (i := 6) sc_law.nd (we_mkT (sg := sgE) (en := enA) (f := fE enA) E (mk_Table_init E) hr (by decide) ok_sgE ok_enA (fE_es ok_enA.nd) (Ev.app (ev_d ev_str (congrArg PyData.str str_ab)) fun v1 H1 e1 hv1 => Ev.app (ev_qf (ev_lst (eac (ev_t2 (ev_d ev_str (congrArg PyData.str str_a)) (ev_t1 (ev_t3 (ev_int (i := 1)) (ev_int (i := 0)) (ev_int (i := 0))))) (eac (ev_t2 (ev_d ev_str (congrArg PyData.str str_b)) (ev_t1 (ev_t3 (ev_int (i := 2)) (ev_int (i := 0)) (ev_int (i := 0))))) ea0)) (.cons (.cons .nil)) (by simp))) fun v2 H2 e2 hv2 => ⟨Im.estr hv1, hv2, fun v3 H3 e3 hT => ?_⟩))
  obtain ⟨ta, rfl⟩ : ∃ ta, v3 = .ref ta := by
    obtain ⟨a, _, _, _, _, _, h, _⟩ := hT
    exact ⟨a, h⟩
  refine w_setW (i := 7) sc_law.nd (we_mkT (sg := sgE) (en := enB) (f := fE enB) E (mk_Table_init E) hr (by decide) ok_sgE ok_enB (fE_es ok_enB.nd) (Ev.app (ev_d ev_str (congrArg PyData.str str_ab)) fun v4 H4 e4 hv4 => Ev.app (ev_qf (ev_lst (eac (ev_t2 (ev_d ev_str (congrArg PyData.str str_b)) (ev_t1 (ev_t3 (ev_int (i := 1)) (ev_int (i := 0)) (ev_int (i := 0))))) (eac (ev_t2 (ev_d ev_str (congrArg PyData.str str_a)) (ev_t1 (ev_t3 (ev_int (i := 1)) (ev_int (i := 0)) (ev_int (i := 0))))) ea0)) (.cons (.cons .nil)) (by simp))) fun v5 H5 e5 hv5 => ⟨Im.estr hv4, hv5, fun v6 H6 e6 hT2 => ?_⟩))
  obtain ⟨tb, rfl⟩ : ∃ tb, v6 = .ref tb := by
    obtain ⟨a, _, _, _, _, _, h, _⟩ := hT2
    exact ⟨a, h⟩
  have hTA : (rTb K sgE (fE enA)).r H6 (.ref ta) H6 := tb_kp (tb_kp (S' := H3) hT (.of (Ex.refl _))) (.of ((e4.trans e5).trans e6))
  have hTB : (rTb K sgE (fE enB)).r H6 (.ref tb) H6 := tb_kp hT2 (.of (Ex.refl _))
  have vta : ∀ {Hx : Hp} S, (rV (.ref ta)).r S (.ref ta) Hx := fun _ => rfl
  have vtb : ∀ {Hx : Hp} S, (rV (.ref tb)).r S (.ref tb) Hx := fun _ => rfl
  refine w_setW (i := 3) sc_law.nd (we_mkS E (mk_Sh_init3 E) hr ⟨_, pa_cons we_ok pa_nil, Ev.app (ev_v (i := 6) rfl vta) fun y1 H7 e7 hy1 => ?_⟩)
  have hy1 : y1 = .ref ta := hy1
  subst hy1
  refine ⟨ta, 3, sgE, fE enA, rfl, tb_kp (tb_kp (S' := H6) hTA (.of (Ex.refl _))) (.of e7), ⟨by decide, by decide⟩, fun a H8 a7 e8 sha => ?_⟩
  have va : ∀ {Hx : Hp} S, (rV (.ref a)).r S (.ref a) Hx := fun _ => rfl
  have okA : ∀ ts, (∀ t ∈ ts, OkT sgE t) → ts.length ≤ 200 → OkP sgE (peA ta ts) := fun ts h1 h2 => ⟨fE_ok ok_sgE ok_enA, (show OkS 3 from ⟨by decide, by decide⟩), h1, h2⟩
  have okt : ∀ t ∈ ts3, OkT sgE t := fun t ht => by
    simp only [ts3, List.mem_cons, List.not_mem_nil, or_false] at ht
    rcases ht with rfl | rfl | rfl <;> exact ⟨by decide, by decide⟩
  -- the three puts
  refine w_cons ⟨_, ps_setLc (i := 8) (g := cG _ _ _) (tt := tYes) (te := cE _ _ _) (own := [("_law_text_here", 9)]) rfl sc_law.nd rfl rfl (sw_true rfl rfl rfl rfl) wi_ok (blkOk_by rfl) cg_ok (fun _ _ _ _ _ => pts_nil) ce_ok (by intro _; rfl), ?_⟩
  refine ⟨_, pi_tup we_ok, Ev.app (ev_t3 (ev_d ev_str (congrArg PyData.str str_b)) (ev_d ev_str (congrArg PyData.str str_a)) (ev_d ev_str (congrArg PyData.str str_b))) fun v9 H9 e9 hv9 => ?_⟩
  obtain ⟨tq, xs9, rfl, htq, im9⟩ := Im.etup hv9
  have im9 : Ims H9 xs9 (ts3.map eS) := im9
  have sh9 := sha.ex e9
  refine ⟨tq, rfl, ⟨xs9, SqT.of htq⟩, fun Dl hD => ?_⟩
  have wk := walk_tup (K := K) (a := tq) (xs := xs9)
  have l9 : xs9.length = 3 := by rw [im9.len] <;> rfl
  refine lc_it wk (g := cG _ _ _) (tt := tYes) (te := cE _ _ _) (vs := [9]) (Qd := _) (fun i H' => Kp H9 H' ∧ H' Dl = some (.lst ((rs3.take i).map V.int)) ∧ ∃ past, ShD K H' a sgE (peA ta (ts3.take i)) past ∧ past.length = i) ⟨Kp.of (Ex.new hD), upd_same, [], sh9.ex (Ex.new hD), rfl⟩ (fun i H' _ p => SqT.of (p.1 _ _ htq trivial)) (fun i x H' H10 hi p y => ?_) (fun H' p => ?_)
  · obtain ⟨p1, p2, past, p3, p4⟩ := p
    obtain ⟨y1, y2⟩ := y
    subst y1
    have i3 : i < 3 := by omega
    have hd : (ts3.map eS)[i]? = some (eS (ts3.getD i [])) := by
      have : i = 0 ∨ i = 1 ∨ i = 2 := by omega
      rcases this with rfl | rfl | rfl <;> rfl
    obtain ⟨d, d1, d2⟩ := im9.getv y2
    rw [hd] at d1
    cases d1
    have d2 := Im.estr d2
    subst d2
    refine fun s' H0 C cl fp => tg_n (i := 9) (X := (Bx P w K mg base N_law D_law cdv Ar outer s0 _ EE).blk s' H0 _ (compEnvC _ cl C _) fp) sc_law.nd rfl (.inl rfl) (.inr rfl) _ ⟨by rw [wipe_set (by simp), wipe_wipe], ?_⟩
    simp only [tYes, ↓reduceIte]
    obtain ⟨dx, x, qp, ys, hI, hP⟩ := id p3
    refine fun s' H0 C cl fp => we_meth E.clsS (E.meS 104) (mk_put E) hr (ev_v (i := 3) rfl va) hI rfl fun H11 e11 => ⟨_, pa_cons we_ok pa_nil, Ev.app (ev_v (i := 9) (ρ := rS (ts3.getD i [])) rfl fun _ => .str _) fun xa Ha ea hxa => ?_⟩
    have e1a := e11.trans ea
    have hm : ts3.getD i [] ∈ ts3 := by
      have : i = 0 ∨ i = 1 ∨ i = 2 := by omega
      rcases this with rfl | rfl | rfl <;> simp [ts3]
    refine ⟨a, sgE, peA ta (ts3.take i), past, xa, ts3.getD i [], rfl, p3.ex e1a, hxa, okA _ (fun t ht => okt t (List.mem_of_mem_take ht)) (by rw [List.length_take]; omega), okt _ hm, by show (ts3.take i).length + 1 ≤ 200; rw [List.length_take]; omega, by omega, fun Hb eb shb => ?_⟩
    have pD : Hb Dl = some (.lst ((rs3.take i).map V.int)) := eb _ _ (by
      rw [off_ne]
      · exact e1a _ _ p2
      · rintro rfl
        rw [hI] at p2
        cases p2)
    refine ⟨_, pD, by rw [List.length_map, List.length_take, sizeLine_eq]; omega, kp_mut (p1.trans ((Kp.of e1a).trans (kp_off (e1a _ _ hI) ins_not eb))) hD, ?_, past ++ [peA ta (ts3.take i)], ?_, by rw [List.length_append, p4] <;> rfl⟩
    · rw [upd_same]
      have : i = 0 ∨ i = 1 ∨ i = 2 := by omega
      rcases this with rfl | rfl | rfl
      · rw [show (cntLe (sortK (keysF (peA ta (ts3.take 0)).f (peA ta (ts3.take 0)).s ((peA ta (ts3.take 0)).ts ++ [ts3.getD 0 []]))) (keyF (peA ta (ts3.take 0)).f (peA ta (ts3.take 0)).s (ts3.getD 0 [])) : Int) - 1 = 0 from put0] <;> rfl
      · rw [show (cntLe (sortK (keysF (peA ta (ts3.take 1)).f (peA ta (ts3.take 1)).s ((peA ta (ts3.take 1)).ts ++ [ts3.getD 1 []]))) (keyF (peA ta (ts3.take 1)).f (peA ta (ts3.take 1)).s (ts3.getD 1 [])) : Int) - 1 = 0 from put1] <;> rfl
      · rw [show (cntLe (sortK (keysF (peA ta (ts3.take 2)).f (peA ta (ts3.take 2)).s ((peA ta (ts3.take 2)).ts ++ [ts3.getD 2 []]))) (keyF (peA ta (ts3.take 2)).f (peA ta (ts3.take 2)).s (ts3.getD 2 [])) : Int) - 1 = 2 from put2] <;> rfl
    · have e : addT (peA ta (ts3.take i)) (ts3.getD i []) = peA ta (ts3.take (i + 1)) := by
        have : i = 0 ∨ i = 1 ∨ i = 2 := by omega
        rcases this with rfl | rfl | rfl <;> rfl
      rw [← e]
      exact shD_mut shb pD
  · obtain ⟨p1, p2, past, p3, p4⟩ := p
    have e8p : Kp H8 H' := (Kp.of e9).trans p1
    have l9' : (rs3.take xs9.length) = rs3 := by rw [l9] <;> rfl
    have t9' : (ts3.take xs9.length) = ts3 := by rw [l9] <;> rfl
    rw [l9'] at p2
    rw [t9'] at p3
    have hTA' : (rTb K sgE (fE enA)).r H6 (.ref ta) H' := tb_kp (tb_kp (S' := H6) hTA (.of (e7.trans e8))) e8p
    have hTB' : (rTb K sgE (fE enB)).r H6 (.ref tb) H' := tb_kp (tb_kp (S' := H6) hTB (.of (e7.trans e8))) e8p
    have ok3 := okA ts3 okt (by decide)
    refine w_setW (i := 8) sc_law.nd ⟨_, pe_op op_cat we_ok (pe_lst (pa_cons we_ok (pa_cons we_ok (pa_cons we_ok pa_nil)))), Ev.app (ev_v (i := 8) (ρ := rV (.ref Dl)) rfl fun _ => rfl) fun z1 G1 g1 hz1 => ?_⟩
    have hz1 : z1 = .ref Dl := hz1
    subst hz1
    have sh1 := p3.ex g1
    obtain ⟨dx1, xx1, qp1, ys1, hI1, hP1⟩ := id sh1
    refine we_meth E.clsS (E.meS 108) (mk_change3 E) hr (ev_v (i := 3) rfl va) hI1 rfl fun G2 g2 => ⟨_, pa_cons we_ok pa_nil, Ev.app (ev_v (i := 7) rfl vtb) fun z3 G3 g3 hz3 => ?_⟩
    have hz3 : z3 = .ref tb := hz3
    subst hz3
    have g03 := (g1.trans g2).trans g3
    refine ⟨a, sgE, peA ta ts3, past, tb, fE enB, 3, rfl, p3.ex g03, tb_kp hTB' (.of g03), ok3, fE_ok ok_sgE ok_enB, ⟨by decide, by decide⟩, by omega, fun G4 g4 sh4 => ?_⟩
    obtain ⟨dx3, xx3, qp3, ys3, hI3, _⟩ := id p3
    have naD : Dl ≠ a := fun z => by rw [z, hI3] at p2; cases p2
    have k34 : Kp H' G4 := (Kp.of g03).trans (kp_off (g03 _ _ hI3) ins_not g4)
    have D4 : G4 Dl = some (.lst (rs3.map V.int)) := g4 _ _ (by rw [off_ne naD]; exact g03 _ _ p2)
    have okB : OkP sgE ⟨tb, fE enB, 3, ts3⟩ := ⟨fE_ok ok_sgE ok_enB, (show OkS 3 from ⟨by decide, by decide⟩), okt, (show ts3.length ≤ 200 by decide)⟩
    have okC : OkP sgE ⟨ta, fE enA, 1, ts3⟩ := ⟨fE_ok ok_sgE ok_enA, (show OkS 1 from ⟨by decide, by decide⟩), okt, (show ts3.length ≤ 200 by decide)⟩
    have sh4 : ShD K G4 a sgE ⟨tb, fE enB, 3, ts3⟩ (past ++ [peA ta ts3]) := sh4
    obtain ⟨dx4, xx4, qp4, ys4, hI4, hP4⟩ := id sh4
    refine we_meth E.clsS (E.meS 108) (mk_change E) hr (ev_v (i := 3) rfl va) hI4 rfl fun G5 g5 => ⟨_, pa_cons we_ok (pa_cons we_ok pa_nil), Ev.app (ev_v (i := 6) rfl vta) fun z5 G6 g6 hz5 => Ev.app (ev_int (i := 1)) fun z6 G7 g7 hz6 => ?_⟩
    have hz5 : z5 = .ref ta := hz5
    have hz6 := Im.eint hz6
    subst hz5 hz6
    have g47 := (g5.trans g6).trans g7
    refine ⟨a, sgE, ⟨tb, fE enB, 3, ts3⟩, past ++ [peA ta ts3], ta, fE enA, 1, rfl, sh4.ex g47, tb_kp hTA' (k34.trans (.of g47)), okB, fE_ok ok_sgE ok_enA, ⟨by decide, by decide⟩, by rw [List.length_append, p4]; simp; omega, fun G8 g8 sh8 => ?_⟩
    have D8 : G8 Dl = some (.lst (rs3.map V.int)) := g8 _ _ (by rw [off_ne naD]; exact g47 _ _ D4)
    have sh8 : ShD K G8 a sgE ⟨ta, fE enA, 1, ts3⟩ ((past ++ [peA ta ts3]) ++ [⟨tb, fE enB, 3, ts3⟩]) := sh8
    obtain ⟨dx8, xx8, qp8, ys8, hI8, hP8⟩ := id sh8
    refine we_meth E.clsS (E.meS 105) (mk_take E) hr (ev_v (i := 3) rfl va) hI8 rfl fun G9 g9 => ⟨_, pa_cons we_ok pa_nil, Ev.app (ev_d ev_str (congrArg PyData.str str_b)) fun za Ga ga hza => ?_⟩
    have g8a := g9.trans ga
    refine ⟨a, sgE, ⟨ta, fE enA, 1, ts3⟩, _, za, [98], rfl, sh8.ex g8a, hza, okC, by simp [ts3], by rw [List.length_append, List.length_append, p4]; simp; omega, fun Gb gb shb => ⟨sz6 (by simp), fun l2 hl2 => ?_⟩⟩
    have Db : Gb Dl = some (.lst (rs3.map V.int)) := gb _ _ (by rw [off_ne naD]; exact g8a _ _ D8)
    rw [show (turnsBy (peA ta ts3) (fE enB) 3 : Nat) = 1 from chg1 ta, show (turnsBy ⟨tb, fE enB, 3, ts3⟩ (fE enA) 1 : Nat) = 1 from chg2 tb, show (orderF (keysF (fE enA) 1 ts3)).idxOf (ts3.idxOf [98]) = 1 from tak]
    have gc : Ex Gb (upd Gb l2 (.lst [.int ((1 : Nat) : Int), .int ((1 : Nat) : Int), .int ((1 : Nat) : Int)])) := Ex.new hl2
    refine ⟨Dl, l2, rs3.map V.int, [.int 1, .int 1, .int 1], rfl, rfl, gc _ _ Db, upd_same, by rw [sizeLine_eq]; decide, fun l3 hl3 => ?_⟩
    have ge := gc.trans (Ex.new (o := .lst (rs3.map V.int ++ [.int 1, .int 1, .int 1])) hl3)
    have shd := shb.ex ge
    have okD : OkP sgE (dropT ⟨ta, fE enA, 1, ts3⟩ (ts3.idxOf [98])) := ⟨okC.f, okC.s, fun t ht => by
      rcases List.mem_append.mp ht with ht | ht
      · exact okt t (List.mem_of_mem_take ht)
      · exact okt t (List.mem_of_mem_drop ht), (show (ts3.take (ts3.idxOf [98]) ++ ts3.drop (ts3.idxOf [98] + 1)).length ≤ 200 by decide)⟩
    have l3v : upd (upd Gb l2 (.lst [.int ((1 : Nat) : Int), .int ((1 : Nat) : Int), .int ((1 : Nat) : Int)])) l3 (.lst (rs3.map V.int ++ [.int 1, .int 1, .int 1])) l3 = some (.lst (([0, 0, 2, 1, 1, 1] : List Int).map V.int)) := upd_same
    generalize upd (upd Gb l2 (.lst [.int ((1 : Nat) : Int), .int ((1 : Nat) : Int), .int ((1 : Nat) : Int)])) l3 (.lst (rs3.map V.int ++ [.int 1, .int 1, .int 1])) = GG at shd l3v
    refine w_ret (ρ := rB true) (ev_d (ev_and (t := true) (u := true) (ev_d (ev_cmp (op := .Eq) (ρ := rB (PyData.eqv (.list (([0, 0, 2, 1, 1, 1] : List Int).map .int)) (.list (([0, 0, 2, 1, 1, 1] : List Int).map .int)))) (op_eqD hr.units) (ev_v (i := 8) (ρ := rL (([0, 0, 2, 1, 1, 1] : List Int).map .int)) rfl fun _ => ⟨l3, _, rfl, l3v, ims_ints _⟩) (ev_l (ev_lst (ds := ([0, 0, 2, 1, 1, 1] : List Int).map .int) (eac (ev_int (i := 0)) (eac (ev_int (i := 0)) (eac (ev_int (i := 2)) (eac (ev_int (i := 1)) (eac (ev_int (i := 1)) (eac (ev_int (i := 1)) ea0)))))) (.cons (.cons (.cons (.cons (.cons (.cons .nil)))))) (by simp))) (r_eql (by decide +kernel) (by decide +kernel)) (nomark _)) (congrArg PyData.bool (by decide +kernel))) fun _ => ev_one (ev_d (ev_cmp (op := .Eq) (ρ := rB (PyData.eqv (.tuple (([[97], [98]] : List (List Nat)).map eS)) (.tuple (([[97], [98]] : List (List Nat)).map eS)))) (op_eqD hr.units) (ev_d (ev_prS E (E.prS 2) (mk_gline E) hr (ev_v (i := 3) rfl va) shd () rfl okD) (congrArg (fun l => PyData.tuple (l.map eS)) lin)) (ev_t2 (ev_d ev_str (congrArg PyData.str str_a)) (ev_d ev_str (congrArg PyData.str str_b))) (r_eqd (d := .tuple (([[97], [98]] : List (List Nat)).map eS)) (d' := .tuple (([[97], [98]] : List (List Nat)).map eS)) (by decide +kernel) (by decide +kernel)) (nomark _)) (congrArg PyData.bool (by decide +kernel)))) rfl) fun v Hz ez hv => ?_
    have hv := Im.ebl hv
    subst hv
    exact q Hz
end
end Lk

set_option maxHeartbeats 1000000
/-! The law. -/
namespace Lk
open PySem PySem.Spec PyProof.Rows L2
open Evl (Ex)
section
variable {X : Cx} {σ : L2.St} {H H' : Hp} {e a b c o : Expr} {pos p p2 : Pos} {D : Ends} {rest q1 q2 : List Stmt} {i j : Int}
theorem wt_mono {Q Q' : Bool → Hp → Prop} (h : Wt X a σ H Q) (k : ∀ t H1, Q t H1 → Q' t H1) : Wt X a σ H Q' := by
  obtain ⟨t, ht, hq⟩ := h
  refine ⟨fun σ H Q' => ∃ Q : Bool → Hp → Prop, t σ H Q ∧ ∀ v H1, Q v H1 → Q' v H1, ⟨fun pins s σ H Q' I ⟨Q, z1, z2⟩ => ?_⟩, _, hq, k⟩
  refine wpAny_mono (ht.run pins s σ H Q I z1) (fun v s' hv => ?_) fun _ _ z => z
  obtain ⟨H1, a2, a3⟩ := hv
  exact ⟨H1, a2, z2 _ _ a3⟩
/-- if a or b: .., both False -/
theorem w_ifOrN (h : Wt X a σ H fun t H1 => t = false ∧ Wt X b σ H1 fun t H2 => t = false ∧ Wm X rest D σ H2) : Wm X (.If (.BoolOp .Or [a, b] p) q1 [] pos :: rest) D σ H :=
  w_ifW ⟨_, (pw_or wt_ok (pw_or1 wt_ok)).pt, wt_mono h fun t H1 ⟨e1, z⟩ => by
    subst e1
    rw [if_neg (by decide)]
    exact wt_mono z fun t2 H2 ⟨e2, z2⟩ => by
      subst e2
      rw [if_neg (by decide)]
      exact w_end z2⟩
theorem ev_minL (hc : X.calm = true) (hm : X.mg "min" = none) (ha : Ev X a σ H (rI i)) (hb : Ev X b σ H (rI j)) (hg : Gl X "min" := by rfl) (he : starEach [a, b] X.env = (false, eval a X.env) :: starEach [b] X.env := by rfl) (he2 : starEach [b] X.env = (false, eval b X.env) :: starEach [] X.env := by rfl) (hpl : (backTo pos (starEach [b] X.env)).any (·.1) = false := by rfl) :
    Ev X (.Call (.Name "min" p) [a, b] [] pos) σ H (rI (if j < i then j else i)) := ev_cb (call_min2 hc) hm (by decide +kernel) (eac ha (eac hb ea0 he2) he) (fun S vs H2 Q _ _ hv q => by
  obtain ⟨v1, v2, rfl, h1, h2⟩ := two_arg hv
  exact ⟨i, j, by rw [Im.eint h1, Im.eint h2], q.at (.int _)⟩) hg (by decide) (by decide) he hpl
end
/-- how many states lie behind -/
def plen (H : Hp) (o : Addr) : Nat := match H o with
  | some (.dK [_, _, _, _, (_, .ref pl), _]) => (match H pl with
    | some (.lst xs) => xs.length
    | _ => 0)
  | _ => 0
def plenS (σ : L2.St) (H : Hp) : Nat := match σ[4]? with
  | some (some (V.ref o)) => plen H o
  | _ => 0
theorem plen_eq {K : Frag} {H : Hp} {o : Addr} {sg : List Nat} {n1 : Nat} {cur : Pe} {past : List Pe} (h : OwR K H o sg n1 cur past) : plen H o = past.length := by
  obtain ⟨kn, tx, pl, ws, h1, h2, h3, _⟩ := h
  unfold plen
  rw [h1]
  show (match H pl with
    | some (.lst xs) => xs.length
    | _ => 0) = _
  rw [h2]
  exact h3.len
section
variable {P : Program} {w : World} {K : Frag} {mg : Str → Option Value} {base : Heap}
abbrev p_law (K : Frag) : Sp := fun vs H Q _ => ∃ (x : Addr) (ns : List Int), vs = [.ref x] ∧ SqL K H x (ns.map V.int) ∧ ns.length ≤ 63 ∧ Tb K H ∧ ∀ H', Q (.bl true) H'
theorem law_go (E : En w K mg base) (U : Und P K mg base) {cdv : Value} {Ar : Around} {outer : List Env} {s0 : Shared} {H : Hp} {Q : VK} {EE : XK} (hr : Room 16 (Ar.deeper (envOfC D_law.qual D_law.scope s0.heap.objs.size (He.fAd K D_law.at_) cdv))) (gd : Ar.guards = some []) {x : Addr} {ns : List Int} (hx : SqL K H x (ns.map V.int)) (nz : ns.length ≤ 63) (T0 : Tb K H) (q : ∀ H', Q (.bl true) H')
    (W : Prop) (hW : W → H x ≠ none) (Z : Hp → Prop) (z0 : Z H) (zs : ∀ H', Z H' → SqL K H' x (ns.map V.int)) (zk : ∀ H1 H2, Z H1 → (W → ∀ u, H1 x = some u → (∀ ps, u ≠ .tbl ps) → H2 x = some u) → Z H2) (zx : W → ∀ H1, Z H1 → H1 x ≠ none) :
    Wm (Bx P w K mg base N_law D_law cdv Ar outer s0 H EE) D_law.body { nx := fun _ H' => Q .non H', rt := Q } (start N_law [.ref x]) H := by
  have hu := hu_of hr
  have ze : ∀ {H1 H2}, Z H1 → Ex H1 H2 → Z H2 := fun {H1 H2} z e => zk H1 H2 z fun _ u h _ => e _ _ h
  refine w_set (i := 1) sc_law.nd (ev_pr (mk_law_begun E) hr ns (by show ns.length ≤ 1000; omega) (eac (ev_v (i := 0) (ρ := rSq K ns) rfl fun _ => ⟨x, rfl, hx⟩) ea0)) fun v1 H1 e1 hv1 => ?_
  obtain ⟨m, c, g, rfl, m0, c0, g0, st1⟩ := hv1
  have vm : ∀ {Hx : Hp} S, (rV (.ref m)).r S (.ref m) Hx := fun _ => rfl
  have T1 := tabs_ex T0 e1
  have Z1 := ze z0 e1
  have xm : W → x ≠ m := fun h z => hW h (z ▸ m0)
  have xg : W → x ≠ g := fun h z => hW h (z ▸ g0)
  have zdr : ∀ {H1 H2}, Z H1 → Dr m g H1 H2 → Z H2 := fun {H1 H2} z d => zk H1 H2 z fun h u hu _ => d.keep hu (xm h) (.inl (xg h))
  have zdn : ∀ {H1 H2 : Hp} {a o : Addr}, Z H1 → Dn m g [a, o] H1 H2 → (W → x ≠ a ∧ x ≠ o) → Z H2 := fun {H1 H2 a o} z d n => zk H1 H2 z fun h u hu nt => d.ex _ _ hu (xm h) (xg h) (by simp [(n h).1, (n h).2]) nt
  refine w_forR rfl E.rng (Ev.app (ev_int (i := 2)) fun v2 H2 e2 hv2 => ⟨2, Im.eint hv2, by omega, fun i σ' H' => ∃ x2 x3 x4 x5, σ' = [some (.ref x), some (.ref m), x2, x3, x4, x5, none, none, none, none] ∧ Mst m c g H' (2 ^ 40 - 100000 * i) ∧ Tb K H' ∧ Z H',
    ⟨_, _, _, _, rfl, st1.ex e2, tabs_ex T1 e2, ze Z1 e2⟩, fun i σ' H3 hi h3 => ?_, fun σ' H3 h3 => ?_⟩)
  · obtain ⟨x2, x3, x4, x5, rfl, st3, T3, Z3⟩ := h3
    refine wg_n (i := 2) sc_law.nd (w_cons ⟨_, ps_asg we_ok wg_ok, we_call (mk_begin E) hr ⟨_, pa_cons we_ok (pa_cons we_ok pa_nil), Ev.app (ev_v (i := 1) rfl vm) fun y1 H4 e4 hy1 => Ev.app (ev_int (i := 4)) fun y2 H5 e5 hy2 => ?_⟩⟩)
    have hy1 : y1 = .ref m := hy1
    have hy2 := Im.eint hy2
    subst hy1 hy2
    have e35 := e4.trans e5
    refine ⟨m, c, g, 2 ^ 40 - 100000 * i - 1000, rfl, (st3.ex e35).mono (by omega), fun H6 qt a o sg cur0 d6 s6 hq a0 o0 sg4 ct S6 => ?_⟩
    have d36 := (Dr.of e35).trans d6
    have T6 : Tb K H6 := tabs_dn (vs := []) T3 (Dd.dr d36) st3 (fun x hx => by cases hx)
    have Z6 := zdr Z3 d36
    have va : ∀ {Hx : Hp} S, (rV (.ref a)).r S (.ref a) Hx := fun _ => rfl
    have vo : ∀ {Hx : Hp} S, (rV (.ref o)).r S (.ref o) Hx := fun _ => rfl
    have xao : W → x ≠ a ∧ x ≠ o := fun h => ⟨fun z => zx h _ (ze Z3 e35) (z ▸ a0), fun z => zx h _ (ze Z3 e35) (z ▸ o0)⟩
    have b0 : (bot cur0 []).ts = [] := ct
    refine wg_t2 (i := 3) (j := 4) rfl sc_law.nd hq ?_
    -- the first texts
    refine w_noW (we_callG (mk_filled E) gd hr ⟨_, pa_cons we_ok (pa_cons we_ok (pa_cons we_ok (pa_cons we_ok pa_nil))), Ev.app (ev_v (i := 1) rfl vm) fun z1 H7 e7 hz1 => Ev.app (ev_v (i := 3) rfl va) fun z2 H8 e8 hz2 => Ev.app (ev_v (i := 4) rfl vo) fun z3 H9 e9 hz3 => ?_⟩)
    have hz1 : z1 = .ref m := hz1
    have hz2 : z2 = .ref a := hz2
    have hz3 : z3 = .ref o := hz3
    subst hz1 hz2 hz3
    have e69 := (e7.trans e8).trans e9
    refine Es.go (r := 2 ^ 40 - 100000 * i - 1001) (es_draw (lim := 7) E hr (mk_draw E) (fun H1 d => ev_v (i := 1) rfl vm) (fun H1 d => ev_int) (by decide) (by decide)) ((s6.ex e69).mono (by omega)) fun z4 Ha da sa ⟨many, ez4, n0, n1⟩ => ?_
    subst ez4
    obtain ⟨many, rfl⟩ := Int.eq_ofNat_of_zero_le n0
    have d6a := (Dr.of e69).trans da
    have Sa := S6.dr s6 d6a
    have Ta : Tb K Ha := S6.tb T6 s6 (Dd.dr d6a)
    have Za := zdr Z6 d6a
    refine ⟨m, c, g, a, o, many, sg, 9, 0, cur0, [], 2 ^ 40 - 100000 * i - 2000, rfl, sa.mono (by omega), Sa, by omega, fun Hb cur1 past1 db sb Sb _ bb => ⟨rfl, ?_⟩⟩
    have Tb1 : Tb K Hb := Sa.tb Ta sa db
    have Zb := zdn Za db.dn xao
    have bb : (bot cur1 past1).ts = [] := by rw [bb]; exact b0
    -- the deeds
    have lenE : ∀ {σ : L2.St} {Hx : Hp} {p1 p2 p3 p4 p5 : Pos} {k1 k2 : Nat} {p6 p7 p8 : Pos}, σ[0]? = some (some (.ref x)) → Z Hx → Ev (Bx P w K mg base N_law D_law cdv Ar outer s0 H EE) (.BinOp (.Constant (.int 10) k1 p1) .Add (.Call (.Name "min" p2) [.Constant (.int 8) k2 p3, .Call (.Name "len" p4) [.Name "_law_script" p5] [] p6] [] p7) p8) σ Hx (rI ((10 + min 8 ns.length : Nat) : Int)) := fun {σ Hx p1 p2 p3 p4 p5 k1 k2 p6 p7 p8} h0 hz =>
      ev_d (ev_add (ev_int (i := 10)) (ev_minL rfl E.min (ev_int (i := 8)) (ev_lenq (ns := ns) E.len (ev_v (i := 0) (ρ := rSq K ns) h0 fun _ => ⟨x, rfl, zs _ hz⟩)))) (by
        congr 1
        split <;> omega)
    refine w_forR rfl E.rng (Ev.app (lenE rfl Zb) fun v3 Hc ec hv3 => ⟨10 + min 8 ns.length, Im.eint hv3, by omega, fun j σ' H' => ∃ x5, σ' = [some (.ref x), some (.ref m), some (.int (i : Int)), some (.ref a), some (.ref o), x5, none, none, none, none] ∧ Mst m c g H' (2 ^ 40 - 100000 * i - 2000 - 3000 * j) ∧ Tb K H' ∧ Z H' ∧ ∃ cur past, St K H' a o sg (9 + j) (many + j) cur past ∧ (bot cur past).ts = [],
      ⟨_, rfl, sb.ex ec, tabs_ex Tb1 ec, ze Zb ec, cur1, past1, (Sb.ex ec).mono (Nat.le_refl _) (by omega), bb⟩, fun j σ' Hd hj hd => ?_, fun σ' Hd hd => ?_⟩)
    · obtain ⟨x5', rfl, sd, Td, Zd, cur, past, Sd, bd⟩ := hd
      have jz : j < 18 := by omega
      refine wg_n (i := 5) sc_law.nd (w_ifOrN (wt_not (we_callG (mk_deed E U) gd hr ⟨_, pa_cons we_ok (pa_cons we_ok (pa_cons we_ok pa_nil)), Ev.app (ev_v (i := 1) rfl vm) fun z1 H7 e7 hz1 => Ev.app (ev_v (i := 3) rfl va) fun z2 H8 e8 hz2 => Ev.app (ev_v (i := 4) rfl vo) fun z3 H9 e9 hz3 => ?_⟩)))
      have hz1 : z1 = .ref m := hz1
      have hz2 : z2 = .ref a := hz2
      have hz3 : z3 = .ref o := hz3
      subst hz1 hz2 hz3
      have ed := (e7.trans e8).trans e9
      refine ⟨m, c, g, a, o, sg, 9 + j, many + j, cur, past, 2 ^ 40 - 100000 * i - 2000 - 3000 * (j + 1), rfl, (sd.ex ed).mono (by omega), tabs_ex Td ed, Sd.ex ed, sg4, by omega, by omega, by omega, fun He cur' past' de Te se Se be => ⟨true, rfl, rfl, ?_⟩⟩
      have Ze := zdn (ze Zd ed) de xao
      refine wt_not (we_callG (mk_stands E) gd hr ⟨_, pa_cons we_ok (pa_cons we_ok pa_nil), Ev.app (ev_v (i := 3) rfl va) fun z2 Hf ef hz2 => Ev.app (ev_v (i := 4) rfl vo) fun z3 Hg eg hz3 => ?_⟩)
      have hz2 : z2 = .ref a := hz2
      have hz3 : z3 = .ref o := hz3
      subst hz2 hz3
      have efg := ef.trans eg
      refine ⟨a, o, sg, 9 + j + 1, many + j + 1, cur', past', rfl, Se.ex efg, by omega, fun Hh eh => ⟨true, rfl, rfl, w_end ?_⟩⟩
      have efh := efg.trans eh
      exact ⟨_, rfl, se.ex efh, tabs_ex Te efh, ze Ze efh, cur', past', (Se.ex efh).mono (by omega) (by omega), by rw [be]; exact bd⟩
    · obtain ⟨x5', rfl, sd, Td, Zd, cur, past, Sd, bd⟩ := hd
      have sd := sd.mono (show 2 ^ 40 - 100000 * (i + 1) ≤ _ by omega)
      generalize many + (10 + min 8 ns.length) = NN at Sd
      generalize 9 + (10 + min 8 ns.length) = nn at Sd
      -- all undone
      refine w_while plenS (fun σ' H' => σ' = [some (.ref x), some (.ref m), some (.int (i : Int)), some (.ref a), some (.ref o), x5', none, none, none, none] ∧ Mst m c g H' (2 ^ 40 - 100000 * (i + 1)) ∧ Tb K H' ∧ Z H' ∧ ∃ cur past, St K H' a o sg nn NN cur past ∧ (bot cur past).ts = []) ⟨rfl, sd, Td, Zd, cur, past, Sd, bd⟩ fun σ' H' h' => ?_
      clear sd Td Zd Sd bd
      obtain ⟨rfl, sd, Td, Zd, cur, past, Sd, bd⟩ := h'
      obtain ⟨kn, tx, pl, ws, ho, hpl, hpo, hl⟩ := Sd.ow
      refine ⟨!ws.isEmpty, et_cmp (t := !ws.isEmpty) (op_neL0 (Nat.lt_of_le_of_lt (Nat.le_succ _) hu)) (ev_oV (v := .ref pl) hu (ev_v (i := 4) rfl vo) ho) ev_nil (fun S2 x y H3 Q3 e3 e4 hx hy gg => by
        have hx : x = .ref pl := hx
        obtain ⟨l, xs2, rfl, _, hl1, im⟩ := hy
        cases im
        exact ⟨pl, l, ws, hx, rfl, SqL.of ((e3.trans e4) _ _ hpl), SqL.of hl1, gg.at (.bl _)⟩) (nomark _), fun ht H7 e7 => ?_, fun ht H7 e7 => ?_⟩
      · refine w_noW (we_call (mk_undone E U.nl U.ns U.tb) hr ⟨_, pa_cons we_ok (pa_cons we_ok pa_nil), Ev.app (ev_v (i := 3) rfl va) fun z2 H8 e8 hz2 => Ev.app (ev_v (i := 4) rfl vo) fun z3 H9 e9 hz3 => ?_⟩)
        have hz2 : z2 = .ref a := hz2
        have hz3 : z3 = .ref o := hz3
        subst hz2 hz3
        have e79 := (e7.trans e8).trans e9
        have s9 := sd.ex e79
        have S9 := Sd.ex e79
        have out := mst_St s9 S9
        refine ⟨a, o, sg, nn, NN, cur, past, rfl, tabs_ex Td e79, S9, .inr ?_⟩
        rcases List.eq_nil_or_concat past with rfl | ⟨past', p, rfl⟩
        · have z := hpo.len
          cases ws with
          | nil => cases ht
          | cons y ys => simp at z
        · rw [List.concat_eq_append] at Sd bd
          refine ⟨past', p, List.concat_eq_append .. , fun Ha va' Ta Sa => ⟨rfl, w_end ?_⟩⟩
          refine ⟨?_, rfl, mst_vn s9 va' out, Ta, zdn (ze Zd e79) (dn_vn va' out.2.2) xao, p, past', Sa, by rw [← bd, bot_snoc]⟩
          show plen Ha o < plen H' o
          rw [plen_eq Sa.ow, plen_eq Sd.ow, List.length_append, List.length_singleton]
          omega
      · have pe : past = [] := by
          have z := hpo.len
          cases ws with
          | nil => exact List.length_eq_zero_iff.mp z.symm
          | cons y ys => cases ht
        subst pe
        refine w_ifOrN (wt_not (we_call (mk_undone E U.nl U.ns U.tb) hr ⟨_, pa_cons we_ok (pa_cons we_ok pa_nil), Ev.app (ev_v (i := 3) rfl va) fun z2 H8 e8 hz2 => Ev.app (ev_v (i := 4) rfl vo) fun z3 H9 e9 hz3 => ?_⟩))
        have hz2 : z2 = .ref a := hz2
        have hz3 : z3 = .ref o := hz3
        subst hz2 hz3
        have e79 := (e7.trans e8).trans e9
        have s9 := sd.ex e79
        have S9 := Sd.ex e79
        have out := mst_St s9 S9
        refine ⟨a, o, sg, nn, NN, cur, [], rfl, tabs_ex Td e79, S9, .inl ⟨rfl, fun Ha va' Ta Sa => ⟨true, rfl, rfl, ?_⟩⟩⟩
        have c0 : cur.ts = [] := bd
        refine et_cmp (t := false) (op := .NotEq) op_ne (ev_lenS E hr (ev_v (i := 3) rfl va) Sa.sh (by rw [c0]; simp)) (ev_int (i := 0)) (fun S2 x y H3 Q3 e3 e4 hx hy gg => r_nei S2 x y H3 Q3 e3 e4 hx hy (by
          rw [c0]
          exact gg)) (nomark _) Ha (Ex.refl _) _ fun Hb eb => ⟨rfl, w_end ?_⟩
        exact ⟨_, _, _, _, rfl, (mst_vn s9 va' out).ex eb, tabs_ex Ta eb, ze (zdn (ze Zd e79) (dn_vn va' out.2.2) xao) eb⟩
  · obtain ⟨x2, x3, x4, x5, rfl, _⟩ := h3
    exact law_tail E hr q
theorem law_body (E : En w K mg base) (U : Und P K mg base) {cdv : Value} {Ar : Around} {outer : List Env} {s0 : Shared} {H : Hp} {vs : List V} {Q : VK} {EE : XK} (hr : Room 16 (Ar.deeper (envOfC D_law.qual D_law.scope s0.heap.objs.size (He.fAd K D_law.at_) cdv))) (gd : Ar.guards = some []) (h : p_law K vs H Q EE) :
    Wm (Bx P w K mg base N_law D_law cdv Ar outer s0 H EE) D_law.body { nx := fun _ H' => Q .non H', rt := Q } (start N_law vs) H := by
  obtain ⟨x, ns, rfl, hx, nz, T0, q⟩ := h
  rcases hx with hx | hx
  · have hu : ∃ u, H x = some u ∧ ∀ H', H' x = some u → SqL K H' x (ns.map V.int) := by
      rcases hx with hx | ⟨ob, hx⟩
      · exact ⟨_, hx, fun H' h => .inl (.inl h)⟩
      · exact ⟨_, hx, fun H' h => .inl (.inr ⟨ob, h⟩)⟩
    obtain ⟨u, h1, h2⟩ := hu
    have nt : ∀ ps, u ≠ .tbl ps := by
      rcases hx with hx | ⟨ob, hx⟩
      · rw [hx] at h1
        cases h1
        exact fun ps z => by cases z
      · rw [hx] at h1
        cases h1
        exact fun ps z => by cases z
    exact law_go E U hr gd (h2 H h1) nz T0 q (H x ≠ none) id (fun H' => H' x = some u) h1 (fun H' h => h2 H' h) (fun H1 H2 z k => k (by rw [h1]; simp) u z nt) fun _ H1 z => by rw [z]; simp
  · have q2 : ∀ H', SqL K H' x (ns.map V.int) := fun H' => .inr hx
    exact law_go E U hr gd (q2 H) nz T0 q False False.elim (fun _ => True) trivial (fun H' _ => q2 H') (fun _ _ _ _ => trivial) fun z => z.elim
end
end Lk

set_option maxHeartbeats 1000000
/-! The end. -/
namespace Lk
open PySem PySem.Spec PyProof.Rows L2
open Evl (Ex)
/-- what is tracked as the law begins: the table, the script if the written part has not got it -/
def trkE (tab sc : Addr) (o : Option HO) : Hp := fun b => if b = tab then some (.tbl #[]) else if b = sc then o else none
section
variable {P : Program} {w : World} {K : Frag} {mg mb : Str → Option Value} {code tab fa sc : Addr} {fd : FuncData} {x : Str} {k : Nat} {sp : Sp} {s : Shared} {vals : List Value} {ns : List Int}
theorem law_end (kin : K.In s.heap) (nG : s.heap.Ns mainGlobals mg) (nB : s.heap.Ns builtinsNs mb) (bB : ∀ y : Str, y ≠ "__name__" → mb y = bootBuiltins y) (nl : s.heap.NoLimit) (g0 : s.gens = #[]) (hT : s.heap.get? tab = some { cls := .none, data := .fields #[] }) (nT : K.lookup tab = none) (hC : PySem.W.CodeHd s.heap code tab)
    (hM : ∃ (q : Addr) (ob : Obj), mg "__builtins__" = some (.ref q) ∧ q ≠ builtinsNs ∧ s.heap.get? q = some ob ∧ ob.cls = .type "module" ∧ ob.dict = some builtinsNs ∧ ob.data = .plain) (hS : s.heap.get? sc = some { cls := .type "list", data := .seq vals.toArray }) (hi : IntsAre vals ns) (hz : ns.length ≤ sizeLine)
    (F : ∀ base : Heap, K.In base → base.Ns mainGlobals mg → LamX.TabB base mg code tab → FnG P w K mg base k fa fd [x] sp) (hr : Room k callerA) (hb : ∀ (s : Shared) (u : Value), BindsTo s fd ⟨[u], []⟩ [(x, u)])
    (hsp : ∀ H : Hp, H tab = some (.tbl #[]) → SqL K H sc (ns.map V.int) → sp [.ref sc] H (fun v _ => v = .bl true) E0) : codeAny (model P w) callerA (.call (.ref fa) ⟨[.ref sc], []⟩) (fun r s' => r = .ok (.ret (.bool true)) ∧ OldK s.heap s'.heap ∧ s'.os = s.os ∧ AllBare s'.gens) s := by
  have rv := vals_ints hi
  have st : sc ≠ tab := fun z => by
    rw [z, hT] at hS
    have z := congrArg Obj.data (Option.some.inj hS)
    cases z
  have run : ∀ o : Option HO, (o = none ∨ ∃ ob, o = some (.frz ob (.lst (ns.map V.int))) ∧ ObjOk P w (trkE tab sc o) s.heap sc (.frz ob (.lst (ns.map V.int)))) → (o ≠ none → K.lookup sc = none) → SqL K (trkE tab sc o) sc (ns.map V.int) →
      codeAny (model P w) callerA (.call (.ref fa) ⟨[.ref sc], []⟩) (fun r s' => r = .ok (.ret (.bool true)) ∧ OldK s.heap s'.heap ∧ s'.os = s.os ∧ AllBare s'.gens) s := by
    intro o ho hk hq
    have at_tab : trkE tab sc o tab = some (.tbl #[]) := if_pos rfl
    have at_sc : trkE tab sc o sc = o := (if_neg st).trans (if_pos rfl)
    have far : ∀ {b}, b ≠ tab → b ≠ sc → trkE tab sc o b = none := fun {b} h1 h2 => (if_neg h1).trans (if_neg h2)
    have ok : HOk P w (trkE tab sc o) s.heap := fun b u z => by
      by_cases h1 : b = tab
      · subst h1
        rw [at_tab] at z
        cases z
        exact hT
      · by_cases h2 : b = sc
        · subst h2
          rw [at_sc] at z
          rcases ho with ho | ⟨ob, ho, hk2⟩
          · rw [ho] at z
            cases z
          · rw [ho] at z
            cases z
            exact hk2
        · rw [far h1 h2] at z
          cases z
    -- an object that is neither the script nor the table stands in the base too
    have low : ∀ {b : Addr} {u : Obj}, s.heap.get? b = some u → b ≠ tab → b ≠ sc → (hidT s.heap (trkE tab sc o)).get? b = some u := fun e h1 h2 => hidT_get e (far h1 h2)
    have nTab : ∀ {b : Addr} {u : Obj}, s.heap.get? b = some u → u.data ≠ .fields #[] → b ≠ tab := fun {b u} e h z => by
      rw [z, hT] at e
      cases e
      exact h rfl
    have nSc : ∀ {b : Addr} {u : Obj}, s.heap.get? b = some u → (∀ v n, u.data ≠ .seq v n) → b ≠ sc := fun {b u} e h z => by
      rw [z, hS] at e
      cases e
      exact h _ _ rfl
    have nsL : ∀ {b : Addr} {mm : Str → Option Value}, s.heap.Ns b mm → (hidT s.heap (trkE tab sc o)).Ns b mm := fun {b mm} ⟨u, es, ep, e, d, r⟩ => ⟨u, es, ep, low e (nTab e (by rw [d]; exact fun z => by cases z)) (nSc e (by rw [d]; exact fun _ _ z => by cases z)), d, r⟩
    have kb : K.In (hidT s.heap (trkE tab sc o)) := fun b u e => by
      have e1 := kin b u e
      by_cases h1 : b = tab
      · rw [h1, nT] at e
        cases e
      · by_cases h2 : b = sc
        · rcases ho with ho | ⟨ob, ho, _⟩
          · exact hidT_get e1 (by rw [h2, at_sc, ho])
          · rw [h2, hk (by rw [ho]; simp)] at e
            cases e
        · exact low e1 h1 h2
    have md : L2.Mod K mg (hidT s.heap (trkE tab sc o)) := ⟨kb, nsL nG, ⟨mb, nsL nB, bB⟩, by
      obtain ⟨mc, h1, h2⟩ := nl
      exact ⟨mc, nsL h1, h2⟩⟩
    have tb : LamX.TabB (hidT s.heap (trkE tab sc o)) mg code tab := by
      refine ⟨?_, ?_, fun z => ?_⟩
      · obtain ⟨u, us, file, tf, flags, tg, inF, text, tt, e1, r1, r2, r3, r4⟩ := hC
        refine ⟨u, us, file, tf, flags, tg, inF, text, tt, low e1 (nTab e1 fun z => ?_) (nSc e1 fun v n z => ?_), r1, r2, r3, r4⟩
        · rw [r2] at z
          cases z
          simp at r3
        · rw [r2] at z
          cases z
      · obtain ⟨q, ob, b1, b2, b3, b4, b5, b6⟩ := hM
        refine ⟨q, ob, b1, b2, fun z => ?_, nTab b3 (by rw [b6]; exact fun z => by cases z), low b3 (nTab b3 (by rw [b6]; exact fun z => by cases z)) (nSc b3 (by rw [b6]; exact fun _ _ z => by cases z)), b4, b5, b6⟩
        obtain ⟨u, es, ep, e, d, _⟩ := nG
        rw [z, e] at b3
        cases b3
        rw [d] at b6
        cases b6
      · obtain ⟨u, es, ep, e, d, _⟩ := nG
        exact nTab e (by rw [d]; exact fun z => by cases z) z
    have env : Env0 P w K mg (hidT s.heap (trkE tab sc o)) callerA [] s (trkE tab sc o) := ⟨rfl, md, fun b u e => of_hidT e, Nat.le_of_eq (hidT_size _ _), trivial, fun b hb => absurd (show b ∈ ([] : List Addr) from hb) (by simp), ok, .of_eq g0⟩
    refine codeAny_mono ((F _ kb (nsL nG) tb).runG callerA [] s (trkE tab sc o) ⟨[.ref sc], []⟩ [.ref sc] [.ref sc] _ E0 hr rfl env (hb s (.ref sc)) (.cons rfl .nil) (hsp _ at_tab hq)) fun r s' h => ?_
    match r, h with
    | .error e, h => exact h.elim
    | .ok .next, h => exact h.elim
    | .ok .brk, h => exact h.elim
    | .ok .cont, h => exact h.elim
    | .ok (.ret u), ⟨v, H', os, bare, un, ok', r', q⟩ =>
      have q : v = .bl true := q
      subst q
      obtain rfl : u = Value.bool true := r'
      have old : ∀ b z, b ≠ tab → s.heap.get? b = some z → s'.heap.get? b = some z := fun b z nb e => by
        by_cases h2 : b = sc
        · rcases ho with ho | ⟨ob, ho, _⟩
          · exact un.keep b z e (by rw [h2, at_sc, ho]) (fun z => absurd (show b ∈ ([] : List Addr) from z) (by simp)) (by simp)
          · have f0 : trkE tab sc o b = some (.frz ob (.lst (ns.map V.int))) := by rw [h2, at_sc, ho]
            obtain ⟨a1, _⟩ := ok b _ f0
            obtain ⟨a2, _⟩ := ok' b _ (un.frzs b ob _ f0)
            rw [e] at a1
            cases a1
            exact a2
        · exact un.keep b z e (far nb h2) (fun z => absurd (show b ∈ ([] : List Addr) from z) (by simp)) (by simp)
      obtain ⟨more, z0⟩ := un.tbls tab #[] at_tab
      have gr : s'.heap.get? tab = some { cls := .none, data := .fields (#[] ++ more) } := ok' tab _ z0
      refine ⟨rfl, ⟨fun b z e => ?_, fun b z e => ?_⟩, os, bare⟩
      · by_cases h1 : b = tab
        · subst h1
          rw [hT] at e
          cases e
          exact .inr (.inl ⟨(hC.tab hT).isCodeTable, rfl, #[], more, rfl, gr⟩)
        · exact .inl (old b z h1 e)
      · by_cases h1 : b = tab
        · subst h1
          exact ⟨_, gr⟩
        · exact ⟨z, old b z h1 e⟩
  cases hk : K.lookup sc with
  | some ob =>
    have e := kin sc ob hk
    rw [hS] at e
    cases e
    exact run none (.inl rfl) (fun z => absurd rfl z) (.inr ⟨_, vals.toArray, _, hk, rfl, rfl, rfl, by rw [List.size_toArray, hi.length]; exact hz, by simpa using rv⟩)
  | none =>
    refine run (some (.frz { cls := .type "list", data := .seq vals.toArray } (.lst (ns.map V.int)))) (.inr ⟨_, rfl, ?_⟩) (fun _ => hk) (.inl (.inr ⟨_, (if_neg st).trans (if_pos rfl)⟩))
    exact ⟨hS, by rw [List.length_map]; exact hz, vals, _, rv, hS⟩
end
theorem law_facts {w : World} {K : Frag} {h : Heap} {mg : Str → Option Value} {f : Addr} (X : K.In h) (G : h.Ns mainGlobals mg) (hf : mg ("law" : Str) = some (.ref f)) (c : SaysL h K) :
    ∃ fd : FuncData, (∀ (s : Shared) (v : Value), BindsTo s fd ⟨[v], []⟩ [("_law_script", v)]) ∧ ∀ base : Heap, K.In base → base.Ns mainGlobals mg → LamX.TabB base mg (He.cT K udn).1 (He.cT K udn).2 → FnG PP w K mg base 17 f fd A_law (p_law K) := by
  obtain ⟨fd, F⟩ := c.fn D_law (List.mem_of_getElem? (i := 68) rfl)
  have e := hf.symm.trans (He.glo_ok X G (c.fa (.glo "law") (List.mem_of_getElem? (i := 65) rfl)))
  cases e
  have b := FunD.bindsA (ps := A_law) F fun _ _ _ _ _ _ us hl => match us, hl with | [_], _ => rfl
  refine ⟨fd, fun s v => b s [v] rfl, fun base kb nb TB => ?_⟩
  have E : En w K mg base := ⟨kb, nb, c.fa, c.fn, c.ex, c.gt⟩
  have U : Und PP K mg base := ⟨c.nl, c.ns, TB, E.exi 12⟩
  refine fnG_of (k := 16) F sc_law (fun vs H Q EE h => by obtain ⟨x, ns, rfl, _⟩ := h; rfl) fun cdv A outer s H vs Q EE hr gd h => ?_
  obtain ⟨t, h1, h2⟩ := law_body (P := PP) E U hr gd h
  exact ⟨t, h1.nox, h2⟩
end Lk
open PySem PySem.W PySem.Calls PyProof.Rows
theorem PySem.Challenge.cw_likeorders_k82_whole_deeds_on_shelves_holds : PySem.Challenge.rw_likeorders_k82_whole_deeds_on_shelves.Holds := by
  w_on; o_law
  refine HandSHeadRun.head_any (r := OpenLaw.row PySem.Challenge.rw_likeorders_k82_whole_deeds_on_shelves) (q := view (OpenLaw.row PySem.Challenge.rw_likeorders_k82_whole_deeds_on_shelves).prog [81]) (H := Lk.hookL) (ob := Lk.obT) (M := 40000) (loose := Lk.looseL)
    (d := HandSHeadRun.topDef (OpenLaw.row PySem.Challenge.rw_likeorders_k82_whole_deeds_on_shelves).prog 81) (kwd := []) Lk.obT_eq (by kernel_rfl) (fun s => by kernel_rfl) Lk.run (by kernel_rfl) (by kernel_rfl) (by kernel_rfl) (by rfl) (by first | assumption | decide +kernel) (by decide +kernel) ⟨rfl, rfl, rfl, rfl, rfl, by decide +kernel⟩ ?hw ?hc
  case hw => w_witness2
  case hc =>
    refine Att.attach_callB (l := PySem.Challenge.rw_likeorders_k82_whole_deeds_on_shelves) (n := 63) rfl (by kernel_rfl) fun w s₀ s₁ mg mb fa o pm cd doc a vs ns G Y ho hd hcd hmg0 hobj hints hlen hbits hg => ?_
    obtain ⟨K, KX, c⟩ := Y
    have hmg : mg ("law" : PySem.Str) = some (.ref fa) := by
      have e : (HandSHeadRun.topDef (OpenLaw.row PySem.Challenge.rw_likeorders_k82_whole_deeds_on_shelves).prog 81).name = ("law" : PySem.Str) := by kernel_rfl
      rw [← e]
      exact hmg0
    obtain ⟨fd, hb, hF⟩ := Lk.law_facts (w := w) KX G.T.g hmg c
    exact Lk.law_end (x := "_law_script") (sp := Lk.p_law K) KX G.T.g G.T.b G.T.builtins G.T.nolimit hg c.emp c.out (codeHd_of_K KX c.hd) G.T.bmain hobj hints (Nat.le_trans hlen (by decide)) hF ⟨rfl, by decide, by decide⟩ hb fun H hH hS => ⟨a, ns, rfl, hS, hlen, fun p hp => by
      rw [List.mem_singleton.mp hp]
      exact LamX.TabS.nil hH, fun _ => rfl⟩
