import PyProof.Rows.All
import Wide.All
import OpenK.AllK
import Wide.FinOn
import HandS.ForMost
import HandS.TupAny
import HandS.Conv
import HandS.Deep
import HandS.Strs
import HandS.SortInts
import KE.GoesEnum
import HandS.SetFor
import HandS.TupLe
import HandS.Style
import HandS.Wide
import HandS.Nested
import HandS.ExcInit
import KE.KExcSuper
import HandS.TryMany
import HandS.ExcField
import HandS.WordsExc
import HandS.CallSlots
import HandS.Property
import HandS.ClsMeth
import HandS.OwnEq
import HandS.IsInst
import PyProof.ReprRoads
import HandS.Ends
import HandS.Head0
import HandS.Head1
import HandS.Head2
import HandS.HeadEnd
import HandS.HeadHook1
import HandS.HeadHook2
import PySem.Challenge.RW_neveralone_k84_unbeaten_books_and_their
set_option Elab.async false
set_option linter.all false
set_option maxRecDepth 100000
set_option maxHeartbeats 0

namespace DL
open PySem L2
abbrev Fr := PySem.W.Frag
end DL
namespace DL
open PySem L2
def top (i : Nat) : Stmt := PySem.Challenge.pw_neveralone_k84_unbeaten_books_and_their.main.body.getD i (.Pass ⟨0, 0, 0, 0⟩)
abbrev s_faces : Stmt := top 9
abbrev s_without : Stmt := top 10
abbrev s_exchanged : Stmt := top 11
abbrev s_order_sign : Stmt := top 14
abbrev s_room_fault : Stmt := top 16
abbrev s_subsets : Stmt := top 13
end DL
namespace DL
open PySem L2
abbrev s_face_counts : Stmt := top 19
abbrev s_Book___init__ : Stmt := inClass (top 18) 1
abbrev s_Chain___init__ : Stmt := inClass (top 21) 0
abbrev s_Book_odd_faces : Stmt := inClass (top 18) 11
abbrev s_Book_is_even : Stmt := inClass (top 18) 9
abbrev s_Book_is_two_each : Stmt := inClass (top 18) 10
abbrev s_Book___eq__ : Stmt := inClass (top 18) 3
abbrev s_Chain___len__ : Stmt := inClass (top 21) 4
abbrev s_Chain___abs__ : Stmt := inClass (top 21) 14
abbrev s_Chain_boundary : Stmt := inClass (top 21) 16
abbrev s_Chain_odd_book : Stmt := inClass (top 21) 18
abbrev s_is_signed : Stmt := top 37
end DL
namespace DL
open PySem L2
abbrev s_check_orders : Stmt := top 25
abbrev s_full_orders : Stmt := top 26
abbrev s_own_places : Stmt := top 27
abbrev s_first_of : Stmt := top 28
abbrev s_places_above : Stmt := top 29
abbrev s_above_in_all : Stmt := top 30
abbrev s_least_row : Stmt := top 31
abbrev s_unbeaten_rooms : Stmt := top 32
end DL
namespace DL
open PySem L2
abbrev s_unbeaten_book : Stmt := top 33
abbrev s_unbeaten_chain : Stmt := top 34
abbrev s_other_unbeaten : Stmt := top 35
end DL
namespace DL
open PySem L2
abbrev s__law_cell : Stmt := top 39
abbrev s__law_order : Stmt := top 41
abbrev s__law_rooms : Stmt := top 42
abbrev s__law_sign : Stmt := top 44
abbrev s__law_orders : Stmt := top 45
abbrev s__law_full : Stmt := top 46
abbrev s__law_least_row : Stmt := top 47
abbrev s__law_unbeaten : Stmt := top 48
abbrev s__law_terms : Stmt := top 49
end DL
namespace DL
open PySem L2
abbrev s__law_table : Stmt := top 43
end DL
namespace DL
open PySem L2
abbrev s__law_same : Stmt := top 40
end DL
namespace DL
open PySem L2 PySem.W
abbrev s__law_refused : Stmt := top 50
end DL
namespace DL
open PySem L2 PySem.W
abbrev s__law_faces_right : Stmt := top 51
end DL
namespace DL
open PySem L2 PySem.W
abbrev s__law_book_right : Stmt := top 52
end DL
namespace DL
open PySem L2 PySem.W
abbrev s__law_refusals_right : Stmt := top 53
end DL
namespace DL
open PySem L2 PySem.W
abbrev s_law : Stmt := top 54
end DL
namespace DL
open PySem L2 PySem.Spec PyProof.Rows
/-- one def: where it stands, its names, its statement, the names of its closure -/
structure DefZ where
  at_ : Fr → Addr
  name : Str
  qual : Str
  st : Stmt
  cl : List Str := []
abbrev FnZ : Type := Option (Str × Str × Arguments × FuncBody × Scope × Addr × List Str × Addr)
def fnZ (K : Fr) (a : Addr) : FnZ := match K.lookup a with
  | some ⟨_, _, .func fd, _⟩ => some (fd.name, fd.qualname, fd.params, fd.body, fd.scope, fd.globals, fd.closure.map (·.1), fd.builtins)
  | _ => none
def DefZ.val (d : DefZ) : FnZ := some (d.name, d.qual, defArgs d.st, .stmts (defBody d.st), defScope d.st, mainGlobals, d.cl, builtinsNs)
def noV : Value → Bool
  | .none => true
  | _ => false
def DefZ.ok (K : Fr) (d : DefZ) : Bool := PySem.W.keepIn K (.ref (d.at_ K)) && (match K.lookup (d.at_ K) with
  | some ⟨_, _, .func fd, _⟩ => PySem.W.codeIn K fd.code d.qual && noV fd.defaults
  | _ => false)
abbrev AlZ : Type := Bool × List FnZ
def obsZ (chk : Fr → Bool) (fn : List DefZ) (K : Fr) : AlZ := (chk K && fn.all fun d => d.ok K, fn.map fun d => fnZ K (d.at_ K))
def valZ (fn : List DefZ) : AlZ := (true, fn.map DefZ.val)
def asZ (g : Addr → Option Obj) (n : Nat) : List Addr := cStatics :: He.asD g n
def obsZG (n : Nat) (chk : Fr → Bool) (fn : List DefZ) (g : Addr → Option Obj) : AlZ := obsZ chk fn (He.frG g (asZ g n))
def hookZ (n : Nat) (chk : Fr → Bool) (fn : List DefZ) : PySem.W.Hook where
  α := AlZ
  obs := fun s => obsZG n chk fn s.heap.get?
  val := fun _ => valZ fn
  says := fun _ h => ∃ K : Fr, obsZ chk fn K = valZ fn ∧ K.In h
  of := fun _ _ z => ⟨_, z, He.frG_in⟩
  keeps := fun _ _ _ ⟨K, z, i⟩ up => ⟨K, z, i.keeps up⟩
theorem obsZG_eq {n : Nat} {chk : Fr → Bool} {fn : List DefZ} {g : Addr → Option Obj} {s : Shared} (h : ∀ a, g a = s.heap.get? a) : obsZG n chk fn g = (hookZ n chk fn).obs s := by
  have e : g = s.heap.get? := funext h
  rw [e]
  rfl
def oexB (K : Fr) (C : Addr) : Bool := (match K.lookup C with
  | some ⟨.type "type", _, .cls cd, sl⟩ => (match cd.mro, sl.toList with
    | .ref c :: bm, [_, _, _, _, some (.builtin n), _] => decide (c = C) && (decide (n = "ValueError.__new__") && (!cd.hasDel && (cd.hasDict && PySem.HandSPX.refsVE bm)))
    | _, _ => false)
  | _ => false) && (decide (PySem.W.findIn K (.ref C) "__setattr__" = some (some (.builtin "object.__setattr__"))) && (decide (PySem.W.subIn K (.ref C) (.type "BaseException") = some true) && (decide (PySem.W.typeIn K (.ref C) = some (.type "type")) && PySem.W.keepIn K (.ref C))))
def supB (K : Fr) (C f : Addr) : Bool := (match K.lookup f with
  | some ⟨_, _, .func fd, _⟩ => (match fd.closure, fd.code with
    | [(_, cc)], .ref cda => (match K.lookup cc with
      | some ⟨_, _, .cell (some (.ref c)), _⟩ => decide (c = C)
      | _ => false) && (match K.lookup cda with
      | some ⟨_, _, .fields vs, _⟩ => (match (vs[2]? : Option Value) with
        | some (.str file _) => decide (file = PySem.Challenge.pw_neveralone_k84_unbeaten_books_and_their.main.file)
        | _ => false)
      | _ => false)
    | _, _ => false)
  | _ => false) && (decide (PySem.W.mroIn K C (.ref C) = some true) && (He.eqO (PySem.W.nsIn K cStatics "thirdparty.any") (some none) && (He.eqO (PySem.W.ks_superIn K C C "__init__") (some (some (.builtin "ValueError.__init__"))) && decide (PySem.W.subIn K (.ref C) (.type "ValueError") = some true))))
end DL
namespace DL
open PySem L2 PySem.W
abbrev s_Mis : Stmt := inClass (top 5) 0
abbrev s_Nar : Stmt := inClass (top 6) 0
end DL
namespace DL
open PySem L2 PySem.W
def pgt (K : Fr) (C : Addr) (m : Str) : Addr := match recIn K (He.ma K C m) "property" with
  | some (.ref g :: _) => g
  | _ => 0
def propB (K : Fr) (C : Addr) (m : Str) : Bool := He.eqO (findIn K (.ref C) m) (some (some (.ref (He.ma K C m)))) && (He.eqO (specialIn K (.ref (He.ma K C m)) "__get__") (some (some (.builtin "property.__get__"))) && (decide (takesIn K (.ref (He.ma K C m)) = some true) && (match recIn K (He.ma K C m) "property" with
  | some (.ref _ :: _) => true
  | _ => false)))
def readB (K : Fr) (C : Addr) : Bool := readsIn K C (.type "type") && (He.eqO (specialIn K (.ref C) "__getattribute__") (some (some (.builtin "type.__getattribute__"))) && (match findCls K (.ref C) (.type "type") "MOST_PLACES" with
  | some (.val (.int i _)) => decide (i = 12)
  | _ => false))
def isiB (K : Fr) (C : Addr) : Bool := He.eqO (findIn K (.ref C) "__class__") (some (some (.builtin "object.__class__"))) && (He.eqO (specialIn K (.builtin "object.__class__") "__get__") (some (some (.builtin "getset_descriptor.__get__"))) && (decide (takesIn K (.builtin "object.__class__") = some true) && decide (mroIn K C (.type "object") = some true)))
def iniB (K : Fr) (C : Addr) : Bool := He.eqO (findIn K (.ref C) "__init__") (some (some (.ref (He.ma K C "__init__")))) && decide (typeIn K (.ref (He.ma K C "__init__")) = some (.type "function"))
def fns : List DefZ := [
  ⟨fun K => He.ga K "faces", "faces", "faces", s_faces, []⟩,
  ⟨fun K => He.ga K "without", "without", "without", s_without, []⟩,
  ⟨fun K => He.ga K "exchanged", "exchanged", "exchanged", s_exchanged, []⟩,
  ⟨fun K => He.ga K "subsets", "subsets", "subsets", s_subsets, []⟩,
  ⟨fun K => He.ga K "order_sign", "order_sign", "order_sign", s_order_sign, []⟩,
  ⟨fun K => He.ga K "room_fault", "room_fault", "room_fault", s_room_fault, []⟩,
  ⟨fun K => He.ga K "face_counts", "face_counts", "face_counts", s_face_counts, []⟩,
  ⟨fun K => He.ga K "check_orders", "check_orders", "check_orders", s_check_orders, []⟩,
  ⟨fun K => He.ga K "full_orders", "full_orders", "full_orders", s_full_orders, []⟩,
  ⟨fun K => He.ga K "own_places", "own_places", "own_places", s_own_places, []⟩,
  ⟨fun K => He.ga K "first_of", "first_of", "first_of", s_first_of, []⟩,
  ⟨fun K => He.ga K "places_above", "places_above", "places_above", s_places_above, []⟩,
  ⟨fun K => He.ga K "above_in_all", "above_in_all", "above_in_all", s_above_in_all, []⟩,
  ⟨fun K => He.ga K "least_row", "least_row", "least_row", s_least_row, []⟩,
  ⟨fun K => He.ga K "unbeaten_rooms", "unbeaten_rooms", "unbeaten_rooms", s_unbeaten_rooms, []⟩,
  ⟨fun K => He.ga K "unbeaten_book", "unbeaten_book", "unbeaten_book", s_unbeaten_book, []⟩,
  ⟨fun K => He.ga K "unbeaten_chain", "unbeaten_chain", "unbeaten_chain", s_unbeaten_chain, []⟩,
  ⟨fun K => He.ga K "other_unbeaten", "other_unbeaten", "other_unbeaten", s_other_unbeaten, []⟩,
  ⟨fun K => He.ga K "is_signed", "is_signed", "is_signed", s_is_signed, []⟩,
  ⟨fun K => He.ga K "_law_cell", "_law_cell", "_law_cell", s__law_cell, []⟩,
  ⟨fun K => He.ga K "_law_same", "_law_same", "_law_same", s__law_same, []⟩,
  ⟨fun K => He.ga K "_law_order", "_law_order", "_law_order", s__law_order, []⟩,
  ⟨fun K => He.ga K "_law_rooms", "_law_rooms", "_law_rooms", s__law_rooms, []⟩,
  ⟨fun K => He.ga K "_law_table", "_law_table", "_law_table", s__law_table, []⟩,
  ⟨fun K => He.ga K "_law_sign", "_law_sign", "_law_sign", s__law_sign, []⟩,
  ⟨fun K => He.ga K "_law_orders", "_law_orders", "_law_orders", s__law_orders, []⟩,
  ⟨fun K => He.ga K "_law_full", "_law_full", "_law_full", s__law_full, []⟩,
  ⟨fun K => He.ga K "_law_least_row", "_law_least_row", "_law_least_row", s__law_least_row, []⟩,
  ⟨fun K => He.ga K "_law_unbeaten", "_law_unbeaten", "_law_unbeaten", s__law_unbeaten, []⟩,
  ⟨fun K => He.ga K "_law_terms", "_law_terms", "_law_terms", s__law_terms, []⟩,
  ⟨fun K => He.ga K "_law_refused", "_law_refused", "_law_refused", s__law_refused, []⟩,
  ⟨fun K => He.ga K "_law_faces_right", "_law_faces_right", "_law_faces_right", s__law_faces_right, []⟩,
  ⟨fun K => He.ga K "_law_book_right", "_law_book_right", "_law_book_right", s__law_book_right, []⟩,
  ⟨fun K => He.ga K "_law_refusals_right", "_law_refusals_right", "_law_refusals_right", s__law_refusals_right, []⟩,
  ⟨fun K => He.ga K "law", "law", "law", s_law, []⟩,
  ⟨fun K => He.ma K (He.ga K "Book") "__init__", "__init__", "Book.__init__", s_Book___init__, []⟩,
  ⟨fun K => He.ma K (He.ga K "Book") "__eq__", "__eq__", "Book.__eq__", s_Book___eq__, []⟩,
  ⟨fun K => He.ma K (He.ga K "Book") "odd_faces", "odd_faces", "Book.odd_faces", s_Book_odd_faces, []⟩,
  ⟨fun K => He.ma K (He.ga K "Chain") "__init__", "__init__", "Chain.__init__", s_Chain___init__, []⟩,
  ⟨fun K => He.ma K (He.ga K "Chain") "__len__", "__len__", "Chain.__len__", s_Chain___len__, []⟩,
  ⟨fun K => He.ma K (He.ga K "Chain") "__abs__", "__abs__", "Chain.__abs__", s_Chain___abs__, []⟩,
  ⟨fun K => He.ma K (He.ga K "Chain") "boundary", "boundary", "Chain.boundary", s_Chain_boundary, []⟩,
  ⟨fun K => He.ma K (He.ga K "Chain") "odd_book", "odd_book", "Chain.odd_book", s_Chain_odd_book, []⟩,
  ⟨fun K => pgt K (He.ga K "Book") "is_even", "is_even", "Book.is_even", s_Book_is_even, []⟩,
  ⟨fun K => pgt K (He.ga K "Book") "is_two_each", "is_two_each", "Book.is_two_each", s_Book_is_two_each, []⟩,
  ⟨fun K => He.ma K (He.ga K "Mismatch") "__init__", "__init__", "Mismatch.__init__", s_Mis, ["__class__"]⟩,
  ⟨fun K => He.ma K (He.ga K "NotARoom") "__init__", "__init__", "NotARoom.__init__", s_Nar, ["__class__"]⟩
]
def chks (K : Fr) : List Bool := [
(He.Fa.free "len").ok K,
  (He.Fa.free "range").ok K,
  (He.Fa.free "sorted").ok K,
  (He.Fa.free "tuple").ok K,
  (He.Fa.free "list").ok K,
  (He.Fa.free "enumerate").ok K,
  (He.Fa.free "set").ok K,
  (He.Fa.free "abs").ok K,
  (He.Fa.free "sum").ok K,
  (He.Fa.free "min").ok K,
  (He.Fa.free "int").ok K,
  (He.Fa.free "bool").ok K,
  (He.Fa.free "str").ok K,
  (He.Fa.free "isinstance").ok K,
  (He.Fa.free "repr").ok K,
  (He.Fa.free "super").ok K,
  (He.Fa.glo "faces").ok K,
  (He.Fa.glo "without").ok K,
  (He.Fa.glo "exchanged").ok K,
  (He.Fa.glo "subsets").ok K,
  (He.Fa.glo "order_sign").ok K,
  (He.Fa.glo "room_fault").ok K,
  (He.Fa.glo "face_counts").ok K,
  (He.Fa.glo "check_orders").ok K,
  (He.Fa.glo "full_orders").ok K,
  (He.Fa.glo "own_places").ok K,
  (He.Fa.glo "first_of").ok K,
  (He.Fa.glo "places_above").ok K,
  (He.Fa.glo "above_in_all").ok K,
  (He.Fa.glo "least_row").ok K,
  (He.Fa.glo "unbeaten_rooms").ok K,
  (He.Fa.glo "unbeaten_book").ok K,
  (He.Fa.glo "unbeaten_chain").ok K,
  (He.Fa.glo "other_unbeaten").ok K,
  (He.Fa.glo "is_signed").ok K,
  (He.Fa.glo "_law_cell").ok K,
  (He.Fa.glo "_law_same").ok K,
  (He.Fa.glo "_law_order").ok K,
  (He.Fa.glo "_law_rooms").ok K,
  (He.Fa.glo "_law_table").ok K,
  (He.Fa.glo "_law_sign").ok K,
  (He.Fa.glo "_law_orders").ok K,
  (He.Fa.glo "_law_full").ok K,
  (He.Fa.glo "_law_least_row").ok K,
  (He.Fa.glo "_law_unbeaten").ok K,
  (He.Fa.glo "_law_terms").ok K,
  (He.Fa.glo "_law_refused").ok K,
  (He.Fa.glo "_law_faces_right").ok K,
  (He.Fa.glo "_law_book_right").ok K,
  (He.Fa.glo "_law_refusals_right").ok K,
  (He.Fa.glo "law").ok K,
  (He.Fa.glo "Book").ok K,
  (He.Fa.glo "Chain").ok K,
  (He.Fa.glo "NotARoom").ok K,
  (He.Fa.glo "Mismatch").ok K,
  (He.Fa.int "MOST_ORDERS" 4).ok K,
  (He.Fa.int "MOST_THINGS" 8).ok K,
  (He.Fa.cls "Book").ok K,
  (He.Fa.mkr "Book").ok K,
  (He.Fa.noat "Book" "places").ok K,
  (He.Fa.noat "Book" "size").ok K,
  (He.Fa.noat "Book" "rooms").ok K,
  (He.Fa.cls "Chain").ok K,
  (He.Fa.mkr "Chain").ok K,
  (He.Fa.noat "Chain" "places").ok K,
  (He.Fa.noat "Chain" "degree").ok K,
  (He.Fa.noat "Chain" "terms").ok K,
  (He.Fa.meth "Book" "__eq__").ok K,
  (He.Fa.meth "Book" "odd_faces").ok K,
  (He.Fa.meth "Chain" "__len__").ok K,
  (He.Fa.meth "Chain" "__abs__").ok K,
  (He.Fa.meth "Chain" "boundary").ok K,
  (He.Fa.meth "Chain" "odd_book").ok K,
  propB K (He.ga K "Book") "is_even",
  propB K (He.ga K "Book") "is_two_each",
  readB K (He.ga K "Book"),
  isiB K (He.ga K "Book"),
  decide (kitOne K (.ref (He.ga K "Book")) (.ref (He.ga K "Book")) = some true),
  xfB K (He.ga K "NotARoom"),
  (He.Fa.noat "NotARoom" "room").ok K,
  oexB K (He.ga K "NotARoom"),
  supB K (He.ga K "NotARoom") (He.ma K (He.ga K "NotARoom") "__init__"),
  iniB K (He.ga K "NotARoom"),
  xfB K (He.ga K "Mismatch"),
  (He.Fa.noat "Mismatch" "fault").ok K,
  oexB K (He.ga K "Mismatch"),
  supB K (He.ga K "Mismatch") (He.ma K (He.ga K "Mismatch") "__init__"),
  iniB K (He.ga K "Mismatch"),
  (He.Fa.exm "NotARoom" "NotARoom" true).ok K,
  (He.Fa.exm "Mismatch" "NotARoom" false).ok K,
  (He.Fa.exm "Mismatch" "Mismatch" true).ok K
]
def chk (K : Fr) : Bool := (chks K).all id
end DL
set_option Elab.async false
set_option linter.all false
set_option maxRecDepth 100000
set_option maxHeartbeats 0
/-! HR: the run of the top. -/
namespace DL
open PySem PySem.Spec PyProof.Rows L2
abbrev R84 : PySem.W.OpenRow := PySem.W.OpenLaw.row PySem.Challenge.rw_neveralone_k84_unbeaten_books_and_their
abbrev q84 : Program := PySem.W.view R84.prog [54]
def loose1 : List PySem.Str := ["_wall", "NeverAloneError", "BadBook", "BadChain", "Mismatch", "NotARoom", "BadOrders", "faces", "without", "exchanged", "merged", "subsets", "order_sign", "shuffle_sign", "room_fault", "Book", "face_counts", "Chain", "MOST_ORDERS", "MOST_THINGS", "check_orders", "full_orders", "own_places", "first_of", "places_above", "above_in_all", "least_row", "unbeaten_rooms", "unbeaten_book", "unbeaten_chain", "other_unbeaten", "is_signed"]
def loose2 : List PySem.Str := ["_law_cell", "_law_same", "_law_order", "_law_rooms", "_law_table", "_law_sign", "_law_orders", "_law_full", "_law_least_row", "_law_unbeaten", "_law_terms", "_law_refused", "_law_faces_right", "_law_book_right", "_law_refusals_right"]
def loose : List PySem.Str := loose1 ++ loose2
abbrev hk84 : PySem.W.Hook := hookZ 5 chk fns
def ob84 (s : PySem.W.SharedT) : AlZ := obsZG 5 chk fns (HandSHeadRun.getT s)
theorem ob84_eq (s : PySem.W.SharedT) : ob84 s = hk84.obs s.abs := obsZG_eq (HandSHeadRun.getT_eq s)
theorem run84 (w : World) : HandSHeadRun.RunEq R84 q84 hk84 ob84 6000 loose w := by
  intro os
  kernel_rfl
end DL

set_option Elab.async false
set_option linter.all false
set_option maxRecDepth 100000
set_option maxHeartbeats 2000000
/-! DL: values as data, the heap out of sight. -/
namespace DL
open PySem L2
/-! ### data -/
inductive D where
  | non | bl (b : Bool) | int (i : Int) | str (x : Str)
  | lst (ds : List D) | tup (ds : List D) | frz (ds : List D) | obj (C : Addr) (fs : List (Str × D)) | dct (es : List (List Key × D)) | dcl (es : List (List Key × D)) | ftu (ds : List D)
def Ex (H H' : Hp) : Prop := ∀ a o, H a = some o → H' a = some o
theorem Ex.refl (H : Hp) : Ex H H := fun _ _ h => h
theorem Ex.trans {H H1 H2 : Hp} (a : Ex H H1) (b : Ex H1 H2) : Ex H H2 := fun x o h => b x o (a x o h)
theorem Ex.none {H H' : Hp} (e : Ex H H') {a : Addr} (h : H' a = Option.none) : H a = Option.none := by
  cases h1 : H a with
  | none => rfl
  | some o => rw [e a o h1] at h; cases h
mutual
inductive Rp (K : PySem.W.Frag) (S : Hp) : V → D → Prop
  | non : Rp K S .non .non
  | bl (b : Bool) : Rp K S (.bl b) (.bl b)
  | int (i : Int) : Rp K S (.int i) (.int i)
  | str (x : Str) : Rp K S (.str x) (.str x)
  | lst {a : Addr} {xs : List V} {ds : List D} : S a = some (.lst xs) → RpA K S xs ds → Rp K S (.ref a) (.lst ds)
  | tup {a : Addr} {xs : List V} {ds : List D} : S a = some (.tup xs) → RpA K S xs ds → Rp K S (.ref a) (.tup ds)
  | frz {a : Addr} {xs : List V} {ds : List D} : SqL K S a xs → RpA K S xs ds → Rp K S (.ref a) (.frz ds)
  | obj {a C dx : Addr} {fs : List (Str × V)} {gs : List (Str × D)} : S a = some (.ins C dx fs) → RpF K S fs gs → Rp K S (.ref a) (.obj C gs)
  | dct {a : Addr} {kvs : List (List Key × V)} {es : List (List Key × D)} : S a = some (.dT kvs) → RpE K S kvs es → Rp K S (.ref a) (.dct es)
  | dcl {a : Addr} {o : Obj} {kvs : List (List Key × V)} {es : List (List Key × D)} : S a = some (.frz o (.dT kvs)) → RpE K S kvs es → Rp K S (.ref a) (.dcl es)
  | ftu {a : Addr} {o : Obj} {xs : List V} {ds : List D} : S a = some (.frz o (.tup xs)) → o.dict = none → RpA K S xs ds → Rp K S (.ref a) (.ftu ds)
inductive RpA (K : PySem.W.Frag) (S : Hp) : List V → List D → Prop
  | nil : RpA K S [] []
  | cons {v : V} {vs : List V} {d : D} {ds : List D} : Rp K S v d → RpA K S vs ds → RpA K S (v :: vs) (d :: ds)
inductive RpF (K : PySem.W.Frag) (S : Hp) : List (Str × V) → List (Str × D) → Prop
  | nil : RpF K S [] []
  | cons {f : Str} {v : V} {vs : List (Str × V)} {d : D} {ds : List (Str × D)} : Rp K S v d → RpF K S vs ds → RpF K S ((f, v) :: vs) ((f, d) :: ds)
inductive RpE (K : PySem.W.Frag) (S : Hp) : List (List Key × V) → List (List Key × D) → Prop
  | nil : RpE K S [] []
  | cons {f : List Key} {v : V} {vs : List (List Key × V)} {d : D} {ds : List (List Key × D)} : Rp K S v d → RpE K S vs ds → RpE K S ((f, v) :: vs) ((f, d) :: ds)
end
theorem rd_ex {S S' : Hp} (e : Ex S S') {a : Addr} {u : HO} (h : Rd S a u) : Rd S' a u := by
  rcases h with h | ⟨o, h⟩
  · exact Or.inl (e _ _ h)
  · exact Or.inr ⟨o, e _ _ h⟩
theorem sql_ex {K : PySem.W.Frag} {S S' : Hp} (e : Ex S S') {a : Addr} {xs : List V} (h : SqL K S a xs) : SqL K S' a xs := by
  rcases h with h | h
  · exact Or.inl (rd_ex e h)
  · exact Or.inr h
section
variable {K : PySem.W.Frag} {S S' : Hp}
theorem Rp.mono (e : Ex S S') {v : V} {d : D} (h : Rp K S v d) : Rp K S' v d :=
  Rp.rec (motive_1 := fun v d _ => Rp K S' v d) (motive_2 := fun v d _ => RpA K S' v d) (motive_3 := fun v d _ => RpF K S' v d) (motive_4 := fun v d _ => RpE K S' v d)
    .non .bl .int .str (fun h _ r => .lst (e _ _ h) r) (fun h _ r => .tup (e _ _ h) r) (fun h _ r => .frz (sql_ex e h) r) (fun h _ r => .obj (e _ _ h) r) (fun h _ r => .dct (e _ _ h) r) (fun h _ r => .dcl (e _ _ h) r) (fun h n _ r => .ftu (e _ _ h) n r)
    .nil (fun _ _ a b => .cons a b) .nil (fun _ _ a b => .cons a b) .nil (fun _ _ a b => .cons a b) h
theorem RpA.mono (e : Ex S S') {vs : List V} {ds : List D} (h : RpA K S vs ds) : RpA K S' vs ds :=
  RpA.rec (motive_1 := fun v d _ => Rp K S' v d) (motive_2 := fun v d _ => RpA K S' v d) (motive_3 := fun v d _ => RpF K S' v d) (motive_4 := fun v d _ => RpE K S' v d)
    .non .bl .int .str (fun h _ r => .lst (e _ _ h) r) (fun h _ r => .tup (e _ _ h) r) (fun h _ r => .frz (sql_ex e h) r) (fun h _ r => .obj (e _ _ h) r) (fun h _ r => .dct (e _ _ h) r) (fun h _ r => .dcl (e _ _ h) r) (fun h n _ r => .ftu (e _ _ h) n r)
    .nil (fun _ _ a b => .cons a b) .nil (fun _ _ a b => .cons a b) .nil (fun _ _ a b => .cons a b) h
theorem RpF.mono (e : Ex S S') {vs : List (Str × V)} {ds : List (Str × D)} (h : RpF K S vs ds) : RpF K S' vs ds :=
  RpF.rec (motive_1 := fun v d _ => Rp K S' v d) (motive_2 := fun v d _ => RpA K S' v d) (motive_3 := fun v d _ => RpF K S' v d) (motive_4 := fun v d _ => RpE K S' v d)
    .non .bl .int .str (fun h _ r => .lst (e _ _ h) r) (fun h _ r => .tup (e _ _ h) r) (fun h _ r => .frz (sql_ex e h) r) (fun h _ r => .obj (e _ _ h) r) (fun h _ r => .dct (e _ _ h) r) (fun h _ r => .dcl (e _ _ h) r) (fun h n _ r => .ftu (e _ _ h) n r)
    .nil (fun _ _ a b => .cons a b) .nil (fun _ _ a b => .cons a b) .nil (fun _ _ a b => .cons a b) h
theorem RpE.mono (e : Ex S S') {vs : List (List Key × V)} {ds : List (List Key × D)} (h : RpE K S vs ds) : RpE K S' vs ds :=
  RpE.rec (motive_1 := fun v d _ => Rp K S' v d) (motive_2 := fun v d _ => RpA K S' v d) (motive_3 := fun v d _ => RpF K S' v d) (motive_4 := fun v d _ => RpE K S' v d)
    .non .bl .int .str (fun h _ r => .lst (e _ _ h) r) (fun h _ r => .tup (e _ _ h) r) (fun h _ r => .frz (sql_ex e h) r) (fun h _ r => .obj (e _ _ h) r) (fun h _ r => .dct (e _ _ h) r) (fun h _ r => .dcl (e _ _ h) r) (fun h n _ r => .ftu (e _ _ h) n r)
    .nil (fun _ _ a b => .cons a b) .nil (fun _ _ a b => .cons a b) .nil (fun _ _ a b => .cons a b) h
theorem RpA.length : ∀ {vs : List V} {ds : List D}, RpA K S vs ds → vs.length = ds.length
  | [], _, .nil => rfl
  | _ :: _, _, .cons _ h => congrArg (· + 1) h.length
theorem RpA.get : ∀ {vs : List V} {ds : List D} {i : Nat} {d : D}, RpA K S vs ds → ds[i]? = some d → ∃ v, vs[i]? = some v ∧ Rp K S v d
  | [], [], _, _, .nil, h => by cases h
  | _ :: _, _ :: _, 0, d, .cons a _, h => by
    cases h
    exact ⟨_, rfl, a⟩
  | _ :: _, _ :: _, i + 1, d, .cons _ b, h => b.get (i := i) h
theorem RpA.get' : ∀ {vs : List V} {ds : List D} {i : Nat} {v : V}, RpA K S vs ds → vs[i]? = some v → ∃ d, ds[i]? = some d ∧ Rp K S v d
  | [], [], _, _, .nil, h => by cases h
  | _ :: _, _ :: _, 0, d, .cons a _, h => by
    cases h
    exact ⟨_, rfl, a⟩
  | _ :: _, _ :: _, i + 1, d, .cons _ b, h => b.get' (i := i) h
theorem RpA.append : ∀ {vs ws : List V} {ds es : List D}, RpA K S vs ds → RpA K S ws es → RpA K S (vs ++ ws) (ds ++ es)
  | [], _, _, _, .nil, h => h
  | _ :: _, _, _, _, .cons a b, h => .cons a (b.append h)
theorem RpA.snoc {vs : List V} {ds : List D} {v : V} {d : D} (h : RpA K S vs ds) (a : Rp K S v d) : RpA K S (vs ++ [v]) (ds ++ [d]) := h.append (.cons a .nil)
theorem RpA.drop : ∀ (n : Nat) {vs : List V} {ds : List D}, RpA K S vs ds → RpA K S (vs.drop n) (ds.drop n)
  | 0, _, _, h => h
  | _ + 1, [], _, .nil => .nil
  | n + 1, _ :: _, _, .cons _ b => b.drop n
theorem RpA.take : ∀ (n : Nat) {vs : List V} {ds : List D}, RpA K S vs ds → RpA K S (vs.take n) (ds.take n)
  | 0, _, _, _ => .nil
  | _ + 1, [], _, .nil => .nil
  | n + 1, _ :: _, _, .cons a b => .cons a (b.take n)
theorem RpA.ints : ∀ {vs : List V} {ns : List Int}, RpA K S vs (ns.map D.int) → vs = ns.map V.int
  | [], [], .nil => rfl
  | _ :: _, n :: ns, .cons a b => by
    cases a
    rw [b.ints]
    rfl
theorem RpA.of_ints : ∀ ns : List Int, RpA K S (ns.map V.int) (ns.map D.int)
  | [] => .nil
  | _ :: ns => .cons (.int _) (RpA.of_ints ns)
theorem RpF.lookup : ∀ {vs : List (Str × V)} {ds : List (Str × D)} {f : Str} {d : D}, RpF K S vs ds → ds.lookup f = some d → ∃ v, vs.lookup f = some v ∧ Rp K S v d
  | [], [], _, _, .nil, h => by cases h
  | (g, v) :: vs, (_, e) :: ds, f, d, .cons a b, h => by
    by_cases hf : f = g
    · subst hf
      rw [List.lookup_cons_self] at h ⊢
      cases h
      exact ⟨_, rfl, a⟩
    · have hb : (f == g) = false := by simpa using hf
      rw [List.lookup, hb] at h ⊢
      exact b.lookup h
theorem RpF.length : ∀ {vs : List (Str × V)} {ds : List (Str × D)}, RpF K S vs ds → vs.length = ds.length
  | [], _, .nil => rfl
  | _ :: _, _, .cons _ h => congrArg (· + 1) h.length
theorem RpE.length : ∀ {vs : List (List Key × V)} {ds : List (List Key × D)}, RpE K S vs ds → vs.length = ds.length
  | [], _, .nil => rfl
  | _ :: _, _, .cons _ h => congrArg (· + 1) h.length
end
/-! ### growth of the stable part S and of the heap H -/
def mu : HO → Bool
  | .tup _ => false
  | _ => true
structure Gr (S H S' H' : Hp) : Prop where
  ss : Ex S S'
  sh : Ex S' H'
  hh : Ex H H'
  new : ∀ a o, S a = none → H a = some o → mu o = true → S' a = none
theorem Gr.refl {S H : Hp} (e : Ex S H) : Gr S H S H := ⟨.refl S, e, .refl H, fun _ _ h _ _ => h⟩
theorem Gr.trans {S0 H0 S1 H1 S2 H2 : Hp} (a : Gr S0 H0 S1 H1) (b : Gr S1 H1 S2 H2) : Gr S0 H0 S2 H2 :=
  ⟨a.ss.trans b.ss, b.sh, a.hh.trans b.hh, fun x o h h' m => b.new x o (a.new x o h h' m) (a.hh x o h') m⟩
/-- a new object, stable at once -/
theorem Gr.add {S H : Hp} (e : Ex S H) {p : Addr} {o : HO} (hp : H p = none) : Gr S H (upd S p o) (upd H p o) := by
  have sp : S p = none := e.none hp
  refine ⟨fun a u h => ?_, fun a u h => ?_, fun a u h => ?_, fun a u h h' _ => ?_⟩
  · rw [upd_ne (ne_of_none h sp)]; exact h
  · by_cases q : a = p
    · subst q; rw [upd_same] at h ⊢; exact h
    · rw [upd_ne q] at h ⊢; exact e _ _ h
  · rw [upd_ne (ne_of_none h hp)]; exact h
  · rw [upd_ne (ne_of_none h' hp)]; exact h
/-- a new object, not yet stable -/
theorem Gr.lay {S H : Hp} (e : Ex S H) {p : Addr} {o : HO} (hp : H p = none) : Gr S H S (upd H p o) := by
  have sp : S p = none := e.none hp
  refine ⟨.refl S, fun a u h => ?_, fun a u h => ?_, fun a u h h' _ => h⟩
  · rw [upd_ne (ne_of_none h sp)]; exact e _ _ h
  · rw [upd_ne (ne_of_none h hp)]; exact h
/-- what was new in the heap becomes stable -/
theorem Gr.set {S H S' H' : Hp} (g : Gr S H S' H') {p : Addr} {o : HO} (hp : H p = none) (hp' : H' p = some o) (hs : S' p = none) : Gr S H (upd S' p o) H' := by
  refine ⟨fun a u h => ?_, fun a u h => ?_, g.hh, fun a u h h' m => ?_⟩
  · have := g.ss a u h
    rw [upd_ne (ne_of_none this hs)]; exact this
  · by_cases q : a = p
    · subst q; rw [upd_same] at h; rw [← h]; exact hp'
    · rw [upd_ne q] at h; exact g.sh _ _ h
  · rw [upd_ne (ne_of_none h' hp)]; exact g.new _ _ h h' m
/-- the tuples of scalars that the heap holds are stable -/
def scV : V → Bool
  | .ref _ => false
  | _ => true
def flatS (S H : Hp) : Hp := fun a => match H a with
  | some (.tup xs) => if xs.all scV = true then some (.tup xs) else S a
  | _ => S a
theorem flatS_at {S H : Hp} {a : Addr} {xs : List V} (h : H a = some (.tup xs)) (f : xs.all scV = true) : flatS S H a = some (.tup xs) := by
  unfold flatS
  rw [h]
  show (if xs.all scV = true then some (HO.tup xs) else S a) = _
  rw [if_pos f]
theorem scV_ints (ns : List Int) : (ns.map V.int).all scV = true := by
  rw [List.all_eq_true]
  intro x hx
  obtain ⟨n, _, rfl⟩ := List.mem_map.mp hx
  rfl
theorem Gr.flat {S H : Hp} (e : Ex S H) : Gr S H (flatS S H) H := by
  have key : ∀ a o, flatS S H a = some o → S a = some o ∨ (H a = some o ∧ mu o = false) := by
    intro a o h
    unfold flatS at h
    split at h
    · rename_i xs hx
      split at h
      · cases h; exact Or.inr ⟨hx, rfl⟩
      · exact Or.inl h
    · exact Or.inl h
  refine ⟨fun a o h => ?_, fun a o h => ?_, .refl H, fun a o h h' m => ?_⟩
  · have h1 := e _ _ h
    unfold flatS
    rw [h1]
    cases o <;> try exact h
    rename_i xs
    show (if xs.all scV = true then some (HO.tup xs) else S a) = _
    split
    · rfl
    · exact h
  · rcases key a o h with q | q
    · exact e _ _ q
    · exact q.1
  · cases q : flatS S H a with
    | none => rfl
    | some u =>
      rcases key a u q with z | z
      · rw [h] at z; cases z
      · rw [z.1] at h'; cases h'; rw [z.2] at m; cases m
/-! ### the frame's slots as data -/
inductive Ent where
  | un | im (d : D) | ml (ds : List D) | md (es : List (List Key × D)) | mo (x C : Addr) (fs : List (Str × D))
abbrev Env := List Ent
def Ent.mut : Ent → Bool
  | .un => false
  | .im _ => false
  | _ => true
def EntOk (K : PySem.W.Frag) (H0 S H : Hp) (x : Option (Option V)) : Ent → Prop
  | .un => True
  | .im d => ∃ v, x = some (some v) ∧ Rp K S v d
  | .ml ds => ∃ p vs, x = some (some (.ref p)) ∧ H0 p = none ∧ S p = none ∧ H p = some (.lst vs) ∧ RpA K S vs ds
  | .md es => ∃ p kvs, x = some (some (.ref p)) ∧ H0 p = none ∧ S p = none ∧ H p = some (.dT kvs) ∧ RpE K S kvs es
  | .mo p C fs => ∃ dx gs, x = some (some (.ref p)) ∧ H0 p = none ∧ S p = none ∧ H p = some (.ins C dx gs) ∧ RpF K S gs fs
theorem EntOk.grow {K : PySem.W.Frag} {H0 S H S' H' : Hp} {x : Option (Option V)} {e : Ent} (g : Gr S H S' H') (h : EntOk K H0 S H x e) : EntOk K H0 S' H' x e := by
  cases e with
  | un => trivial
  | im d => obtain ⟨v, a, b⟩ := h; exact ⟨v, a, b.mono g.ss⟩
  | ml ds => obtain ⟨p, vs, a, b, c, d, e⟩ := h; exact ⟨p, vs, a, b, g.new _ _ c d rfl, g.hh _ _ d, e.mono g.ss⟩
  | md ds => obtain ⟨p, vs, a, b, c, d, e⟩ := h; exact ⟨p, vs, a, b, g.new _ _ c d rfl, g.hh _ _ d, e.mono g.ss⟩
  | mo p C fs => obtain ⟨dx, vs, a, b, c, d, e⟩ := h; exact ⟨dx, vs, a, b, g.new _ _ c d rfl, g.hh _ _ d, e.mono g.ss⟩
structure StOk (K : PySem.W.Frag) (S0 H0 S H : Hp) (σ : St) (ρ : Env) : Prop where
  gr : Gr S0 H0 S H
  len : σ.length = ρ.length
  at_ : ∀ (i : Nat) (e : Ent), ρ[i]? = some e → EntOk K H0 S H (σ[i]? : Option (Option V)) e
  dis : ∀ (i j : Nat) (e f : Ent) (p : Addr), ρ[i]? = some e → ρ[j]? = some f → e.mut = true → f.mut = true → σ[i]? = some (some (.ref p)) → σ[j]? = some (some (.ref p)) → i = j
section
variable {K : PySem.W.Frag} {S0 H0 S H S' H' : Hp} {σ : St} {ρ : Env}
theorem StOk.ex (k : StOk K S0 H0 S H σ ρ) : Ex S H := k.gr.sh
theorem StOk.grow (k : StOk K S0 H0 S H σ ρ) (g : Gr S H S' H') : StOk K S0 H0 S' H' σ ρ :=
  ⟨k.gr.trans g, k.len, fun i e h => (k.at_ i e h).grow g, k.dis⟩
theorem get_set {α : Type} {l : List α} {i j : Nat} {x y : α} (h : (l.set i x)[j]? = some y) : (j = i ∧ y = x) ∨ (j ≠ i ∧ l[j]? = some y) := by
  rw [List.getElem?_set] at h
  by_cases q : i = j
  · subst q
    rw [if_pos rfl] at h
    split at h
    · cases h; exact Or.inl ⟨rfl, rfl⟩
    · cases h
  · rw [if_neg q] at h
    exact Or.inr ⟨fun z => q z.symm, h⟩
/-- a slot gets a stable value -/
theorem StOk.set (k : StOk K S0 H0 S H σ ρ) {v : V} {d : D} (i : Nat) (r : Rp K S v d) : StOk K S0 H0 S H (σ.set i (some v)) (ρ.set i (.im d)) := by
  refine ⟨k.gr, by rw [List.length_set, List.length_set]; exact k.len, fun j e h => ?_, fun a b e f p ha hb me mf h1 h2 => ?_⟩
  · rcases get_set h with ⟨q, z⟩ | ⟨q, z⟩
    · subst q z
      have hj : j < ρ.length := by
        have := (List.getElem?_eq_some_iff.mp h).1
        rwa [List.length_set] at this
      exact ⟨v, by rw [List.getElem?_set_self (by rw [k.len]; exact hj)], r⟩
    · rw [List.getElem?_set_ne (fun z => q z.symm)]
      exact k.at_ j e z
  · rcases get_set ha with ⟨q, z⟩ | ⟨q, z⟩
    · rw [z] at me; cases me
    rcases get_set hb with ⟨q', z'⟩ | ⟨q', z'⟩
    · rw [z'] at mf; cases mf
    rw [List.getElem?_set_ne (fun z => q z.symm)] at h1
    rw [List.getElem?_set_ne (fun z => q' z.symm)] at h2
    exact k.dis a b e f p z z' me mf h1 h2
/-- a slot is forgotten -/
theorem StOk.forget (k : StOk K S0 H0 S H σ ρ) (i : Nat) (x : Option V) : StOk K S0 H0 S H (σ.set i x) (ρ.set i .un) := by
  refine ⟨k.gr, by rw [List.length_set, List.length_set]; exact k.len, fun j e h => ?_, fun a b e f p ha hb me mf h1 h2 => ?_⟩
  · rcases get_set h with ⟨q, z⟩ | ⟨q, z⟩
    · subst q z
      trivial
    · rw [List.getElem?_set_ne (fun z => q z.symm)]
      exact k.at_ j e z
  · rcases get_set ha with ⟨q, z⟩ | ⟨q, z⟩
    · rw [z] at me; cases me
    rcases get_set hb with ⟨q', z'⟩ | ⟨q', z'⟩
    · rw [z'] at mf; cases mf
    rw [List.getElem?_set_ne (fun z => q z.symm)] at h1
    rw [List.getElem?_set_ne (fun z => q' z.symm)] at h2
    exact k.dis a b e f p z z' me mf h1 h2
/-- an entry is forgotten, the slot stays -/
theorem StOk.drop (k : StOk K S0 H0 S H σ ρ) (i : Nat) : StOk K S0 H0 S H σ (ρ.set i .un) := by
  refine ⟨k.gr, by rw [List.length_set]; exact k.len, fun j e h => ?_, fun a b e f p ha hb me mf h1 h2 => ?_⟩
  · rcases get_set h with ⟨q, z⟩ | ⟨q, z⟩
    · subst q z
      trivial
    · exact k.at_ j e z
  · rcases get_set ha with ⟨q, z⟩ | ⟨q, z⟩
    · rw [z] at me; cases me
    rcases get_set hb with ⟨q', z'⟩ | ⟨q', z'⟩
    · rw [z'] at mf; cases mf
    exact k.dis a b e f p z z' me mf h1 h2
/-- a slot gets an object of its own, just laid (or known to nobody) -/
theorem StOk.own (k : StOk K S0 H0 S H σ ρ) {p : Addr} {e : Ent} (i : Nat) (he : e.mut = true) (g : Gr S H S' H') (hp : H p = none) (ok : EntOk K H0 S' H' (some (some (.ref p))) e) : StOk K S0 H0 S' H' (σ.set i (some (.ref p))) (ρ.set i e) := by
  have k' := k.grow g
  have nd : ∀ (j : Nat) (f : Ent), ρ[j]? = some f → f.mut = true → σ[j]? = some (some (.ref p)) → False := by
    intro j f hf mf hs
    have := k.at_ j f hf
    cases f with
    | un => cases mf
    | im d => cases mf
    | ml ds => obtain ⟨q, vs, a, b, c, d, e⟩ := this; rw [hs] at a; cases a; rw [hp] at d; cases d
    | md ds => obtain ⟨q, vs, a, b, c, d, e⟩ := this; rw [hs] at a; cases a; rw [hp] at d; cases d
    | mo q C fs => obtain ⟨dx, vs, a, b, c, d, e⟩ := this; rw [hs] at a; cases a; rw [hp] at d; cases d
  refine ⟨k'.gr, by rw [List.length_set, List.length_set]; exact k.len, fun j e' h => ?_, fun a b e' f q ha hb me mf h1 h2 => ?_⟩
  · rcases get_set h with ⟨q, z⟩ | ⟨q, z⟩
    · subst q z
      have hj : j < ρ.length := by
        have := (List.getElem?_eq_some_iff.mp h).1
        rwa [List.length_set] at this
      rw [List.getElem?_set_self (by rw [k.len]; exact hj)]
      exact ok
    · rw [List.getElem?_set_ne (fun z => q z.symm)]
      exact k'.at_ j e' z
  · have la : a < σ.length := by
      have := (List.getElem?_eq_some_iff.mp ha).1
      rw [List.length_set] at this; rw [k.len]; exact this
    have lb : b < σ.length := by
      have := (List.getElem?_eq_some_iff.mp hb).1
      rw [List.length_set] at this; rw [k.len]; exact this
    rcases get_set ha with ⟨qa, za⟩ | ⟨qa, za⟩ <;> rcases get_set hb with ⟨qb, zb⟩ | ⟨qb, zb⟩
    · rw [qa, qb]
    · subst qa
      rw [List.getElem?_set_self la] at h1
      cases h1
      rw [List.getElem?_set_ne (fun z => qb z.symm)] at h2
      exact (nd b f zb mf h2).elim
    · subst qb
      rw [List.getElem?_set_self lb] at h2
      cases h2
      rw [List.getElem?_set_ne (fun z => qa z.symm)] at h1
      exact (nd a e' za me h1).elim
    · rw [List.getElem?_set_ne (fun z => qa z.symm)] at h1
      rw [List.getElem?_set_ne (fun z => qb z.symm)] at h2
      exact k.dis a b e' f q za zb me mf h1 h2
/-- the slot's own object is rewritten -/
theorem StOk.mutate (k : StOk K S0 H0 S H σ ρ) {i : Nat} {e e' : Ent} {p : Addr} {o : HO} (hi : ρ[i]? = some e) (me : e.mut = true) (me' : e'.mut = true) (hs : σ[i]? = some (some (.ref p))) (h0 : H0 p = none) (hS : S p = none)
    (ok : EntOk K H0 S (upd H p o) (some (some (.ref p))) e') : StOk K S0 H0 S (upd H p o) σ (ρ.set i e') := by
  refine ⟨⟨k.gr.ss, fun a u h => ?_, fun a u h => ?_, k.gr.new⟩, by rw [List.length_set]; exact k.len, fun j f h => ?_, fun a b f f' q ha hb mf mf' h1 h2 => ?_⟩
  · rw [upd_ne (ne_of_none h hS)]; exact k.ex _ _ h
  · rw [upd_ne (ne_of_none h h0)]; exact k.gr.hh _ _ h
  · rcases get_set h with ⟨q, z⟩ | ⟨q, z⟩
    · subst q z
      rw [hs]; exact ok
    · have x := k.at_ j f z
      cases f with
      | un => trivial
      | im d => exact x
      | ml ds =>
        obtain ⟨r, vs, a, b, c, d, e⟩ := x
        have : r ≠ p := fun w => by subst w; exact q (k.dis j i _ _ _ z hi rfl me a hs)
        exact ⟨r, vs, a, b, c, by rw [upd_ne this]; exact d, e⟩
      | md ds =>
        obtain ⟨r, vs, a, b, c, d, e⟩ := x
        have : r ≠ p := fun w => by subst w; exact q (k.dis j i _ _ _ z hi rfl me a hs)
        exact ⟨r, vs, a, b, c, by rw [upd_ne this]; exact d, e⟩
      | mo r C fs =>
        obtain ⟨dx, vs, a, b, c, d, e⟩ := x
        have : r ≠ p := fun w => by subst w; exact q (k.dis j i _ _ _ z hi rfl me a hs)
        exact ⟨dx, vs, a, b, c, by rw [upd_ne this]; exact d, e⟩
  · have w : ∀ {c : Nat} {g : Ent}, (ρ.set i e')[c]? = some g → g.mut = true → ∃ g', ρ[c]? = some g' ∧ g'.mut = true := by
      intro c g hc mg
      rcases get_set hc with ⟨qc, zc⟩ | ⟨qc, zc⟩
      · subst qc; exact ⟨e, hi, me⟩
      · exact ⟨g, zc, mg⟩
    obtain ⟨_, x1, x2⟩ := w ha mf
    obtain ⟨_, y1, y2⟩ := w hb mf'
    exact k.dis a b _ _ q x1 y1 x2 y2 h1 h2
/-- the object of a slot becomes stable -/
def Ent.frz : Ent → Ent
  | .ml ds => .im (.lst ds)
  | .md es => .im (.dct es)
  | .mo _ C fs => .im (.obj C fs)
  | e => e
theorem StOk.freeze (k : StOk K S0 H0 S H σ ρ) {i : Nat} {e : Ent} (hi : ρ[i]? = some e) (me : e.mut = true) : ∃ S', StOk K S0 H0 S' H σ (ρ.set i e.frz) ∧ Ex S S' := by
  have x := k.at_ i e hi
  have main : ∀ (p : Addr) (o : HO), σ[i]? = some (some (.ref p)) → H0 p = none → S p = none → H p = some o → (∀ S', Ex S S' → S' p = some o → Rp K S' (.ref p) (match e.frz with | .im d => d | _ => .non)) → (∃ d, e.frz = .im d) →
      StOk K S0 H0 (upd S p o) H σ (ρ.set i e.frz) ∧ Ex S (upd S p o) := by
    intro p o hs h0 hS hH hr ⟨d, hd⟩
    have es : Ex S (upd S p o) := fun a u h => by rw [upd_ne (ne_of_none h hS)]; exact h
    refine ⟨⟨⟨k.gr.ss.trans es, fun a u h => ?_, k.gr.hh, fun a u h h' m => ?_⟩, by rw [List.length_set]; exact k.len, fun j f h => ?_, fun a b f f' q ha hb mf mf' h1 h2 => ?_⟩, es⟩
    · by_cases q : a = p
      · subst q; rw [upd_same] at h; rw [← h]; exact hH
      · rw [upd_ne q] at h; exact k.ex _ _ h
    · rw [upd_ne (ne_of_none h' h0)]; exact k.gr.new _ _ h h' m
    · rcases get_set h with ⟨q, z⟩ | ⟨q, z⟩
      · subst q z
        have r := hr _ es upd_same
        rw [hd] at r ⊢
        exact ⟨_, hs, r⟩
      · have y := k.at_ j f z
        cases f with
        | un => trivial
        | im d => obtain ⟨v, a, b⟩ := y; exact ⟨v, a, b.mono es⟩
        | ml ds =>
          obtain ⟨r, vs, a, b, c, d, e⟩ := y
          have : r ≠ p := fun w => by subst w; exact q (k.dis j i _ _ _ z hi rfl me a hs)
          exact ⟨r, vs, a, b, by rw [upd_ne this]; exact c, d, e.mono es⟩
        | md ds =>
          obtain ⟨r, vs, a, b, c, d, e⟩ := y
          have : r ≠ p := fun w => by subst w; exact q (k.dis j i _ _ _ z hi rfl me a hs)
          exact ⟨r, vs, a, b, by rw [upd_ne this]; exact c, d, e.mono es⟩
        | mo r C fs =>
          obtain ⟨dx, vs, a, b, c, d, e⟩ := y
          have : r ≠ p := fun w => by subst w; exact q (k.dis j i _ _ _ z hi rfl me a hs)
          exact ⟨dx, vs, a, b, by rw [upd_ne this]; exact c, d, e.mono es⟩
    · have w : ∀ {c : Nat} {g : Ent}, (ρ.set i e.frz)[c]? = some g → g.mut = true → ρ[c]? = some g := by
        intro c g hc mg
        rcases get_set hc with ⟨qc, zc⟩ | ⟨qc, zc⟩
        · rw [zc, hd] at mg; cases mg
        · exact zc
      exact k.dis a b _ _ q (w ha mf) (w hb mf') mf mf' h1 h2
  cases e with
  | un => cases me
  | im d => cases me
  | ml ds =>
    obtain ⟨p, vs, a, b, c, d, r⟩ := x
    exact ⟨_, main p _ a b c d (fun S' es h => .lst h (r.mono es)) ⟨_, rfl⟩⟩
  | md es =>
    obtain ⟨p, vs, a, b, c, d, r⟩ := x
    exact ⟨_, main p _ a b c d (fun S' es h => .dct h (r.mono es)) ⟨_, rfl⟩⟩
  | mo p C fs =>
    obtain ⟨dx, vs, a, b, c, d, r⟩ := x
    exact ⟨_, main p _ a b c d (fun S' es h => .obj h (r.mono es)) ⟨_, rfl⟩⟩
end
end DL

set_option Elab.async false
set_option linter.all false
set_option maxRecDepth 100000
set_option maxHeartbeats 2000000
/-! DL2: expressions as data. -/
namespace DL
open PySem L2
structure EvD (K : Fr) (te : TE) (ρ : Env) (d : D) : Prop where
  run : ∀ {S0 H0 S H : Hp} {σ : St}, StOk K S0 H0 S H σ ρ → ∀ Q : VK, (∀ v S' H', Gr S H S' H' → Rp K S' v d → Q v H') → te σ H Q
instance {K : Fr} {te : TE} {ρ : Env} {d : D} : CoeFun (EvD K te ρ d) (fun _ => ∀ {S0 H0 S H : Hp} {σ : St}, StOk K S0 H0 S H σ ρ → ∀ Q : VK, (∀ v S' H', Gr S H S' H' → Rp K S' v d → Q v H') → te σ H Q) := ⟨EvD.run⟩
structure EvB (K : Fr) (tt : TT) (ρ : Env) (b : Bool) : Prop where
  run : ∀ {S0 H0 S H : Hp} {σ : St}, StOk K S0 H0 S H σ ρ → ∀ Q : Bool → Hp → Prop, (∀ S' H', Gr S H S' H' → Q b H') → tt σ H Q
instance {K : Fr} {tt : TT} {ρ : Env} {b : Bool} : CoeFun (EvB K tt ρ b) (fun _ => ∀ {S0 H0 S H : Hp} {σ : St}, StOk K S0 H0 S H σ ρ → ∀ Q : Bool → Hp → Prop, (∀ S' H', Gr S H S' H' → Q b H') → tt σ H Q) := ⟨EvB.run⟩
structure EvA (K : Fr) (ta : TA) (ρ : Env) (ds : List D) : Prop where
  run : ∀ {S0 H0 S H : Hp} {σ : St}, StOk K S0 H0 S H σ ρ → ∀ Q : List V → Hp → Prop, (∀ vs S' H', Gr S H S' H' → RpA K S' vs ds → Q vs H') → ta σ H Q
instance {K : Fr} {ta : TA} {ρ : Env} {ds : List D} : CoeFun (EvA K ta ρ ds) (fun _ => ∀ {S0 H0 S H : Hp} {σ : St}, StOk K S0 H0 S H σ ρ → ∀ Q : List V → Hp → Prop, (∀ vs S' H', Gr S H S' H' → RpA K S' vs ds → Q vs H') → ta σ H Q) := ⟨EvA.run⟩
structure EvP (K : Fr) (to : TO) (ρ : Env) (o : Option Int) : Prop where
  run : ∀ {S0 H0 S H : Hp} {σ : St}, StOk K S0 H0 S H σ ρ → ∀ Q : Option Int → Hp → Prop, (∀ S' H', Gr S H S' H' → Q o H') → to σ H Q
instance {K : Fr} {to : TO} {ρ : Env} {o : Option Int} : CoeFun (EvP K to ρ o) (fun _ => ∀ {S0 H0 S H : Hp} {σ : St}, StOk K S0 H0 S H σ ρ → ∀ Q : Option Int → Hp → Prop, (∀ S' H', Gr S H S' H' → Q o H') → to σ H Q) := ⟨EvP.run⟩
/-- a new list -/
structure EvN (K : Fr) (te : TE) (ρ : Env) (ds : List D) : Prop where
  run : ∀ {S0 H0 S H : Hp} {σ : St}, StOk K S0 H0 S H σ ρ → ∀ Q : VK, (∀ p vs S' H', Gr S H S' H' → S' p = none → H p = none → H' p = some (.lst vs) → RpA K S' vs ds → Q (.ref p) H') → te σ H Q
instance {K : Fr} {te : TE} {ρ : Env} {ds : List D} : CoeFun (EvN K te ρ ds) (fun _ => ∀ {S0 H0 S H : Hp} {σ : St}, StOk K S0 H0 S H σ ρ → ∀ Q : VK, (∀ p vs S' H', Gr S H S' H' → S' p = none → H p = none → H' p = some (.lst vs) → RpA K S' vs ds → Q (.ref p) H') → te σ H Q) := ⟨EvN.run⟩
/-- a new dict -/
structure EvM (K : Fr) (te : TE) (ρ : Env) (es : List (List Key × D)) : Prop where
  run : ∀ {S0 H0 S H : Hp} {σ : St}, StOk K S0 H0 S H σ ρ → ∀ Q : VK, (∀ p vs S' H', Gr S H S' H' → S' p = none → H p = none → H' p = some (.dT vs) → RpE K S' vs es → Q (.ref p) H') → te σ H Q
instance {K : Fr} {te : TE} {ρ : Env} {es : List (List Key × D)} : CoeFun (EvM K te ρ es) (fun _ => ∀ {S0 H0 S H : Hp} {σ : St}, StOk K S0 H0 S H σ ρ → ∀ Q : VK, (∀ p vs S' H', Gr S H S' H' → S' p = none → H p = none → H' p = some (.dT vs) → RpE K S' vs es → Q (.ref p) H') → te σ H Q) := ⟨EvM.run⟩
/-- operations on values -/
structure RvD (K : Fr) (r : R2) (d1 d2 d : D) : Prop where
  run : ∀ {S H : Hp} {v1 v2 : V}, Ex S H → Rp K S v1 d1 → Rp K S v2 d2 → ∀ Q : VK, (∀ v S' H', Gr S H S' H' → Rp K S' v d → Q v H') → r v1 v2 H Q
instance {K : Fr} {r : R2} {d1 d2 d : D} : CoeFun (RvD K r d1 d2 d) (fun _ => ∀ {S H : Hp} {v1 v2 : V}, Ex S H → Rp K S v1 d1 → Rp K S v2 d2 → ∀ Q : VK, (∀ v S' H', Gr S H S' H' → Rp K S' v d → Q v H') → r v1 v2 H Q) := ⟨RvD.run⟩
structure RuD (K : Fr) (r : V → Hp → VK → Prop) (d1 d : D) : Prop where
  run : ∀ {S H : Hp} {v1 : V}, Ex S H → Rp K S v1 d1 → ∀ Q : VK, (∀ v S' H', Gr S H S' H' → Rp K S' v d → Q v H') → r v1 H Q
instance {K : Fr} {r : V → Hp → VK → Prop} {d1 d : D} : CoeFun (RuD K r d1 d) (fun _ => ∀ {S H : Hp} {v1 : V}, Ex S H → Rp K S v1 d1 → ∀ Q : VK, (∀ v S' H', Gr S H S' H' → Rp K S' v d → Q v H') → r v1 H Q) := ⟨RuD.run⟩
structure RcD (K : Fr) (r : List V → Hp → VK → Prop) (ds : List D) (d : D) : Prop where
  run : ∀ {S H : Hp} {vs : List V}, Ex S H → RpA K S vs ds → ∀ Q : VK, (∀ v S' H', Gr S H S' H' → Rp K S' v d → Q v H') → r vs H Q
instance {K : Fr} {r : List V → Hp → VK → Prop} {ds : List D} {d : D} : CoeFun (RcD K r ds d) (fun _ => ∀ {S H : Hp} {vs : List V}, Ex S H → RpA K S vs ds → ∀ Q : VK, (∀ v S' H', Gr S H S' H' → Rp K S' v d → Q v H') → r vs H Q) := ⟨RcD.run⟩
structure RcN (K : Fr) (r : List V → Hp → VK → Prop) (ds : List D) (es : List D) : Prop where
  run : ∀ {S H : Hp} {vs : List V}, Ex S H → RpA K S vs ds → ∀ Q : VK, (∀ p ws S' H', Gr S H S' H' → S' p = none → H p = none → H' p = some (.lst ws) → RpA K S' ws es → Q (.ref p) H') → r vs H Q
instance {K : Fr} {r : List V → Hp → VK → Prop} {ds : List D} {es : List D} : CoeFun (RcN K r ds es) (fun _ => ∀ {S H : Hp} {vs : List V}, Ex S H → RpA K S vs ds → ∀ Q : VK, (∀ p ws S' H', Gr S H S' H' → S' p = none → H p = none → H' p = some (.lst ws) → RpA K S' ws es → Q (.ref p) H') → r vs H Q) := ⟨RcN.run⟩
structure RmD (K : Fr) (r : V → List V → Hp → VK → Prop) (d0 : D) (ds : List D) (d : D) : Prop where
  run : ∀ {S H : Hp} {v : V} {vs : List V}, Ex S H → Rp K S v d0 → RpA K S vs ds → ∀ Q : VK, (∀ v S' H', Gr S H S' H' → Rp K S' v d → Q v H') → r v vs H Q
instance {K : Fr} {r : V → List V → Hp → VK → Prop} {d0 : D} {ds : List D} {d : D} : CoeFun (RmD K r d0 ds d) (fun _ => ∀ {S H : Hp} {v : V} {vs : List V}, Ex S H → Rp K S v d0 → RpA K S vs ds → ∀ Q : VK, (∀ v S' H', Gr S H S' H' → Rp K S' v d → Q v H') → r v vs H Q) := ⟨RmD.run⟩
section
variable {K : Fr} {ρ : Env} {te ta tb : TE} {d d1 d2 : D}
theorem EvN.ev {ds : List D} (h : EvN K te ρ ds) : EvD K te ρ (.lst ds) := .mk fun k Q q =>
  h k Q fun p vs S' H' g hs hp hp' r => q _ _ _ (g.set hp hp' hs) (.lst upd_same (r.mono fun a u e => by rw [upd_ne (ne_of_none e hs)]; exact e))
theorem EvM.ev {es : List (List Key × D)} (h : EvM K te ρ es) : EvD K te ρ (.dct es) := .mk fun k Q q =>
  h k Q fun p vs S' H' g hs hp hp' r => q _ _ _ (g.set hp hp' hs) (.dct upd_same (r.mono fun a u e => by rw [upd_ne (ne_of_none e hs)]; exact e))
theorem RcN.ev {r : List V → Hp → VK → Prop} {ds es : List D} (h : RcN K r ds es) : RcD K r ds (.lst es) := .mk fun e ra Q q =>
  h e ra Q fun p vs S' H' g hs hp hp' r => q _ _ _ (g.set hp hp' hs) (.lst upd_same (r.mono fun a u e => by rw [upd_ne (ne_of_none e hs)]; exact e))
theorem EvD.is (h : EvD K te ρ d1) (e : d1 = d2) : EvD K te ρ d2 := e ▸ h
theorem EvB.is {tt : TT} {a b : Bool} (h : EvB K tt ρ a) (e : a = b) : EvB K tt ρ b := e ▸ h
theorem RvD.is {r : R2} {d d' : D} (h : RvD K r d1 d2 d) (e : d = d') : RvD K r d1 d2 d' := e ▸ h
theorem EvN.is {ds es : List D} (h : EvN K te ρ ds) (e : ds = es) : EvN K te ρ es := e ▸ h
theorem evd_var {i : Nat} (h : ρ[i]? = some (.im d)) : EvD K (tVar i) ρ d := .mk fun k Q q => by
  obtain ⟨v, a, r⟩ := k.at_ i _ h
  exact ⟨v, a, q v _ _ (Gr.refl k.ex) r⟩
theorem evd_c {v : V} (h : ∀ S, Rp K S v d) : EvD K (tC v) ρ d := .mk fun k Q q => q v _ _ (Gr.refl k.ex) (h _)
theorem evd_int {i : Int} : EvD K (tC (.int i)) ρ (.int i) := evd_c fun _ => .int i
theorem evd_bl {i : Bool} : EvD K (tC (.bl i)) ρ (.bl i) := evd_c fun _ => .bl i
theorem evd_str {i : Str} : EvD K (tC (.str i)) ρ (.str i) := evd_c fun _ => .str i
theorem evd_non : EvD K (tC .non) ρ .non := evd_c fun _ => .non
theorem evd_op {r : R2} (ha : EvD K ta ρ d1) (hb : EvD K tb ρ d2) (hr : RvD K r d1 d2 d) : EvD K (tOp r ta tb) ρ d := .mk fun k Q q =>
  ha k _ fun v1 S1 H1 g1 r1 => hb (k.grow g1) _ fun v2 S2 H2 g2 r2 => hr g2.sh (r1.mono g2.ss) r2 Q fun v S3 H3 g3 r3 => q v S3 H3 ((g1.trans g2).trans g3) r3
theorem evd_un {r : V → Hp → VK → Prop} (ha : EvD K ta ρ d1) (hr : RuD K r d1 d) : EvD K (tUn r ta) ρ d := .mk fun k Q q =>
  ha k _ fun v1 S1 H1 g1 r1 => hr g1.sh r1 Q fun v S3 H3 g3 r3 => q v S3 H3 (g1.trans g3) r3
theorem rv_i0 {g : Int → Int → V} {i j : Int} (h : ∀ S, Rp K S (g i j) d) : RvD K (rI0 g) (.int i) (.int j) d := .mk fun e r1 r2 Q q => by
  cases r1; cases r2
  exact ⟨i, j, rfl, rfl, q _ _ _ (Gr.refl e) (h _)⟩
theorem rv_i {C : Int → Int → Prop} {g : Int → Int → V} {i j : Int} (c : C i j) (h : ∀ S, Rp K S (g i j) d) : RvD K (rI C g) (.int i) (.int j) d := .mk fun e r1 r2 Q q => by
  cases r1; cases r2
  exact ⟨i, j, rfl, rfl, c, q _ _ _ (Gr.refl e) (h _)⟩
theorem rv_add {i j : Int} : RvD K (rI0 fun i j => .int (i + j)) (.int i) (.int j) (.int (i + j)) := rv_i0 fun _ => .int _
theorem rv_sub {i j : Int} : RvD K (rI0 fun i j => .int (i - j)) (.int i) (.int j) (.int (i - j)) := rv_i0 fun _ => .int _
theorem rv_mul {i j : Int} (c : CMul i j) : RvD K (rI CMul fun i j => .int (i * j)) (.int i) (.int j) (.int (i * j)) := rv_i c fun _ => .int _
theorem rv_fdiv {i j : Int} (c : CDiv i j) : RvD K (rI CDiv fun i j => .int (i / j)) (.int i) (.int j) (.int (i / j)) := rv_i c fun _ => .int _
theorem rv_mod {i j : Int} (c : 0 < j) : RvD K (rI (fun _ j => 0 < j) fun i j => .int (i % j)) (.int i) (.int j) (.int (i % j)) := rv_i (C := fun _ j => 0 < j) c fun _ => .int _
theorem rv_cmp {g : Int → Int → Bool} {i j : Int} : RvD K (rI0 fun i j => .bl (g i j)) (.int i) (.int j) (.bl (g i j)) := rv_i0 fun _ => .bl _
theorem ru_neg {i : Int} : RuD K (rU fun i => .int (-i)) (.int i) (.int (-i)) := .mk fun e r Q q => by
  cases r
  exact ⟨i, rfl, q _ _ _ (Gr.refl e) (.int _)⟩
/-- a scalar, as a value -/
def D.sc : D → Option V
  | .non => some .non
  | .bl b => some (.bl b)
  | .int i => some (.int i)
  | .str x => some (.str x)
  | _ => none
theorem Rp.sc {S : Hp} {v w : V} (r : Rp K S v d) (h : d.sc = some w) : v = w := by
  cases r <;> cases h <;> rfl
theorem rv_eq {x y : V} (h1 : d1.sc = some x) (h2 : d2.sc = some y) (hs : scal x y = true) : RvD K rEq d1 d2 (.bl (decide (x = y))) := .mk fun e r1 r2 Q q => by
  rw [r1.sc h1, r2.sc h2]
  exact ⟨hs, q _ _ _ (Gr.refl e) (.bl _)⟩
theorem rv_ne {x y : V} (h1 : d1.sc = some x) (h2 : d2.sc = some y) (hs : scal x y = true) : RvD K rNe d1 d2 (.bl (!decide (x = y))) := .mk fun e r1 r2 Q q => by
  rw [r1.sc h1, r2.sc h2]
  exact ⟨hs, q _ _ _ (Gr.refl e) (.bl _)⟩
theorem rv_eqI {i j : Int} : RvD K rEq (.int i) (.int j) (.bl (decide (i = j))) := RvD.is (rv_eq (K := K) (d1 := .int i) (d2 := .int j) rfl rfl rfl) (by simp)
theorem rv_neI {i j : Int} : RvD K rNe (.int i) (.int j) (.bl (!decide (i = j))) := RvD.is (rv_ne (K := K) (d1 := .int i) (d2 := .int j) rfl rfl rfl) (by simp)
theorem rv_eqS {i j : Str} : RvD K rEq (.str i) (.str j) (.bl (decide (i = j))) := RvD.is (rv_eq (K := K) (d1 := .str i) (d2 := .str j) rfl rfl rfl) (by simp)
theorem rv_neS {i j : Str} : RvD K rNe (.str i) (.str j) (.bl (!decide (i = j))) := RvD.is (rv_ne (K := K) (d1 := .str i) (d2 := .str j) rfl rfl rfl) (by simp)
/-! ### data as the library's -/
mutual
def D.py : D → PyData
  | .non => .none
  | .bl b => .bool b
  | .int i => .int i
  | .str x => .str x
  | .lst ds => .list (D.pyA ds)
  | .tup ds => .tuple (D.pyA ds)
  | .frz ds => .list (D.pyA ds)
  | .obj _ _ => .none
  | .dct _ => .none
  | .dcl _ => .none
  | .ftu ds => .tuple (D.pyA ds)
def D.pyA : List D → List PyData
  | [] => []
  | d :: ds => D.py d :: D.pyA ds
end
mutual
def D.plain : D → Bool
  | .lst ds => D.plainA ds
  | .tup ds => D.plainA ds
  | .frz ds => D.plainA ds
  | .obj _ _ => false
  | .dct _ => false
  | .dcl _ => false
  | .ftu ds => D.plainA ds
  | _ => true
def D.plainA : List D → Bool
  | [] => true
  | d :: ds => D.plain d && D.plainA ds
end
theorem pyA_map : ∀ ds : List D, D.pyA ds = ds.map D.py
  | [] => by rw [D.pyA]; rfl
  | d :: ds => by rw [D.pyA, pyA_map ds]; rfl
theorem plainA_all : ∀ ds : List D, D.plainA ds = ds.all D.plain
  | [] => by rw [D.plainA]; rfl
  | d :: ds => by rw [D.plainA, plainA_all ds]; rfl
theorem Rp.dp {S : Hp} {v : V} {d : D} (h : Rp K S v d) : d.plain = true → Dp K S v d.py :=
  Rp.rec (K := K) (S := S) (motive_1 := fun v d _ => d.plain = true → Dp K S v d.py) (motive_2 := fun v d _ => D.plainA d = true → DpAll K S v (D.pyA d)) (motive_3 := fun v d _ => True) (motive_4 := fun v d _ => True)
    (fun _ => by rw [D.py]; exact .non) (fun b _ => by rw [D.py]; exact .bl b) (fun b _ => by rw [D.py]; exact .int b) (fun b _ => by rw [D.py]; exact .str b)
    (fun h _ r p => by rw [D.py]; rw [D.plain] at p; exact .lst (Or.inl (Or.inl h)) (r p)) (fun h _ r p => by rw [D.py]; rw [D.plain] at p; exact .tup (Or.inl (Or.inl h)) (r p)) (fun h _ r p => by rw [D.py]; rw [D.plain] at p; exact .lst h (r p))
    (fun _ _ _ p => by rw [D.plain] at p; cases p) (fun _ _ _ p => by rw [D.plain] at p; cases p) (fun _ _ _ p => by rw [D.plain] at p; cases p) (fun h _ _ r p => by rw [D.py]; rw [D.plain] at p; exact .tup (Or.inl (Or.inr ⟨_, h⟩)) (r p))
    (fun _ => by rw [D.pyA]; exact .nil) (fun _ _ a b p => by rw [D.pyA]; rw [D.plainA, Bool.and_eq_true] at p; exact .cons (a p.1) (b p.2)) trivial (fun _ _ _ _ => trivial) trivial (fun _ _ _ _ => trivial) h
def D.shp (d : D) : Bool := d.plain && SeqAt.shaped d.py
theorem rv_eqD {b : Bool} (h1 : d1.shp = true) (h2 : d2.shp = true) (h : PyData.eqv d1.py d2.py = b) : RvD K (rEqD K) d1 d2 (.bl b) := .mk fun e r1 r2 Q q => by
  rw [D.shp, Bool.and_eq_true] at h1 h2
  exact ⟨_, _, (r1.mono e).dp h1.1, (r2.mono e).dp h2.1, h1.2, h2.2, by rw [h]; exact q _ _ _ (Gr.refl e) (.bl _)⟩
theorem rv_neD {b : Bool} (h1 : d1.shp = true) (h2 : d2.shp = true) (h : (!PyData.eqv d1.py d2.py) = b) : RvD K (rNeD K) d1 d2 (.bl b) := .mk fun e r1 r2 Q q => by
  rw [D.shp, Bool.and_eq_true] at h1 h2
  exact ⟨_, _, (r1.mono e).dp h1.1, (r2.mono e).dp h2.1, h1.2, h2.2, by rw [h]; exact q _ _ _ (Gr.refl e) (.bl _)⟩
theorem rv_inD {ds : List D} {b : Bool} (h1 : d1.shp = true) (h2 : (D.lst ds).shp = true) (h : ((D.pyA ds).any fun z => PyData.eqv z d1.py) = b) : RvD K (rInD K) d1 (.lst ds) (.bl b) := .mk fun e r1 r2 Q q => by
  rw [D.shp, Bool.and_eq_true] at h1 h2
  have r := (r2.mono e).dp h2.1
  rw [D.py] at r
  have s := h2.2
  rw [D.py] at s
  exact ⟨_, _, (r1.mono e).dp h1.1, r, h1.2, s, by rw [h]; exact q _ _ _ (Gr.refl e) (.bl _)⟩
theorem rv_notInD {ds : List D} {b : Bool} (h1 : d1.shp = true) (h2 : (D.lst ds).shp = true) (h : (!(D.pyA ds).any fun z => PyData.eqv z d1.py) = b) : RvD K (rNotInD K) d1 (.lst ds) (.bl b) := .mk fun e r1 r2 Q q => by
  rw [D.shp, Bool.and_eq_true] at h1 h2
  have r := (r2.mono e).dp h2.1
  rw [D.py] at r
  have s := h2.2
  rw [D.py] at s
  exact ⟨_, _, (r1.mono e).dp h1.1, r, h1.2, s, by rw [h]; exact q _ _ _ (Gr.refl e) (.bl _)⟩
/-- an int in a list or tuple of ints -/
theorem inV_ints (i : Int) (ns : List Int) : inV (.int i) (ns.map V.int) = decide (i ∈ ns) := by
  induction ns with
  | nil => rfl
  | cons n ns ih =>
    show ((n == i) || inV (.int i) (ns.map V.int)) = _
    rw [ih]
    by_cases h : i = n
    · subst h; simp
    · have : ¬ n = i := fun e => h e.symm
      simp [h, this]
theorem flat_ints (ns : List Int) : (ns.map V.int).all flatV = true := by
  rw [List.all_eq_true]
  intro x hx
  obtain ⟨n, _, rfl⟩ := List.mem_map.mp hx
  rfl
theorem rv_inT {i : Int} {ns : List Int} : RvD K (rIn K false) (.int i) (.tup (ns.map D.int)) (.bl (decide (i ∈ ns))) := .mk fun e r1 r2 Q q => by
  cases r1
  cases r2 with
  | tup h r =>
    rw [r.ints] at h
    exact ⟨_, _, rfl, Or.inr (Or.inl (Or.inl (e _ _ h))), rfl, flat_ints _, by rw [if_neg Bool.false_ne_true, inV_ints]; exact q _ _ _ (Gr.refl e) (.bl _)⟩
theorem rv_inL {i : Int} {ns : List Int} : RvD K (rIn K false) (.int i) (.lst (ns.map D.int)) (.bl (decide (i ∈ ns))) := .mk fun e r1 r2 Q q => by
  cases r1
  cases r2 with
  | lst h r =>
    rw [r.ints] at h
    exact ⟨_, _, rfl, Or.inl (Or.inl (Or.inl (e _ _ h))), rfl, flat_ints _, by rw [if_neg Bool.false_ne_true, inV_ints]; exact q _ _ _ (Gr.refl e) (.bl _)⟩
theorem rv_notInT {i : Int} {ns : List Int} : RvD K (rIn K true) (.int i) (.tup (ns.map D.int)) (.bl (!decide (i ∈ ns))) := .mk fun e r1 r2 Q q => by
  cases r1
  cases r2 with
  | tup h r =>
    rw [r.ints] at h
    exact ⟨_, _, rfl, Or.inr (Or.inl (Or.inl (e _ _ h))), rfl, flat_ints _, by rw [if_pos rfl, inV_ints]; exact q _ _ _ (Gr.refl e) (.bl _)⟩
theorem rv_notInL {i : Int} {ns : List Int} : RvD K (rIn K true) (.int i) (.lst (ns.map D.int)) (.bl (!decide (i ∈ ns))) := .mk fun e r1 r2 Q q => by
  cases r1
  cases r2 with
  | lst h r =>
    rw [r.ints] at h
    exact ⟨_, _, rfl, Or.inl (Or.inl (Or.inl (e _ _ h))), rfl, flat_ints _, by rw [if_pos rfl, inV_ints]; exact q _ _ _ (Gr.refl e) (.bl _)⟩
/-! ### subscripts, slices -/
theorem atI_rel {S : Hp} {xs : List V} {ds : List D} {i : Int} (r : RpA K S xs ds) (h : atI ds i = some d) : ∃ v, atI xs i = some v ∧ Rp K S v d := by
  unfold atI at h ⊢
  rw [r.length]
  cases hj : ixN ds.length i with
  | none => rw [hj] at h; cases h
  | some j =>
    rw [hj] at h
    obtain ⟨v, a, b⟩ := r.get h
    exact ⟨v, a, b⟩
theorem rv_ixL {ds : List D} {i : Int} (h : atI ds i = some d) : RvD K (rIxL K) (.lst ds) (.int i) d := .mk fun e r1 r2 Q q => by
  cases r2
  cases r1 with
  | lst hs r =>
    obtain ⟨v, a, b⟩ := atI_rel r h
    exact ⟨_, _, i, v, rfl, rfl, SqL.of (e _ _ hs), a, q _ _ _ (Gr.refl e) b⟩
theorem rv_ixF {ds : List D} {i : Int} (h : atI ds i = some d) : RvD K (rIxL K) (.frz ds) (.int i) d := .mk fun e r1 r2 Q q => by
  cases r2
  cases r1 with
  | frz hs r =>
    obtain ⟨v, a, b⟩ := atI_rel r h
    exact ⟨_, _, i, v, rfl, rfl, sql_ex e hs, a, q _ _ _ (Gr.refl e) b⟩
theorem rv_ixT {ds : List D} {i : Int} (h : atI ds i = some d) : RvD K (rIxT K) (.tup ds) (.int i) d := .mk fun e r1 r2 Q q => by
  cases r2
  cases r1 with
  | tup hs r =>
    obtain ⟨v, a, b⟩ := atI_rel r h
    exact ⟨_, _, i, v, rfl, rfl, SqT.of (e _ _ hs), a, q _ _ _ (Gr.refl e) b⟩
/-- a list or a tuple -/
def D.sq (b : Bool) (ds : List D) : D := if b = true then .tup ds else .lst ds
theorem rv_ixA {b : Bool} {ds : List D} {i : Int} (h : atI ds i = some d) : RvD K (rIx K) (D.sq b ds) (.int i) d := by
  cases b with
  | true => exact .mk fun e r1 r2 Q q => Or.inr (Or.inl (rv_ixT h e r1 r2 Q q))
  | false => exact .mk fun e r1 r2 Q q => Or.inl (rv_ixL h e r1 r2 Q q)
def cutA {α : Type} (xs : List α) (lo hi : Option Int) : List α := (xs.drop (HT.sIx xs.length 0 lo)).take (HT.sIx xs.length xs.length hi - HT.sIx xs.length 0 lo)
theorem cut_rel {S : Hp} {xs : List V} {ds : List D} (r : RpA K S xs ds) (lo hi : Option Int) : RpA K S (cutV xs lo hi) (cutA ds lo hi) := by
  unfold cutV cutA
  rw [r.length]
  exact (r.drop _).take _
theorem cutA_map {α β : Type} (f : α → β) (xs : List α) (lo hi : Option Int) : cutA (xs.map f) lo hi = (cutA xs lo hi).map f := by
  unfold cutA
  rw [List.length_map, List.map_take, List.map_drop]
theorem evp_none : EvP K tNoPart ρ none := .mk fun k Q q => q _ _ (Gr.refl k.ex)
theorem evp_some {i : Int} (h : EvD K te ρ (.int i)) : EvP K (tPart te) ρ (some i) := .mk fun k Q q => h k _ fun v S' H' g r => by
  cases r
  exact ⟨i, rfl, q _ _ g⟩
theorem evn_slL {tl th : TO} {ds : List D} {lo hi : Option Int} (he : EvD K te ρ (.lst ds)) (hl : EvP K tl ρ lo) (hh : EvP K th ρ hi) : EvN K (tSl (rSlL K) te tl th) ρ (cutA ds lo hi) := .mk fun k Q q =>
  he k _ fun v S1 H1 g1 r1 => hl (k.grow g1) _ fun S2 H2 g2 => hh ((k.grow g1).grow g2) _ fun S3 H3 g3 => by
    have r := r1.mono (g2.trans g3).ss
    cases r with
    | lst hs ra =>
      refine ⟨_, _, rfl, SqL.of (g3.sh _ _ hs), fun p hp => ?_⟩
      have hS := g3.sh.none hp
      exact q p _ S3 _ (((g1.trans g2).trans g3).trans (Gr.lay g3.sh hp)) hS ((g1.trans g2).trans g3 |>.hh.none hp) upd_same (cut_rel ra lo hi)
theorem cut_whole {α : Type} (ds : List α) (lo hi : Option Int) (h : HT.sIx ds.length 0 lo = 0 ∧ HT.sIx ds.length ds.length hi = ds.length) : cutA ds lo hi = ds := by
  unfold cutA
  rw [h.1, h.2, List.drop_zero, Nat.sub_zero, List.take_length]
theorem evd_slT {tl th : TO} {ds : List D} {lo hi : Option Int} (he : EvD K te ρ (.tup ds)) (hl : EvP K tl ρ lo) (hh : EvP K th ρ hi) : EvD K (tSl (rSlA K) te tl th) ρ (.tup (cutA ds lo hi)) := .mk fun k Q q =>
  he k _ fun v S1 H1 g1 r1 => hl (k.grow g1) _ fun S2 H2 g2 => hh ((k.grow g1).grow g2) _ fun S3 H3 g3 => by
    have r := r1.mono (g2.trans g3).ss
    cases r with
    | tup hs ra =>
      refine ⟨_, _, rfl, SqT.of (g3.sh _ _ hs), fun w => ?_, fun _ p hp => ?_⟩
      · rw [ra.length] at w
        exact q _ S3 _ ((g1.trans g2).trans g3) (by rw [cut_whole _ _ _ w]; exact .tup hs ra)
      · exact q _ _ _ (((g1.trans g2).trans g3).trans (Gr.add g3.sh hp)) (.tup upd_same ((cut_rel ra lo hi).mono (Gr.add g3.sh hp).ss))
theorem rv_catT {ds es : List D} (hz : ds.length + es.length ≤ sizeLine) : RvD K (rCatA K) (.tup ds) (.tup es) (.tup (ds ++ es)) := .mk fun e r1 r2 Q q => by
  cases r1 with
  | tup h1 a1 =>
    cases r2 with
    | tup h2 a2 =>
      refine ⟨_, _, _, _, rfl, rfl, SqT.of (e _ _ h1), SqT.of (e _ _ h2), by rw [a1.length, a2.length]; exact hz, fun z => ?_, fun _ z => ?_, fun _ _ p hp => ?_⟩
      · subst z
        cases a1
        exact q _ _ _ (Gr.refl e) (.tup h2 a2)
      · subst z
        cases a2
        rw [List.append_nil] at q
        exact q _ _ _ (Gr.refl e) (.tup h1 a1)
      · exact q _ _ _ (Gr.add e hp) (.tup upd_same ((a1.append a2).mono (Gr.add e hp).ss))
theorem evn_cat {ds es : List D} (ha : EvD K ta ρ (.lst ds)) (hb : EvD K tb ρ (.lst es)) (hz : ds.length + es.length ≤ sizeLine) : EvN K (tOp rCat ta tb) ρ (ds ++ es) := .mk fun k Q q =>
  ha k _ fun v1 S1 H1 g1 r1 => hb (k.grow g1) _ fun v2 S2 H2 g2 r2 => by
    have r := r1.mono g2.ss
    cases r with
    | lst h1 a1 =>
      cases r2 with
      | lst h2 a2 =>
        refine ⟨_, _, _, _, rfl, rfl, g2.sh _ _ h1, g2.sh _ _ h2, by rw [a1.length, a2.length]; exact hz, fun p hp => ?_⟩
        exact q p _ S2 _ ((g1.trans g2).trans (Gr.lay g2.sh hp)) (g2.sh.none hp) ((g1.trans g2).hh.none hp) upd_same (a1.append a2)
/-! ### displays, argument lists, calls -/
theorem eva_nil : EvA K tNil ρ [] := .mk fun k Q q => q [] _ _ (Gr.refl k.ex) .nil
theorem eva_cons {tr : TA} {ds : List D} (h : EvD K te ρ d) (hr : EvA K tr ρ ds) : EvA K (tCons te tr) ρ (d :: ds) := .mk fun k Q q =>
  h k _ fun v S1 H1 g1 r1 => hr (k.grow g1) _ fun vs S2 H2 g2 r2 => q _ _ _ (g1.trans g2) (.cons (r1.mono g2.ss) r2)
theorem evd_tup {t : TA} {ds : List D} (h : EvA K t ρ ds) (hz : ds.length ≤ sizeLine) : EvD K (tTup t) ρ (.tup ds) := .mk fun k Q q =>
  h k _ fun vs S1 H1 g1 r1 => ⟨by rw [r1.length]; exact hz, fun p hp => q _ _ _ (g1.trans (Gr.add g1.sh hp)) (.tup upd_same (r1.mono (Gr.add g1.sh hp).ss))⟩
theorem evn_lst {t : TA} {ds : List D} (h : EvA K t ρ ds) (hz : ds.length ≤ sizeLine) : EvN K (tLst t) ρ ds := .mk fun k Q q =>
  h k _ fun vs S1 H1 g1 r1 => ⟨by rw [r1.length]; exact hz, fun p hp => q p _ _ _ (g1.trans (Gr.lay g1.sh hp)) (g1.sh.none hp) (g1.hh.none hp) upd_same r1⟩
theorem evm_new : EvM K tDNewT ρ [] := .mk fun k Q q p hp => q p _ _ _ (Gr.lay k.ex hp) (k.ex.none hp) hp upd_same .nil
theorem evd_cb {t : TA} {ds : List D} {r : List V → Hp → VK → Prop} (h : EvA K t ρ ds) (hr : RcD K r ds d) : EvD K (tCB r t) ρ d := .mk fun k Q q =>
  h k _ fun vs S1 H1 g1 r1 => hr g1.sh r1 Q fun v S2 H2 g2 r2 => q _ _ _ (g1.trans g2) r2
theorem evn_cb {t : TA} {ds es : List D} {r : List V → Hp → VK → Prop} (h : EvA K t ρ ds) (hr : RcN K r ds es) : EvN K (tCB r t) ρ es := .mk fun k Q q =>
  h k _ fun vs S1 H1 g1 r1 => hr g1.sh r1 Q fun p ws S2 H2 g2 a b c r2 => q _ _ _ _ (g1.trans g2) a (g1.hh.none b) c r2
/-- the promise by data: rel tells the arguments and the answer -/
def spD (K : Fr) (rel : List D → D → Prop) : Sp := fun vs H Q _ => ∃ S ds d, Ex S H ∧ RpA K S vs ds ∧ rel ds d ∧ ∀ v S' H', Gr S H S' H' → Rp K S' v d → Q v H'
theorem evd_call {t : TA} {ds : List D} {rel : List D → D → Prop} {E : XK} (h : EvA K t ρ ds) (hr : rel ds d) : EvD K (tCall (spD K rel) [] E t) ρ d := .mk fun k Q q =>
  h k _ fun vs S1 H1 g1 r1 => ⟨S1, ds, d, g1.sh, by rw [List.append_nil]; exact r1, hr, fun v S2 H2 g2 r2 => q _ _ _ (g1.trans g2) r2⟩
/-! ### tests -/
theorem evb_test {b : Bool} (h : EvD K te ρ (.bl b)) : EvB K (tTest te) ρ b := .mk fun k Q q => h k _ fun v S' H' g r => by
  cases r
  exact ⟨b, rfl, q _ _ g⟩
theorem evb_B {b : Bool} (h : EvD K te ρ (.bl b)) : EvB K (tB te) ρ b := .mk fun k Q q => h k _ fun v S' H' g r => by
  cases r
  exact ⟨b, rfl, q _ _ g⟩
theorem evb_yes : EvB K tYes ρ true := .mk fun k Q q => q _ _ (Gr.refl k.ex)
theorem evb_not {t : TT} {b : Bool} (h : EvB K t ρ b) : EvB K (tNot t) ρ (!b) := .mk fun k Q q => h k _ fun S' H' g => q _ _ g
theorem evb_and {t u : TT} {a b : Bool} (h1 : EvB K t ρ a) (h2 : a = true → EvB K u ρ b) : EvB K (tAnd t u) ρ (a && b) := .mk fun k Q q => h1 k _ fun S1 H1 g1 => by
  cases a with
  | true => exact h2 rfl (k.grow g1) Q fun S2 H2 g2 => q _ _ (g1.trans g2)
  | false => exact q _ _ g1
theorem evb_or {t u : TT} {a b : Bool} (h1 : EvB K t ρ a) (h2 : a = false → EvB K u ρ b) : EvB K (tOr t u) ρ (a || b) := .mk fun k Q q => h1 k _ fun S1 H1 g1 => by
  cases a with
  | true => exact q _ _ g1
  | false => exact h2 rfl (k.grow g1) Q fun S2 H2 g2 => q _ _ (g1.trans g2)
theorem evd_andV {a b : Bool} (h1 : EvD K ta ρ (.bl a)) (h2 : a = true → EvD K tb ρ (.bl b)) : EvD K (tAndV ta tb) ρ (.bl (a && b)) := .mk fun k Q q => h1 k _ fun v S1 H1 g1 r => by
  cases r
  refine ⟨a, rfl, ?_⟩
  cases a with
  | true => exact h2 rfl (k.grow g1) Q fun v S2 H2 g2 r2 => q _ _ _ (g1.trans g2) r2
  | false => exact q _ _ _ g1 (.bl _)
theorem evd_orV {a b : Bool} (h1 : EvD K ta ρ (.bl a)) (h2 : a = false → EvD K tb ρ (.bl b)) : EvD K (tOrV ta tb) ρ (.bl (a || b)) := .mk fun k Q q => h1 k _ fun v S1 H1 g1 r => by
  cases r
  refine ⟨a, rfl, ?_⟩
  cases a with
  | true => exact q _ _ _ g1 (.bl _)
  | false => exact h2 rfl (k.grow g1) Q fun v S2 H2 g2 r2 => q _ _ _ (g1.trans g2) r2
theorem evd_notV {a : Bool} (h1 : EvD K ta ρ (.bl a)) : EvD K (tNotV ta) ρ (.bl (!a)) := .mk fun k Q q => h1 k _ fun v S1 H1 g1 r => by
  cases r
  exact ⟨a, rfl, q _ _ _ g1 (.bl _)⟩
theorem evd_if {t : TT} {b : Bool} (h : EvB K t ρ b) (h1 : b = true → EvD K ta ρ d) (h2 : b = false → EvD K tb ρ d) : EvD K (tIf t ta tb) ρ d := .mk fun k Q q => h k _ fun S1 H1 g1 => by
  cases b with
  | true => exact h1 rfl (k.grow g1) Q fun v S2 H2 g2 r2 => q _ _ _ (g1.trans g2) r2
  | false => exact h2 rfl (k.grow g1) Q fun v S2 H2 g2 r2 => q _ _ _ (g1.trans g2) r2
theorem evd_chain {r r' : R2} {tc : TE} {d3 : D} {a b : Bool} (ha : EvD K ta ρ d1) (hb : EvD K tb ρ d2) (hr : RvD K r d1 d2 (.bl a)) (hc : a = true → EvD K tc ρ d3) (hr' : a = true → RvD K r' d2 d3 (.bl b)) : EvD K (tChain r r' ta tb tc) ρ (.bl (a && b)) := .mk fun k Q q =>
  ha k _ fun v1 S1 H1 g1 r1 => hb (k.grow g1) _ fun v2 S2 H2 g2 r2 => hr g2.sh (r1.mono g2.ss) r2 _ fun v S3 H3 g3 r3 => by
    cases r3
    refine ⟨a, rfl, ?_⟩
    cases a with
    | true => exact hc rfl (((k.grow g1).grow g2).grow g3) _ fun v4 S4 H4 g4 r4 => hr' rfl g4.sh (r2.mono (g3.trans g4).ss) r4 Q fun v5 S5 H5 g5 r5 => q _ _ _ ((((g1.trans g2).trans g3).trans g4).trans g5) r5
    | false => exact q _ _ _ ((g1.trans g2).trans g3) (.bl _)
/-! ### built-ins -/
abbrev rLenS (K : Fr) : List V → Hp → VK → Prop := fun xs H Q => ∃ p ys, xs = [.ref p] ∧ (SqL K H p ys ∨ SqT K H p ys) ∧ Q (.int ys.length) H
theorem rc_lenL {ds : List D} : RcD K (rLenS K) [.lst ds] (.int ds.length) := .mk fun e r Q q => by
  cases r with
  | cons a b =>
    cases b
    cases a with
    | lst h r => exact ⟨_, _, rfl, Or.inl (SqL.of (e _ _ h)), by rw [r.length]; exact q _ _ _ (Gr.refl e) (.int _)⟩
theorem rc_lenF {ds : List D} : RcD K (rLenS K) [.frz ds] (.int ds.length) := .mk fun e r Q q => by
  cases r with
  | cons a b =>
    cases b
    cases a with
    | frz h r => exact ⟨_, _, rfl, Or.inl (sql_ex e h), by rw [r.length]; exact q _ _ _ (Gr.refl e) (.int _)⟩
theorem rc_lenT {ds : List D} : RcD K (rLenS K) [.tup ds] (.int ds.length) := .mk fun e r Q q => by
  cases r with
  | cons a b =>
    cases b
    cases a with
    | tup h r => exact ⟨_, _, rfl, Or.inr (SqT.of (e _ _ h)), by rw [r.length]; exact q _ _ _ (Gr.refl e) (.int _)⟩
theorem rc_lenA {b : Bool} {ds : List D} : RcD K (rLenS K) [D.sq b ds] (.int ds.length) := by
  cases b with
  | true => exact rc_lenT
  | false => exact rc_lenL
abbrev rListOf (K : Fr) : List V → Hp → VK → Prop := fun xs H Q => ∃ p ys, xs = [.ref p] ∧ (SqL K H p ys ∨ SqT K H p ys) ∧ ∀ l, H l = none → Q (.ref l) (upd H l (.lst ys))
theorem rn_listL {ds : List D} : RcN K (rListOf K) [.lst ds] ds := .mk fun e r Q q => by
  cases r with
  | cons a b =>
    cases b
    cases a with
    | lst h r => exact ⟨_, _, rfl, Or.inl (SqL.of (e _ _ h)), fun p hp => q p _ _ _ (Gr.lay e hp) (e.none hp) hp upd_same r⟩
theorem rn_listT {ds : List D} : RcN K (rListOf K) [.tup ds] ds := .mk fun e r Q q => by
  cases r with
  | cons a b =>
    cases b
    cases a with
    | tup h r => exact ⟨_, _, rfl, Or.inr (SqT.of (e _ _ h)), fun p hp => q p _ _ _ (Gr.lay e hp) (e.none hp) hp upd_same r⟩
theorem rn_listA {b : Bool} {ds : List D} : RcN K (rListOf K) [D.sq b ds] ds := by
  cases b with
  | true => exact rn_listT
  | false => exact rn_listL
/-- tuple(x): pe_tupleOf's reading -/
theorem evd_tupL {ds : List D} (h : EvD K te ρ (.lst ds)) : EvD K (tThen te (kTup K)) ρ (.tup ds) := .mk fun k Q q => h k _ fun v S1 H1 g1 r => by
  cases r with
  | lst h r => exact Or.inl ⟨_, _, rfl, SqL.of (g1.sh _ _ h), fun p hp => q _ _ _ (g1.trans (Gr.add g1.sh hp)) (.tup upd_same (r.mono (Gr.add g1.sh hp).ss))⟩
theorem evd_tupT {ds : List D} (h : EvD K te ρ (.tup ds)) : EvD K (tThen te (kTup K)) ρ (.tup ds) := .mk fun k Q q => h k _ fun v S1 H1 g1 r => by
  cases r with
  | tup h r => exact Or.inr ⟨_, _, rfl, SqT.of (g1.sh _ _ h), q _ _ _ g1 (.tup h r)⟩
theorem rc_abs {i : Int} : RcD K (fun xs H Q => ∃ i, xs = [V.int i] ∧ Q (.int (if i < 0 then -i else i)) H) [.int i] (.int (if i < 0 then -i else i)) := .mk fun e r Q q => by
  cases r with
  | cons a b =>
    cases b
    cases a
    exact ⟨i, rfl, q _ _ _ (Gr.refl e) (.int _)⟩
theorem rc_sum {ns : List Int} : RcD K (rSum K) [.lst (ns.map D.int)] (.int ns.sum) := .mk fun e r Q q => by
  cases r with
  | cons a b =>
    cases b
    cases a with
    | lst h r =>
      rw [r.ints] at h
      exact ⟨_, ns, rfl, SqL.of (e _ _ h), q _ _ _ (Gr.refl e) (.int _)⟩
theorem rc_min {ns : List Int} {m : Int} (hm : m ∈ ns) (hl : ∀ y ∈ ns, m ≤ y) : RcD K (rMin K) [.lst (ns.map D.int)] (.int m) := .mk fun e r Q q => by
  cases r with
  | cons a b =>
    cases b
    cases a with
    | lst h r =>
      rw [r.ints] at h
      refine ⟨_, ns, rfl, SqL.of (e _ _ h), List.length_pos_of_mem hm, fun m' h1 h2 => ?_⟩
      have : m' = m := Int.le_antisymm (h2 _ hm) (hl _ h1)
      subst this
      exact q _ _ _ (Gr.refl e) (.int _)
theorem rc_int {i : Int} : RcD K (fun xs H Q => (∃ i, xs = [V.int i] ∧ Q (.int i) H) ∨ ∃ k, xs = [V.bl k] ∧ Q (.int (if k then 1 else 0)) H) [.int i] (.int i) := .mk fun e r Q q => by
  cases r with
  | cons a b =>
    cases b
    cases a
    exact Or.inl ⟨i, rfl, q _ _ _ (Gr.refl e) (.int _)⟩
/-- range as an argument -/
structure EvR (K : Fr) (te : St → Hp → (Int → Int → Hp → Prop) → Prop) (ρ : Env) (a b : Int) : Prop where
  run : ∀ {S0 H0 S H : Hp} {σ : St}, StOk K S0 H0 S H σ ρ → ∀ Q : Int → Int → Hp → Prop, (∀ S' H', Gr S H S' H' → Q a b H') → te σ H Q
instance {K : Fr} {te : St → Hp → (Int → Int → Hp → Prop) → Prop} {ρ : Env} {a b : Int} : CoeFun (EvR K te ρ a b) (fun _ => ∀ {S0 H0 S H : Hp} {σ : St}, StOk K S0 H0 S H σ ρ → ∀ Q : Int → Int → Hp → Prop, (∀ S' H', Gr S H S' H' → Q a b H') → te σ H Q) := ⟨EvR.run⟩
theorem evr_1 {n : Int} (h : EvD K te ρ (.int n)) : EvR K (tRg1 te) ρ 0 n := .mk fun k Q q => h k _ fun v S1 H1 g1 r => by
  cases r
  exact ⟨n, rfl, q _ _ g1⟩
theorem evr_2 {m n : Int} (ha : EvD K ta ρ (.int m)) (hb : EvD K tb ρ (.int n)) : EvR K (tRg2 ta tb) ρ m n := .mk fun k Q q => ha k _ fun v S1 H1 g1 r => hb (k.grow g1) _ fun v2 S2 H2 g2 r2 => by
  cases r
  cases r2
  exact ⟨m, n, rfl, rfl, q _ _ (g1.trans g2)⟩
/-- a .. b - 1 -/
def rgI (a b : Int) : List Int := (List.range (b - a).toNat).map fun i => a + (i : Nat)
theorem rgV_ints (a b : Int) : rgV a b = (rgI a b).map V.int := by
  unfold rgV rgI
  rw [List.map_map]
  rfl
theorem evn_listRg {t : St → Hp → (Int → Int → Hp → Prop) → Prop} {a b : Int} (h : EvR K t ρ a b) (ok : RgOk a b) : EvN K (tLstRg t) ρ ((rgI a b).map D.int) := .mk fun k Q q => h k _ fun S1 H1 g1 =>
  ⟨ok, fun p hp => q p _ _ _ (g1.trans (Gr.lay g1.sh hp)) (g1.sh.none hp) (g1.hh.none hp) upd_same (by rw [rgV_ints]; exact RpA.of_ints _)⟩
theorem evd_tupRg {t : St → Hp → (Int → Int → Hp → Prop) → Prop} {a b : Int} (h : EvR K t ρ a b) (ok : RgOk a b) : EvD K (tTupRg t) ρ (.tup ((rgI a b).map D.int)) := .mk fun k Q q => h k _ fun S1 H1 g1 =>
  ⟨ok, fun p hp => q _ _ _ (g1.trans (Gr.add g1.sh hp)) (.tup upd_same (by rw [rgV_ints]; exact RpA.of_ints _))⟩
/-! ### fields -/
theorem evd_fld {C : Addr} {fs : List (Str × D)} {f : Str} (h : EvD K te ρ (.obj C fs)) (cl : Cls K C) (na : NoAttr K C f) (hl : fs.lookup f = some d) : EvD K (tFld K te f) ρ d := .mk fun k Q q => h k _ fun v S1 H1 g1 r => by
  cases r with
  | obj hs rf =>
    obtain ⟨v, a, b⟩ := rf.lookup hl
    exact ⟨_, C, _, _, v, rfl, g1.sh _ _ hs, cl, na, a, q _ _ _ g1 b⟩
end
end DL

set_option Elab.async false
set_option linter.all false
set_option maxRecDepth 100000
set_option maxHeartbeats 2000000
/-! DL3: targets, what is walked, comprehensions, statements. -/
namespace DL
open PySem L2
/-! ### targets -/
structure GdD (K : Fr) (g : TG) (x : D) (ρ ρ' : Env) (vs : List Nat) : Prop where
  run : ∀ {S0 H0 S H : Hp} {σ : St} {v : V}, StOk K S0 H0 S H σ ρ → Rp K S v x → ∀ Q : St → Hp → Prop, (∀ σ' : St, StOk K S0 H0 S H σ' ρ' → (∀ i : Nat, i ∉ vs → σ'[i]? = σ[i]?) → σ'.length = σ.length → Q σ' H) → g v σ H Q
instance {K : Fr} {g : TG} {x : D} {ρ ρ' : Env} {vs : List Nat} : CoeFun (GdD K g x ρ ρ' vs) (fun _ => ∀ {S0 H0 S H : Hp} {σ : St} {v : V}, StOk K S0 H0 S H σ ρ → Rp K S v x → ∀ Q : St → Hp → Prop, (∀ σ' : St, StOk K S0 H0 S H σ' ρ' → (∀ i : Nat, i ∉ vs → σ'[i]? = σ[i]?) → σ'.length = σ.length → Q σ' H) → g v σ H Q) := ⟨GdD.run⟩
structure GdA (K : Fr) (g : TGs) (xs : List D) (ρ ρ' : Env) (vs : List Nat) : Prop where
  run : ∀ {S0 H0 S H : Hp} {σ : St} {v : List V}, StOk K S0 H0 S H σ ρ → RpA K S v xs → ∀ Q : St → Hp → Prop, (∀ σ' : St, StOk K S0 H0 S H σ' ρ' → (∀ i : Nat, i ∉ vs → σ'[i]? = σ[i]?) → σ'.length = σ.length → Q σ' H) → g v σ H Q
instance {K : Fr} {g : TGs} {xs : List D} {ρ ρ' : Env} {vs : List Nat} : CoeFun (GdA K g xs ρ ρ' vs) (fun _ => ∀ {S0 H0 S H : Hp} {σ : St} {v : List V}, StOk K S0 H0 S H σ ρ → RpA K S v xs → ∀ Q : St → Hp → Prop, (∀ σ' : St, StOk K S0 H0 S H σ' ρ' → (∀ i : Nat, i ∉ vs → σ'[i]? = σ[i]?) → σ'.length = σ.length → Q σ' H) → g v σ H Q) := ⟨GdA.run⟩
section
variable {K : Fr} {ρ ρ' ρ'' : Env} {x : D}
theorem gd_name {j : Nat} : GdD K (gName j) x ρ (ρ.set j (.im x)) [j] := .mk fun k r Q q =>
  q _ (k.set j r) (fun i h => List.getElem?_set_ne fun z => h (by rw [z]; exact List.mem_cons_self)) List.length_set
theorem ga_nil : GdA K gNil [] ρ ρ [] := .mk fun k r Q q => by
  cases r
  exact ⟨rfl, q _ k (fun _ _ => rfl) rfl⟩
theorem ga_cons {g : TG} {gs : TGs} {xs : List D} {vs ws : List Nat} (h : GdD K g x ρ ρ' vs) (hr : GdA K gs xs ρ' ρ'' ws) : GdA K (gCons g gs) (x :: xs) ρ ρ'' (vs ++ ws) := .mk fun k r Q q => by
  cases r with
  | cons a b => exact ⟨_, _, rfl, h k a _ fun σ' k' e' l' => hr k' b _ fun σ2 k2 e2 l2 => q _ k2 (fun i hi => (e2 i fun z => hi (List.mem_append_right _ z)).trans (e' i fun z => hi (List.mem_append_left _ z))) (l2.trans l')⟩
theorem gd_tup {gs : TGs} {xs : List D} {n : Nat} {vs : List Nat} (h : GdA K gs xs ρ ρ' vs) (hn : xs.length = n) : GdD K (gTup K n gs) (.tup xs) ρ ρ' vs := .mk fun k r Q q => by
  cases r with
  | tup hs ra => exact ⟨_, _, rfl, SqT.of (k.ex _ _ hs), ra.length.trans hn, h k ra Q q⟩
theorem gd_two {i j : Nat} {a b : D} : GdD K (gTup K 2 (gCons (gName i) (gCons (gName j) gNil))) (.tup [a, b]) ρ ((ρ.set i (.im a)).set j (.im b)) [i, j] := gd_tup (ga_cons gd_name (ga_cons gd_name ga_nil)) rfl
end
/-! ### slots forgotten -/
def wipE (ρ : Env) : List Nat → Env
  | [] => ρ
  | v :: vs => (wipE ρ vs).set v .un
theorem StOk.wipe {K : Fr} {S0 H0 S H : Hp} {σ : St} {ρ : Env} (k : StOk K S0 H0 S H σ ρ) : ∀ vs : List Nat, StOk K S0 H0 S H (wipe σ vs) (wipE ρ vs)
  | [] => k
  | v :: vs => (k.wipe vs).forget v none
theorem wipe_at (σ : St) (i : Nat) : ∀ vs : List Nat, (wipe σ vs)[i]? = if i ∈ vs ∧ i < σ.length then some none else σ[i]?
  | [] => by
    have : ¬ (i ∈ ([] : List Nat) ∧ i < σ.length) := fun h => by cases h.1
    rw [if_neg this]; rfl
  | v :: vs => by
    show ((wipe σ vs).set v none)[i]? = _
    rw [List.getElem?_set, wipe_length, wipe_at σ i vs]
    by_cases h : v = i
    · subst h
      by_cases hl : v < σ.length
      · rw [if_pos rfl, if_pos hl, if_pos ⟨List.mem_cons_self, hl⟩]
      · rw [if_pos rfl, if_neg hl, if_neg (fun z => hl z.2), List.getElem?_eq_none (Nat.le_of_not_lt hl)]
    · rw [if_neg h]
      by_cases h2 : i ∈ vs ∧ i < σ.length
      · rw [if_pos h2, if_pos ⟨List.mem_cons_of_mem _ h2.1, h2.2⟩]
      · rw [if_neg h2, if_neg]
        rintro ⟨a, b⟩
        rcases List.mem_cons.mp a with c | c
        · exact h c.symm
        · exact h2 ⟨c, b⟩
theorem wipe_back {σ σ' : St} {vs : List Nat} (h : ∀ i : Nat, i ∉ vs → σ'[i]? = (wipe σ vs)[i]?) (hl : σ'.length = (wipe σ vs).length) : L2.wipe σ' vs = L2.wipe σ vs := by
  rw [wipe_length] at hl
  apply List.ext_getElem?
  intro i
  rw [wipe_at, hl]
  by_cases c : i ∈ vs
  · rw [wipe_at]
    by_cases d : i < σ.length
    · rw [if_pos ⟨c, d⟩, if_pos ⟨c, d⟩]
    · rw [if_neg (fun z => d z.2), if_neg (fun z => d z.2), List.getElem?_eq_none (by rw [hl]; exact Nat.le_of_not_lt d), List.getElem?_eq_none (Nat.le_of_not_lt d)]
  · rw [if_neg (fun z => c z.1), h i c]
/-! ### what is walked -/
structure WalkD (K : Fr) (J : It) (S : Hp) (items : List D) : Prop where
  go : ∀ (i : Nat) (S1 H1 : Hp), i < items.length → Ex S S1 → Ex S1 H1 → J.go i H1
  yld : ∀ (i : Nat) (S1 H1 H2 : Hp) (x : V) (d : D), Ex S S1 → Ex S1 H1 → J.yld i H1 x H2 → items[i]? = some d → ∃ S2, Gr S1 H1 S2 H2 ∧ Rp K S2 x d
  stop : ∀ (S1 H1 : Hp), Ex S S1 → Ex S1 H1 → J.stop items.length H1
structure IvD (K : Fr) (wi : TI) (ρ : Env) (items : List D) : Prop where
  run : ∀ {S0 H0 S H : Hp} {σ : St}, StOk K S0 H0 S H σ ρ → ∀ R : It → Hp → Prop, (∀ J S' H', Gr S H S' H' → WalkD K J S' items → R J H') → wi σ H R
instance {K : Fr} {wi : TI} {ρ : Env} {items : List D} : CoeFun (IvD K wi ρ items) (fun _ => ∀ {S0 H0 S H : Hp} {σ : St}, StOk K S0 H0 S H σ ρ → ∀ R : It → Hp → Prop, (∀ J S' H', Gr S H S' H' → WalkD K J S' items → R J H') → wi σ H R) := ⟨IvD.run⟩
section
variable {K : Fr} {ρ : Env} {te : TE}
theorem walk_sql {S : Hp} {a : Addr} {xs : List V} {ds : List D} (hs : SqL K S a xs) (r : RpA K S xs ds) (inj : ∀ (S1 H1 : Hp) (ys : List V), Ex S S1 → Ex S1 H1 → SqL K H1 a ys → xs = ys) : WalkD K (Itl K a) S ds where
  go i S1 H1 hi e e1 := by
    have : i < xs.length := by rw [r.length]; exact hi
    exact ⟨xs, xs[i], sql_ex (e.trans e1) hs, List.getElem?_eq_getElem this⟩
  yld i S1 H1 H2 x d e e1 h hd := by
    obtain ⟨rfl, q⟩ := h
    obtain ⟨v, a1, b1⟩ := r.get hd
    have := q _ (sql_ex (e.trans e1) hs)
    rw [a1] at this
    cases this
    exact ⟨S1, Gr.refl e1, b1.mono e⟩
  stop S1 H1 e e1 := ⟨xs, sql_ex (e.trans e1) hs, by rw [r.length]; exact Nat.le_refl _⟩
theorem iv_list {ds : List D} (h : EvD K te ρ (.lst ds)) : IvD K (iList K te) ρ ds := .mk fun k R q => h k _ fun v S1 H1 g1 r => by
  cases r with
  | @lst a xs _ hs ra =>
    refine ⟨a, rfl, ⟨xs, SqL.of (g1.sh _ _ hs)⟩, q _ S1 _ g1 ⟨fun i S2 H2 hi e e1 => ?_, fun i S2 H2 H3 x d e e1 h hd => ?_, fun S2 H2 e e1 => ?_⟩⟩
    · have : i < xs.length := by rw [ra.length]; exact hi
      exact ⟨xs, xs[i], SqL.of ((e.trans e1) _ _ hs), List.getElem?_eq_getElem this⟩
    · obtain ⟨rfl, z⟩ := h
      obtain ⟨v, a1, b1⟩ := ra.get hd
      have := z _ (SqL.of ((e.trans e1) _ _ hs))
      rw [a1] at this
      cases this
      exact ⟨S2, Gr.refl e1, b1.mono e⟩
    · exact ⟨xs, SqL.of ((e.trans e1) _ _ hs), by rw [ra.length]; exact Nat.le_refl _⟩
theorem iv_tup {ds : List D} (h : EvD K te ρ (.tup ds)) : IvD K (iTup K te) ρ ds := .mk fun k R q => h k _ fun v S1 H1 g1 r => by
  cases r with
  | @tup a xs _ hs ra =>
    refine ⟨a, rfl, ⟨xs, SqT.of (g1.sh _ _ hs)⟩, q _ S1 _ g1 ⟨fun i S2 H2 hi e e1 => ?_, fun i S2 H2 H3 x d e e1 h hd => ?_, fun S2 H2 e e1 => ?_⟩⟩
    · have : i < xs.length := by rw [ra.length]; exact hi
      exact ⟨xs, xs[i], SqT.of ((e.trans e1) _ _ hs), List.getElem?_eq_getElem this⟩
    · obtain ⟨rfl, z⟩ := h
      obtain ⟨v, a1, b1⟩ := ra.get hd
      have := z _ (SqT.of ((e.trans e1) _ _ hs))
      rw [a1] at this
      cases this
      exact ⟨S2, Gr.refl e1, b1.mono e⟩
    · exact ⟨xs, SqT.of ((e.trans e1) _ _ hs), by rw [ra.length]; exact Nat.le_refl _⟩
theorem walk_rng {S : Hp} {lo : Int} {n : Nat} : WalkD K (Itr lo n) S ((List.range n).map fun i => D.int (lo + (i : Nat))) where
  go i S1 H1 hi e e1 := by
    have h : i < n := by simpa using hi
    exact h
  yld i S1 H1 H2 x d e e1 h hd := by
    obtain ⟨rfl, rfl⟩ := h
    rw [List.getElem?_map] at hd
    cases hr : (List.range n)[i]? with
    | none => rw [hr] at hd; cases hd
    | some j =>
      rw [hr] at hd
      have hj : j = i := by
        have := (List.getElem?_eq_some_iff.mp hr).2
        rw [List.getElem_range] at this
        exact this.symm
      cases hd
      subst hj
      exact ⟨S1, Gr.refl e1, .int _⟩
  stop S1 H1 e e1 := by
    show n ≤ ((List.range n).map fun i => D.int (lo + (i : Nat))).length
    rw [List.length_map, List.length_range]
    exact Nat.le_refl _
theorem iv_rng1 {ta : TA} {n : Int} (h : EvA K ta ρ [.int n]) (h1 : -(2 ^ 62) ≤ n) (h2 : n < 2 ^ 62) : IvD K (iRng1 ta) ρ ((List.range n.toNat).map fun i => D.int ((i : Nat) : Int)) := .mk fun k R q => h k _ fun vs S1 H1 g1 r => by
  cases r with
  | cons a b =>
    cases b
    cases a
    refine ⟨n, rfl, h1, h2, q _ S1 _ g1 ?_⟩
    have := walk_rng (K := K) (S := S1) (lo := 0) (n := n.toNat)
    simpa using this
theorem iv_rng2 {ta : TA} {m n : Int} (h : EvA K ta ρ [.int m, .int n]) (h1 : -(2 ^ 62) ≤ m ∧ m < 2 ^ 62) (h2 : -(2 ^ 62) ≤ n ∧ n < 2 ^ 62) : IvD K (iRng2 ta) ρ ((List.range (n - m).toNat).map fun i => D.int (m + (i : Nat))) := .mk fun k R q => h k _ fun vs S1 H1 g1 r => by
  cases r with
  | cons a b =>
    cases b with
    | cons a' b' =>
      cases b'
      cases a
      cases a'
      exact ⟨m, n, rfl, ⟨h1.1, h1.2, h2.1, h2.2⟩, q _ S1 _ g1 walk_rng⟩
theorem iv_enum {ta : TA} {ds : List D} (h : EvA K ta ρ [.lst ds]) : IvD K (iEnum K ta) ρ ((List.range ds.length).map fun i => D.tup [.int ((i : Nat) : Int), ds.getD i .non]) := .mk fun k R q => h k _ fun vs S1 H1 g1 r => by
  cases r with
  | cons a b =>
    cases b
    cases a with
    | @lst a xs _ hs ra =>
      refine ⟨a, xs, rfl, SqL.of (g1.sh _ _ hs), q _ S1 _ g1 ⟨fun i S2 H2 hi e e1 => ?_, fun i S2 H2 H3 x d e e1 h hd => ?_, fun S2 H2 e e1 => ?_⟩⟩
      · have : i < xs.length := by rw [ra.length]; simpa using hi
        exact ⟨xs, xs[i], SqL.of ((e.trans e1) _ _ hs), List.getElem?_eq_getElem this⟩
      · obtain ⟨T, y, rfl, hT, rfl, z⟩ := h
        rw [List.getElem?_map] at hd
        cases hr : (List.range ds.length)[i]? with
        | none => rw [hr] at hd; cases hd
        | some j =>
          rw [hr] at hd
          obtain ⟨hl, hj⟩ := List.getElem?_eq_some_iff.mp hr
          rw [List.getElem_range] at hj
          rw [List.length_range] at hl
          cases hd
          subst hj
          have hds : ds[i]? = some (ds.getD i .non) := by
            rw [List.getD_eq_getElem?_getD, List.getElem?_eq_getElem hl]
            rfl
          obtain ⟨v, a1, b1⟩ := ra.get hds
          have := z _ (SqL.of ((e.trans e1) _ _ hs))
          rw [a1] at this
          cases this
          have g := Gr.add e1 (o := .tup [.int (i : Nat), y]) hT
          exact ⟨_, g, .tup upd_same (.cons (.int _) (.cons (b1.mono (e.trans g.ss)) .nil))⟩
      · refine ⟨xs, SqL.of ((e.trans e1) _ _ hs), ?_⟩
        rw [List.length_map, List.length_range, ra.length]
        exact Nat.le_refl _
end
/-! ### list comprehensions -/
theorem Gr.upd {S H S' H' : Hp} (g : Gr S H S' H') {p : Addr} {o : HO} (hp : H p = none) (hs : S' p = none) : Gr S H S' (L2.upd H' p o) :=
  ⟨g.ss, fun a u h => by rw [upd_ne (ne_of_none h hs)]; exact g.sh _ _ h, fun a u h => by rw [upd_ne (ne_of_none h hp)]; exact g.hh _ _ h, g.new⟩
theorem filt_snoc {α : Type} {l : List α} {i : Nat} {a : α} (h : l[i]? = some a) : l.take (i + 1) = l.take i ++ [a] := by
  rw [List.take_succ, h]
  rfl
theorem evn_lc {K : Fr} {ρ : Env} {α : Type} {items : List α} {e : α → D} {f : α → Env} {p : α → Bool} {h : α → D} {wi : TI} {g : TG} {tt : TT} {te : TE} {vs : List Nat}
    (hi : IvD K wi ρ (items.map e)) (hg : ∀ a ∈ items, GdD K g (e a) (wipE ρ vs) (f a) vs) (ht : ∀ a ∈ items, EvB K tt (f a) (p a)) (he : ∀ a ∈ items, p a = true → EvD K te (f a) (h a)) (hz : items.length ≤ 1000000) :
    EvN K (tLc wi g tt te vs) ρ ((items.filter p).map h) := by
  refine .mk fun {S0 H0 S H σ} k Q q => ?_
  refine hi k _ fun J S1 H1 g1 w Dl hD => ?_
  refine ⟨fun i m H' => i + m = items.length ∧ ∃ S' acc, Gr S1 H1 S' H' ∧ S' Dl = none ∧ H' Dl = some (.lst acc) ∧ RpA K S' acc (((items.take i).filter p).map h), ⟨items.length, Nat.zero_add _, S1, [], Gr.lay g1.sh hD, g1.sh.none hD, upd_same, .nil⟩, ?_⟩
  rintro i m H' ⟨him, S', acc, g', hs', hacc, ra⟩
  cases m with
  | zero =>
    have hi' : i = items.length := by omega
    subst hi'
    rw [List.take_length] at ra
    refine Or.inl ⟨?_, q Dl acc S' H' (g1.trans g') hs' (g1.hh.none hD) hacc ra⟩
    have := w.stop S' H' g'.ss g'.sh
    rwa [List.length_map] at this
  | succ m =>
    have hil : i < items.length := by omega
    have ha : items[i]? = some items[i] := List.getElem?_eq_getElem hil
    have hm : items[i] ∈ items := List.getElem_mem hil
    refine Or.inr ⟨w.go i S' H' (by rw [List.length_map]; exact hil) g'.ss g'.sh, fun H3 => i + 1 + m = items.length ∧ ∃ S' acc, Gr S1 H1 S' H3 ∧ S' Dl = none ∧ H3 Dl = some (.lst acc) ∧ RpA K S' acc (((items.take (i + 1)).filter p).map h), fun H3 h3 => ⟨m, Nat.lt_succ_self m, h3⟩, fun x H2 hy => ?_⟩
    obtain ⟨S2, g2, r2⟩ := w.yld i S' H' H2 x (e items[i]) g'.ss g'.sh hy (by rw [List.getElem?_map, ha]; rfl)
    have k2 : StOk K S0 H0 S2 H2 (wipe σ vs) (wipE ρ vs) := (((k.grow g1).grow g').grow g2).wipe vs
    refine hg _ hm k2 r2 _ fun σ' k' e' l' => ⟨wipe_back e' l', ?_⟩
    refine ht _ hm k' _ fun S3 H3 g3 => ?_
    have g13 := (g'.trans g2).trans g3
    have hs3 : S3 Dl = none := g3.new _ _ (g2.new _ _ hs' hacc rfl) (g2.hh _ _ hacc) rfl
    have hacc3 : H3 Dl = some (.lst acc) := g3.hh _ _ (g2.hh _ _ hacc)
    have ra3 := ra.mono (g2.trans g3).ss
    cases hp : p items[i] with
    | true =>
      rw [if_pos rfl]
      refine he _ hm hp (k'.grow g3) _ fun y S4 H4 g4 r4 => ⟨acc, g4.hh _ _ hacc3, ?_, by omega, S4, acc ++ [y], (g13.trans g4).upd hD (g4.new _ _ hs3 hacc3 rfl), g4.new _ _ hs3 hacc3 rfl, upd_same, ?_⟩
      · have hl := ra.length
        rw [List.length_map] at hl
        have h2 := List.length_filter_le p (items.take i)
        have h3 : (items.take i).length ≤ items.length := by rw [List.length_take]; exact Nat.min_le_right _ _
        have h4 : (1000000 : Nat) < sizeLine := by decide
        omega
      · rw [filt_snoc ha, List.filter_append, List.map_append]
        have : List.filter p [items[i]] = [items[i]] := by rw [List.filter_cons, if_pos hp]; rfl
        rw [this]
        exact (ra3.mono g4.ss).snoc r4
    | false =>
      rw [if_neg Bool.false_ne_true]
      refine ⟨by omega, S3, acc, g13, hs3, hacc3, ?_⟩
      rw [filt_snoc ha, List.filter_append, List.map_append]
      have : List.filter p [items[i]] = [] := by rw [List.filter_cons, if_neg (by rw [hp]; exact Bool.false_ne_true)]; rfl
      rw [this, List.map_nil, List.append_nil]
      exact ra3
/-! ### statements -/
inductive Out where
  | nx (ρ : Env) | rt (d : D) | bk (ρ : Env) | ct (ρ : Env)
structure Fits (K : Fr) (S0 H0 S : Hp) (Dn : Ends) (P : Out → Prop) : Prop where
  nx : ∀ (ρ : Env) (σ : St) (S' H' : Hp), P (.nx ρ) → Ex S S' → StOk K S0 H0 S' H' σ ρ → Dn.nx σ H'
  bk : ∀ (ρ : Env) (σ : St) (S' H' : Hp), P (.bk ρ) → Ex S S' → StOk K S0 H0 S' H' σ ρ → Dn.bk σ H'
  ct : ∀ (ρ : Env) (σ : St) (S' H' : Hp), P (.ct ρ) → Ex S S' → StOk K S0 H0 S' H' σ ρ → Dn.ct σ H'
  rt : ∀ (d : D) (v : V) (S' H' : Hp), P (.rt d) → Gr S0 H0 S' H' → Rp K S' v d → Dn.rt v H'
theorem Fits.later {K : Fr} {S0 H0 S S1 : Hp} {Dn : Ends} {P : Out → Prop} (f : Fits K S0 H0 S Dn P) (e : Ex S S1) : Fits K S0 H0 S1 Dn P :=
  ⟨fun ρ σ S' H' p x => f.nx ρ σ S' H' p (e.trans x), fun ρ σ S' H' p x => f.bk ρ σ S' H' p (e.trans x), fun ρ σ S' H' p x => f.ct ρ σ S' H' p (e.trans x), f.rt⟩
structure SD (K : Fr) (t : TS) (ρ : Env) (P : Out → Prop) : Prop where
  run : ∀ {S0 H0 S H : Hp} {σ : St} (Dn : Ends), StOk K S0 H0 S H σ ρ → Fits K S0 H0 S Dn P → t Dn σ H
instance {K : Fr} {t : TS} {ρ : Env} {P : Out → Prop} : CoeFun (SD K t ρ P) (fun _ => ∀ {S0 H0 S H : Hp} {σ : St} (Dn : Ends), StOk K S0 H0 S H σ ρ → Fits K S0 H0 S Dn P → t Dn σ H) := ⟨SD.run⟩
section
variable {K : Fr} {ρ ρ' : Env} {te : TE} {t u : TS} {P : Out → Prop} {d : D}
theorem sd_imp {P' : Out → Prop} (h : SD K t ρ P') (i : ∀ o, P' o → P o) : SD K t ρ P := .mk fun Dn k f =>
  h Dn k ⟨fun ρ σ S' H' p => f.nx ρ σ S' H' (i _ p), fun ρ σ S' H' p => f.bk ρ σ S' H' (i _ p), fun ρ σ S' H' p => f.ct ρ σ S' H' (i _ p), fun d v S' H' p => f.rt d v S' H' (i _ p)⟩
theorem sd_env (h : SD K t ρ P) (e : ρ' = ρ) : SD K t ρ' P := e ▸ h
theorem sd_next (h : P (.nx ρ)) : SD K tNext ρ P := .mk fun Dn k f => f.nx _ _ _ _ h (.refl _) k
/-- what a block's first statement is to reach -/
def Then (K : Fr) (u : TS) (P : Out → Prop) : Out → Prop
  | .nx ρ => SD K u ρ P
  | o => P o
theorem sd_seq (h : SD K t ρ (Then K u P)) : SD K (tSeq t u) ρ P := .mk fun Dn k f =>
  h { Dn with nx := u Dn } k ⟨fun ρ σ S' H' (p : SD K u ρ P) e k' => p Dn k' (f.later e), fun ρ σ S' H' p => f.bk ρ σ S' H' p, fun ρ σ S' H' p => f.ct ρ σ S' H' p, fun d v S' H' p => f.rt d v S' H' p⟩
theorem sd_asg {g : TG} {vs : List Nat} (h : EvD K te ρ d) (hg : GdD K g d ρ ρ' vs) (p : P (.nx ρ')) : SD K (tAsg te g) ρ P := .mk fun Dn k f =>
  h k _ fun v S1 H1 g1 r1 => hg (k.grow g1) r1 _ fun σ' k' _ _ => f.nx _ _ _ _ p g1.ss k'
theorem sd_set {i : Nat} (h : EvD K te ρ d) (p : P (.nx (ρ.set i (.im d)))) : SD K (tAsg te (gName i)) ρ P := sd_asg h gd_name p
theorem sd_setN {i : Nat} {ds : List D} (h : EvN K te ρ ds) (p : P (.nx (ρ.set i (.ml ds)))) : SD K (tAsg te (gName i)) ρ P := .mk fun Dn k f =>
  h k _ fun q vs S1 H1 g1 hs hq hv r => f.nx _ _ _ _ p g1.ss (k.own i rfl g1 hq ⟨q, vs, rfl, k.gr.hh.none hq, hs, hv, r⟩)
theorem sd_setM {i : Nat} {es : List (List Key × D)} (h : EvM K te ρ es) (p : P (.nx (ρ.set i (.md es)))) : SD K (tAsg te (gName i)) ρ P := .mk fun Dn k f =>
  h k _ fun q vs S1 H1 g1 hs hq hv r => f.nx _ _ _ _ p g1.ss (k.own i rfl g1 hq ⟨q, vs, rfl, k.gr.hh.none hq, hs, hv, r⟩)
theorem sd_frz {i : Nat} {e : Ent} (hi : ρ[i]? = some e) (me : e.mut = true) (h : SD K t (ρ.set i e.frz) P) : SD K t ρ P := .mk fun Dn k f => by
  obtain ⟨S', k', e'⟩ := k.freeze hi me
  exact h Dn k' (f.later e')
theorem sd_drop (h : EvD K te ρ d) (p : P (.nx ρ)) : SD K (tDrop te) ρ P := .mk fun Dn k f => h k _ fun v S1 H1 g1 _ => f.nx _ _ _ _ p g1.ss (k.grow g1)
theorem sd_ret (h : EvD K te ρ d) (p : P (.rt d)) : SD K (tRet te) ρ P := .mk fun Dn k f => h k _ fun v S1 H1 g1 r => f.rt _ _ _ _ p (k.gr.trans g1) r
theorem sd_retE {d' : D} (h : EvD K te ρ d') (e : d' = d) (p : P (.rt d)) : SD K (tRet te) ρ P := sd_ret (h.is e) p
theorem sd_setE {i : Nat} {d' : D} (h : EvD K te ρ d') (e : d' = d) (p : P (.nx (ρ.set i (.im d)))) : SD K (tAsg te (gName i)) ρ P := sd_set (h.is e) p
theorem sd_retN (p : P (.rt .non)) : SD K tRetN ρ P := .mk fun Dn k f => f.rt _ _ _ _ p k.gr .non
theorem sd_break (p : P (.bk ρ)) : SD K tBreak ρ P := .mk fun Dn k f => f.bk _ _ _ _ p (.refl _) k
theorem sd_cont (p : P (.ct ρ)) : SD K tCont ρ P := .mk fun Dn k f => f.ct _ _ _ _ p (.refl _) k
theorem sd_if {c : TT} {b : Bool} (h : EvB K c ρ b) (h1 : b = true → SD K t ρ P) (h2 : b = false → SD K u ρ P) : SD K (tIfS c t u) ρ P := .mk fun Dn k f => h k _ fun S1 H1 g1 => by
  cases b with
  | true => exact h1 rfl Dn (k.grow g1) (f.later g1.ss)
  | false => exact h2 rfl Dn (k.grow g1) (f.later g1.ss)
theorem sd_aug {i : Nat} {a b : Int} {F : Int → Int → Int} (hx : ρ[i]? = some (.im (.int a))) (h : EvD K te ρ (.int b)) (p : P (.nx (ρ.set i (.im (.int (F a b)))))) : SD K (tAug i te (ipI F)) ρ P := .mk fun Dn k f => by
  obtain ⟨v, hv, r⟩ := k.at_ i _ hx
  refine ⟨v, hv, h k _ fun w S1 H1 g1 r1 => ?_⟩
  cases r
  cases r1
  exact ⟨a, b, rfl, rfl, f.nx _ _ _ _ p g1.ss ((k.grow g1).set i (.int _))⟩
/-- xs.append(e) -/
theorem sd_app {i : Nat} {ds : List D} (hx : ρ[i]? = some (.ml ds)) (h : EvD K te ρ d) (hz : ds.length < 1000000) (p : P (.nx (ρ.set i (.ml (ds ++ [d]))))) : SD K (tDrop (tBM K "list" rAppend (tVar i) (tCons te tNil))) ρ P := .mk fun Dn k f => by
  obtain ⟨l, vs, hv, h0, hs, hl, r⟩ := k.at_ i _ hx
  refine ⟨_, hv, Or.inl ⟨rfl, _, SqL.of hl⟩, h k _ fun w S1 H1 g1 r1 => ?_⟩
  have k1 := k.grow g1
  have hl1 := g1.hh _ _ hl
  refine ⟨l, vs, w, rfl, rfl, hl1, ?_, f.nx _ _ _ _ p g1.ss (k1.mutate hx rfl rfl hv h0 (g1.new _ _ hs hl rfl) ⟨l, vs ++ [w], rfl, h0, g1.new _ _ hs hl rfl, upd_same, (r.mono g1.ss).snoc r1⟩)⟩
  have h4 : (1000000 : Nat) < sizeLine := by decide
  have := r.length
  omega
/-- for -/
theorem sd_for {α : Type} {items : List α} {e : α → D} (Inv : Nat → Env → Prop) {wi : TI} {g : TG} (hi : IvD K wi ρ (items.map e)) (h0 : Inv 0 ρ)
    (hb : ∀ (i : Nat) (a : α) (ρ1 : Env), items[i]? = some a → Inv i ρ1 → ∃ ρ2 vs, GdD K g (e a) ρ1 ρ2 vs ∧ SD K t ρ2 (fun o => match o with | .nx ρ' => Inv (i + 1) ρ' | .ct ρ' => Inv (i + 1) ρ' | .bk ρ' => P (.nx ρ') | .rt d => P (.rt d)))
    (hd : ∀ ρ1, Inv items.length ρ1 → P (.nx ρ1)) : SD K (tFor wi g t) ρ P := by
  refine .mk fun {S0 H0 S H σ} Dn k f => ?_
  refine hi k _ fun J S1 H1 g1 w => ?_
  refine ⟨fun i m σ' H' => i + m = items.length ∧ ∃ S' ρ1, Inv i ρ1 ∧ StOk K S0 H0 S' H' σ' ρ1 ∧ Ex S1 S', ⟨items.length, Nat.zero_add _, S1, ρ, h0, k.grow g1, .refl _⟩, ?_⟩
  rintro i m σ' H' ⟨him, S', ρ1, hin, k', e'⟩
  cases m with
  | zero =>
    have hi' : i = items.length := by omega
    subst hi'
    refine Or.inl ⟨?_, f.nx _ _ _ _ (hd _ hin) (g1.ss.trans e') k'⟩
    have := w.stop S' H' e' k'.ex
    rwa [List.length_map] at this
  | succ m =>
    have hil : i < items.length := by omega
    have ha : items[i]? = some items[i] := List.getElem?_eq_getElem hil
    refine Or.inr ⟨w.go i S' H' (by rw [List.length_map]; exact hil) e' k'.ex, fun σ3 H3 => i + 1 + m = items.length ∧ ∃ S' ρ1, Inv (i + 1) ρ1 ∧ StOk K S0 H0 S' H3 σ3 ρ1 ∧ Ex S1 S', fun σ3 H3 h3 => ⟨m, Nat.lt_succ_self m, h3⟩, fun x H2 hy => ?_⟩
    obtain ⟨S2, g2, r2⟩ := w.yld i S' H' H2 x (e items[i]) e' k'.ex hy (by rw [List.getElem?_map, ha]; rfl)
    obtain ⟨ρ2, vs, hg, hsd⟩ := hb i _ ρ1 ha hin
    refine hg (k'.grow g2) r2 _ fun σ2 k2 _ _ => hsd _ k2 ⟨fun ρ3 σ3 S3 H3 p x k3 => ?_, fun ρ3 σ3 S3 H3 p x k3 => ?_, fun ρ3 σ3 S3 H3 p x k3 => ?_, fun d v S3 H3 p g3 r3 => f.rt _ _ _ _ p g3 r3⟩
    · exact ⟨by omega, S3, ρ3, p, k3, (e'.trans g2.ss).trans x⟩
    · exact f.nx _ _ _ _ p (g1.ss.trans ((e'.trans g2.ss).trans x)) k3
    · exact ⟨by omega, S3, ρ3, p, k3, (e'.trans g2.ss).trans x⟩
/-- while -/
theorem sd_while {c : TT} (Inv : Nat → Env → Prop) (m0 : Nat) (h0 : Inv m0 ρ)
    (hb : ∀ (m : Nat) (ρ1 : Env), Inv m ρ1 → ∃ b, EvB K c ρ1 b ∧ (b = true → SD K t ρ1 (fun o => match o with | .nx ρ' => ∃ m', m' < m ∧ Inv m' ρ' | .ct ρ' => ∃ m', m' < m ∧ Inv m' ρ' | .bk ρ' => P (.nx ρ') | .rt d => P (.rt d))) ∧ (b = false → P (.nx ρ1))) :
    SD K (tWhile c t) ρ P := by
  refine .mk fun {S0 H0 S H σ} Dn k f => ?_
  refine ⟨fun m σ' H' => ∃ S' ρ1, Inv m ρ1 ∧ StOk K S0 H0 S' H' σ' ρ1 ∧ Ex S S', ⟨m0, S, ρ, h0, k, .refl _⟩, ?_⟩
  rintro m σ' H' ⟨S', ρ1, hin, k', e'⟩
  obtain ⟨b, hc, h1, h2⟩ := hb m ρ1 hin
  refine hc k' _ fun S2 H2 g2 => ?_
  cases b with
  | true =>
    rw [if_pos rfl]
    refine ⟨fun σ3 H3 => ∃ m', m' < m ∧ ∃ S' ρ1, Inv m' ρ1 ∧ StOk K S0 H0 S' H3 σ3 ρ1 ∧ Ex S S', fun σ3 H3 h3 => h3, h1 rfl _ (k'.grow g2) ⟨fun ρ3 σ3 S3 H3 p x k3 => ?_, fun ρ3 σ3 S3 H3 p x k3 => f.nx _ _ _ _ p ((e'.trans g2.ss).trans x) k3, fun ρ3 σ3 S3 H3 p x k3 => ?_, fun d v S3 H3 p g3 r3 => f.rt _ _ _ _ p g3 r3⟩⟩
    · obtain ⟨m', hm, hi⟩ := p
      exact ⟨m', hm, S3, ρ3, hi, k3, (e'.trans g2.ss).trans x⟩
    · obtain ⟨m', hm, hi⟩ := p
      exact ⟨m', hm, S3, ρ3, hi, k3, (e'.trans g2.ss).trans x⟩
  | false =>
    rw [if_neg Bool.false_ne_true]
    exact f.nx _ _ _ _ (h2 rfl) (e'.trans g2.ss) (k'.grow g2)
end
/-! ### a def keeps its promise -/
def init (N : List Str) (ds : List D) : Env := ds.map Ent.im ++ List.replicate (N.length - ds.length) .un
theorem init_ok {K : Fr} {S H : Hp} (e : Ex S H) : ∀ {vs : List V} {ds : List D} (N : List Str), RpA K S vs ds → StOk K S H S H (L2.start N vs) (init N ds) := by
  intro vs ds N r
  have hl := r.length
  refine ⟨Gr.refl e, ?_, fun i x h => ?_, fun i j x y p h1 h2 m1 m2 _ _ => ?_⟩
  · unfold L2.start init
    simp [hl]
  · unfold init at h
    unfold L2.start
    rw [List.getElem?_append] at h ⊢
    rw [List.length_map] at h ⊢
    rw [hl]
    by_cases c : i < ds.length
    · rw [if_pos c] at h ⊢
      rw [List.getElem?_map] at h ⊢
      cases hd : ds[i]? with
      | none => rw [hd] at h; cases h
      | some d =>
        rw [hd] at h
        cases h
        obtain ⟨v, a, b⟩ := r.get hd
        rw [a]
        exact ⟨v, rfl, b⟩
    · rw [if_neg c] at h
      have : x = .un := by
        have := List.mem_of_getElem? h
        exact List.eq_of_mem_replicate this
      subst this
      trivial
  · have nm : ∀ {i : Nat} {x : Ent}, (init N ds)[i]? = some x → x.mut = true → False := by
      intro i x h m
      unfold init at h
      have := List.mem_of_getElem? h
      rcases List.mem_append.mp this with q | q
      · obtain ⟨d, _, rfl⟩ := List.mem_map.mp q
        cases m
      · rw [List.eq_of_mem_replicate q] at m
        cases m
    exact (nm h1 m1).elim
theorem ok_D {P : Program} {w : World} {K : Fr} {mg : Str → Option Value} {base : Heap} {x qual : Str} {st : Stmt} {f : Addr} {fd : FuncData} {N ps : List Str} {k : Nat} {rel : List D → D → Prop}
    (F : Fun K x qual st f fd) (S : FnScope N ps (defScope st)) (hl : ∀ ds d, rel ds d → ds.length = ps.length)
    (hbody : ∀ (cdv : Value) (A : Around) (outer : List PySem.Env) (s : Shared) (H : Hp) (E : XK), Room k (A.deeper (PyProof.Rows.envOfC qual (defScope st) s.heap.objs.size f cdv)) →
      ∃ t, PSs (cxOf CX0 P w K mg base N qual (defScope st) f cdv A outer s H E).nox (defBody st) t ∧ ∀ ds d, rel ds d → SD K t (init N ds) (fun o => o = .rt d ∨ (d = .non ∧ ∃ ρ, o = .nx ρ))) :
    FnOk P w K mg base CX0 (k + 1) f fd ps (spD K rel) := by
  refine F.ok S (fun vs H Q E h => ?_) (fun cdv A outer s H vs Q E hr h => ?_)
  · obtain ⟨S', ds, d, _, r, hrel, _⟩ := h
    rw [r.length]
    exact hl _ _ hrel
  · obtain ⟨S', ds, d, e, r, hrel, q⟩ := h
    obtain ⟨t, ht, hsd⟩ := hbody cdv A outer s H E hr
    refine ⟨t, ht, hsd ds d hrel _ (init_ok e N r) ⟨fun ρ σ S2 H2 p _ k => ?_, fun ρ σ S2 H2 p _ k => ?_, fun ρ σ S2 H2 p _ k => ?_, fun d' v S2 H2 p g r => ?_⟩⟩
    · rcases p with p | ⟨p, _⟩
      · cases p
      · subst p
        exact q _ _ _ k.gr .non
    · rcases p with p | ⟨_, ρ', p⟩ <;> cases p
    · rcases p with p | ⟨_, ρ', p⟩ <;> cases p
    · rcases p with p | ⟨_, ρ', p⟩
      · cases p
        exact q _ _ _ g r
      · cases p
end DL

set_option Elab.async false
set_option linter.all false
set_option maxRecDepth 100000
set_option maxHeartbeats 2000000
/-! DL4: defs by name. -/
namespace DL
open PySem L2
/-- the def that the module's name x stands for keeps the promise sp -/
structure Has (P : Program) (w : World) (K : Fr) (mg : Str → Option Value) (base : Heap) (CX : CXT) (x : Str) (k : Nat) (ps : List Str) (sp : Sp) : Prop where
  ex : ∃ f fd, FnOk P w K mg base CX k f fd ps sp ∧ mg x = some (.ref f) ∧ PySem.W.keepIn K (.ref f) = true ∧ Binds K fd ps []
theorem Has.mono {P : Program} {w : World} {K : Fr} {mg : Str → Option Value} {base : Heap} {CX : CXT} {x : Str} {j k : Nat} {ps : List Str} {sp : Sp} (h : Has P w K mg base CX x j ps sp) (l : j ≤ k) : Has P w K mg base CX x k ps sp := by
  obtain ⟨f, fd, a, b, c, d⟩ := h.ex
  exact ⟨f, fd, a.mono l, b, c, d⟩
theorem Has.imp {P : Program} {w : World} {K : Fr} {mg : Str → Option Value} {base : Heap} {CX : CXT} {x : Str} {k : Nat} {ps : List Str} {rel rel' : List D → D → Prop} (h : Has P w K mg base CX x k ps (spD K rel)) (i : ∀ ds d, rel' ds d → rel ds d) : Has P w K mg base CX x k ps (spD K rel') := by
  obtain ⟨f, fd, a, b, c, d⟩ := h.ex
  exact ⟨f, fd, a.imp fun vs H Q E ⟨S, ds, d, x1, x2, x3, x4⟩ => ⟨S, ds, d, x1, x2, i _ _ x3, x4⟩, b, c, d⟩
/-- where a def stands: its object, its text -/
structure At (K : Fr) (mg : Str → Option Value) (x : Str) (st : Stmt) (ps : List Str) : Prop where
  ex : ∃ f fd, Fun K x x st f fd ∧ mg x = some (.ref f) ∧ Binds K fd ps []
theorem ok_H {P : Program} {w : World} {K : Fr} {mg : Str → Option Value} {base : Heap} {x : Str} {st : Stmt} {N ps : List Str} {k : Nat} {rel : List D → D → Prop}
    (T : At K mg x st ps) (S : FnScope N ps (defScope st)) (hl : ∀ ds d, rel ds d → ds.length = ps.length)
    (hbody : ∀ (f : Addr) (cdv : Value) (A : Around) (outer : List PySem.Env) (s : Shared) (H : Hp) (E : XK), Room k (A.deeper (PyProof.Rows.envOfC x (defScope st) s.heap.objs.size f cdv)) →
      ∃ t, PSs (cxOf CX0 P w K mg base N x (defScope st) f cdv A outer s H E).nox (defBody st) t ∧ ∀ ds d, rel ds d → SD K t (init N ds) (fun o => o = .rt d ∨ (d = .non ∧ ∃ ρ, o = .nx ρ))) :
    Has P w K mg base CX0 x (k + 1) ps (spD K rel) := by
  obtain ⟨f, fd, F, hm, hb⟩ := T.ex
  exact ⟨f, fd, ok_D F S hl (hbody f), hm, F.kp, hb⟩
theorem pe_callH {X : Cx} {x : Str} {k j : Nat} {ps : List Str} {sp : Sp} {p pos : Pos} {e : Expr} {es : List Expr} {t : TA} (G : Has X.prog X.w X.K X.mg X.base CX0 x k ps sp) (hr : Room j X.A) (hkj : k ≤ j) (hg : Gl X x) (ha : PA X (e :: es) t)
    (hdb : (x == ("__debug__" : Str)) = false := by decide) (he : starEach (e :: es) X.env = (false, eval e X.env) :: starEach es X.env := by rfl) (hpl : (PySem.backTo pos (starEach es X.env)).any (·.1) = false := by rfl) :
    PE X (.Call (.Name x p) (e :: es) [] pos) (tCall sp [] E0 t) := by
  obtain ⟨f, fd, F, hm, hk, hb⟩ := G.ex
  exact pe_call F (hr.mono hkj) hg hm hk hb .nil pass0 ha hdb he hpl
/-! ### the library's rules, the written part by name -/
section
variable {X : Cx} {a b e o : Expr} {ta tb te : TE} {t : TA} {pos p2 p : Pos} {lo hi : Option Expr} {tl th : TO}
theorem op_catK (K : Fr) (hK : X.K = K := by rfl) : OpR X (binaryOp .Add) (rCatA K) := by subst hK; exact op_catA
theorem op_inK (K : Fr) (hK : X.K = K := by rfl) : OpR X (compareOp .In) (rIn K false) := by subst hK; exact op_in_seq
theorem op_notInK (K : Fr) (hK : X.K = K := by rfl) : OpR X (compareOp .NotIn) (rIn K true) := by subst hK; exact op_notIn_seq
theorem op_eqK (K : Fr) {k : Nat} (hr : Room k X.A) (hK : X.K = K := by rfl) : OpR X (compareOp .Eq) (rEqD K) := by subst hK; exact op_eqD hr.units
theorem op_neK (K : Fr) {k : Nat} (hr : Room k X.A) (hK : X.K = K := by rfl) : OpR X (compareOp .NotEq) (rNeD K) := by subst hK; exact op_neD hr.units
theorem op_inDK (K : Fr) {k : Nat} (hr : Room k X.A) (hK : X.K = K := by rfl) : OpR X (compareOp .In) (rInD K) := by subst hK; exact op_inD (by have := hr.un; omega)
theorem op_notInDK (K : Fr) {k : Nat} (hr : Room k X.A) (hK : X.K = K := by rfl) : OpR X (compareOp .NotIn) (rNotInD K) := by subst hK; exact op_notInD (by have := hr.un; omega)
theorem ix_lK (K : Fr) (hK : X.K = K := by rfl) : IxR X (rIxL K) := by subst hK; exact ix_list
theorem ix_tK (K : Fr) (hK : X.K = K := by rfl) : IxR X (rIxT K) := by subst hK; exact ix_tup
theorem ix_qK (K : Fr) (hK : X.K = K := by rfl) : IxR X (rIx K) := by subst hK; exact ix_seq
theorem sl_lK (K : Fr) (hK : X.K = K := by rfl) : SlR X (rSlL K) := by subst hK; exact sl_list
theorem sl_tK (K : Fr) (hK : X.K = K := by rfl) : SlR X (rSlA K) := by subst hK; exact sl_tupA
theorem cl_len (K : Fr) (hK : X.K = K := by rfl) : CallR X (.builtin "len") (rLenS K) := by subst hK; exact call_len_seq
theorem cl_list (K : Fr) (hK : X.K = K := by rfl) : CallR X (.type "list") (rListOf K) := by subst hK; exact call_list_of
theorem cl_sum (K : Fr) (hc : X.calm = true := by rfl) (hK : X.K = K := by rfl) : CallR X (.builtin "sum") (rSum K) := by subst hK; exact cr_sum hc
theorem cl_min (K : Fr) (hc : X.calm = true := by rfl) (hK : X.K = K := by rfl) : CallR X (.builtin "min") (rMin K) := by subst hK; exact cr_min hc
theorem pe_fldK (K : Fr) {f : Str} (he : PE X e te) (hb : PySem.attributeBase e f X.env (eval e X.env) = eval e X.env := by rfl) (hK : X.K = K := by rfl) : PE X (.Attribute e f pos) (tFld K te f) := by subst hK; exact pe_fld he hb
theorem pe_tupleK (K : Fr) (hg : Gl X "tuple") (hm : X.mg "tuple" = none) (ha : PE X a ta) (na : starEach [a] X.env = (false, eval a X.env) :: starEach [] X.env := by rfl) (hK : X.K = K := by rfl) : PE X (.Call (.Name "tuple" p) [a] [] pos) (tThen ta (kTup K)) := by subst hK; exact pe_tupleOf hg hm ha na
theorem pi_lK (K : Fr) {tg : Expr} (h : PE X e te) (hK : X.K = K := by rfl) : PI X tg e (iList K te) := by subst hK; exact pi_list h
theorem pi_tK (K : Fr) {tg : Expr} (h : PE X e te) (hK : X.K = K := by rfl) : PI X tg e (iTup K te) := by subst hK; exact pi_tup h
theorem pi_enumK (K : Fr) {tpos : Pos} {elts : List Expr} {kk : Nat} (hg : Gl X "enumerate") (hm : X.mg "enumerate" = none) (ha : PA X [e] t) (hs : starEach [e] X.env = [(false, eval e X.env)] := by rfl) (hK : X.K = K := by rfl) : PI X (.Tuple elts kk tpos) (.Call (.Name "enumerate" p) [e] [] pos) (iEnum K t) := by subst hK; exact pi_enum hg hm ha hs
theorem pg_tupK (K : Fr) {es : List Expr} {k n : Nat} {gs : TGs} (hc : X.calm = true) (h : PGs X es gs) (hn : (assignEach es X.env).length = n := by rfl) (hst : (assignEach es X.env).findIdx? (·.1) = none := by rfl) (hK : X.K = K := by rfl) : PG X (.Tuple es k pos) (gTup K n gs) := by subst hK; exact pg_tup hc h hn hst
theorem pe_appendK (K : Fr) {apos cpos : Pos} (ho : PE X o ta) (ha : PA X [e] t) (hbase : PySem.attributeBase o "append" X.env (eval o X.env) = eval o X.env := by rfl)
    (hfew : ((PySem.backTo cpos (starEach [e] X.env)).all (fun x => !x.1) && (PySem.backToKw cpos (keywordEach [] X.env)).all (fun x => x.1.isSome) && decide (([e] : List Expr).length + ([] : List Keyword).length + (if ([] : List Keyword).isEmpty then 0 else 1) < 30)) = true := by rfl)
    (hline : (apos.endLine == cpos.line) = true := by rfl) (hs : starEach [e] X.env = (false, eval e X.env) :: starEach [] X.env := by rfl) (hplain : (PySem.backTo cpos (starEach [] X.env)).any (·.1) = false := by rfl) (hK : X.K = K := by rfl) :
    PE X (.Call (.Attribute o "append" apos) [e] [] cpos) (tBM K "list" rAppend ta t) := by subst hK; exact pe_bm PySem.F.plainAttrs_list PySem.F.slot_list_append PySem.F.type_list_append mt_append ho ha hbase hfew hline hs hplain
end
/-- the built-ins that no name of the module hides -/
structure Bi (mg : Str → Option Value) : Prop where
  len : mg "len" = none
  range : mg "range" = none
  sorted : mg "sorted" = none
  tuple : mg "tuple" = none
  list : mg "list" = none
  enumerate : mg "enumerate" = none
  set : mg "set" = none
  abs : mg "abs" = none
  sum : mg "sum" = none
  min : mg "min" = none
  int : mg "int" = none
  bool : mg "bool" = none
  str : mg "str" = none
  isinstance : mg "isinstance" = none
  repr : mg "repr" = none
/-- rooms -/
abbrev dR (r : List Int) : D := .tup (r.map D.int)
abbrev dRs (rs : List (List Int)) : D := .lst (rs.map dR)
abbrev dL (r : List Int) : D := .lst (r.map D.int)
end DL

set_option Elab.async false
set_option linter.all false
set_option maxRecDepth 100000
set_option maxHeartbeats 2000000
/-! DL5: sorting. -/
namespace DL
open PySem L2
/-! ### orders on lists of ints -/
def llt : List Int → List Int → Bool := HT.lexLt
theorem llt_irr : ∀ a : List Int, llt a a = false
  | [] => rfl
  | x :: xs => by
    show HT.lexLt (x :: xs) (x :: xs) = false
    rw [HT.lexLt_cons, if_pos rfl]
    exact llt_irr xs
theorem llt_asym : ∀ {a b : List Int}, llt a b = true → llt b a = false
  | [], [], _ => rfl
  | [], _ :: _, _ => rfl
  | _ :: _, [], h => by cases h
  | x :: xs, y :: ys, h => by
    have h' : HT.lexLt (x :: xs) (y :: ys) = true := h
    show HT.lexLt (y :: ys) (x :: xs) = false
    rw [HT.lexLt_cons] at h' ⊢
    by_cases e : x = y
    · subst e
      rw [if_pos rfl] at h' ⊢
      exact llt_asym h'
    · rw [if_neg e, decide_eq_true_eq] at h'
      rw [if_neg fun z => e z.symm]
      exact decide_eq_false (by omega)
theorem llt_tot : ∀ {a b : List Int}, llt a b = false → llt b a = false → a = b
  | [], [], _, _ => rfl
  | [], _ :: _, h, _ => by cases h
  | _ :: _, [], _, h => by cases h
  | x :: xs, y :: ys, h, h2 => by
    have h' : HT.lexLt (x :: xs) (y :: ys) = false := h
    have h2' : HT.lexLt (y :: ys) (x :: xs) = false := h2
    rw [HT.lexLt_cons] at h' h2'
    by_cases e : x = y
    · subst e
      rw [if_pos rfl] at h' h2'
      rw [llt_tot h' h2']
    · rw [if_neg e, decide_eq_false_iff_not] at h'
      rw [if_neg fun z => e z.symm, decide_eq_false_iff_not] at h2'
      omega
theorem llt_tr : ∀ {a b c : List Int}, llt a b = true → llt b c = true → llt a c = true
  | [], [], _, h, _ => by cases h
  | [], _ :: _, [], _, h => by cases h
  | [], _ :: _, _ :: _, _, _ => rfl
  | _ :: _, [], _, h, _ => by cases h
  | _ :: _, _ :: _, [], _, h => by cases h
  | x :: xs, y :: ys, z :: zs, h, h2 => by
    have h' : HT.lexLt (x :: xs) (y :: ys) = true := h
    have h2' : HT.lexLt (y :: ys) (z :: zs) = true := h2
    show HT.lexLt (x :: xs) (z :: zs) = true
    rw [HT.lexLt_cons] at h' h2' ⊢
    by_cases e : x = y
    · subst e
      rw [if_pos rfl] at h'
      by_cases f : x = z
      · subst f
        rw [if_pos rfl] at h2' ⊢
        exact llt_tr h' h2'
      · rw [if_neg f] at h2' ⊢
        exact h2'
    · rw [if_neg e, decide_eq_true_eq] at h'
      by_cases f : y = z
      · subst f
        rw [if_neg e, decide_eq_true_eq]
        exact h'
      · rw [if_neg f, decide_eq_true_eq] at h2'
        rw [if_neg (by omega), decide_eq_true_eq]
        omega
theorem llt_swo : SrtO.Swo llt := ⟨fun _ _ h => llt_asym h, fun x y z h1 h2 => by
  cases h : llt z x with
  | false => rfl
  | true =>
    cases q : llt x y with
    | true => rw [llt_tr h q] at h2; cases h2
    | false =>
      have e := llt_tot q h1
      subst e
      rw [h] at h2
      cases h2⟩
/-- pairs (room, int) -/
def plt (a b : List Int × Int) : Bool := if a.1 = b.1 then decide (a.2 < b.2) else llt a.1 b.1
theorem plt_swo : SrtO.Swo plt := by
  have asym : ∀ x y, plt x y = true → plt y x = false := by
    intro x y h
    unfold plt at h ⊢
    by_cases e : x.1 = y.1
    · rw [if_pos e, decide_eq_true_eq] at h
      rw [if_pos e.symm]
      exact decide_eq_false (by omega)
    · rw [if_neg e] at h
      rw [if_neg fun z => e z.symm]
      exact llt_asym h
  refine ⟨asym, fun x y z h1 h2 => ?_⟩
  unfold plt at h1 h2 ⊢
  by_cases e : z.1 = x.1
  · rw [if_pos e]
    by_cases f : y.1 = x.1
    · rw [if_pos f, decide_eq_false_iff_not] at h1
      rw [if_pos (e.trans f.symm), decide_eq_false_iff_not] at h2
      exact decide_eq_false (by omega)
    · rw [if_neg f] at h1
      rw [if_neg fun q => f (q.symm.trans e), e] at h2
      exact absurd (llt_tot h1 h2) f
  · rw [if_neg e]
    by_cases f : y.1 = x.1
    · rw [if_neg fun q => e (q.trans f), f] at h2
      exact h2
    · rw [if_neg f] at h1
      by_cases g : z.1 = y.1
      · rw [g]
        exact h1
      · rw [if_neg g] at h2
        exact llt_swo.tr _ _ _ h1 h2
theorem plt_tot {a b : List Int × Int} (h1 : plt a b = false) (h2 : plt b a = false) : a = b := by
  unfold plt at h1 h2
  by_cases e : a.1 = b.1
  · rw [if_pos e, decide_eq_false_iff_not] at h1
    rw [if_pos e.symm, decide_eq_false_iff_not] at h2
    exact Prod.ext e (by omega)
  · rw [if_neg e] at h1
    rw [if_neg fun z => e z.symm] at h2
    exact absurd (llt_tot h1 h2) e
/-! ### the sorted list -/
def sortBy {α : Type} (lt : α → α → Bool) (l : List α) : List α := l.mergeSort (fun a b => !lt b a)
theorem sortBy_perm {α : Type} (lt : α → α → Bool) (l : List α) : (sortBy lt l).Perm l := List.mergeSort_perm _ _
theorem sortBy_srtd {α : Type} {lt : α → α → Bool} (O : SrtO.Swo lt) (l : List α) : SrtO.Srtd lt (sortBy lt l) := by
  have := List.pairwise_mergeSort (le := fun a b : α => !lt b a) (fun a b c h1 h2 => by
    have h1' : lt b a = false := by simpa using h1
    have h2' : lt c b = false := by simpa using h2
    show (!lt c a) = true
    rw [O.tr _ _ _ h1' h2']; rfl) (fun a b => by
      show (!lt b a || !lt a b) = true
      cases h : lt b a with
      | false => rfl
      | true => rw [O.asym _ _ h]; rfl) l
  exact this.imp fun h => by simpa using h
/-- there is one such list -/
theorem srtd_uniq {α : Type} {lt : α → α → Bool} (tot : ∀ a b, lt a b = false → lt b a = false → a = b) : ∀ {l m : List α}, SrtO.Srtd lt l → SrtO.Srtd lt m → l.Perm m → l = m
  | [], m, _, _, p => (List.nil_perm.mp p).symm
  | x :: l, [], _, _, p => absurd p.symm (by intro q; cases (List.nil_perm.mp q))
  | x :: l, y :: m, h1, h2, p => by
    have e : x = y := by
      rcases List.mem_cons.mp (p.mem_iff.mp List.mem_cons_self) with e | hx
      · exact e
      rcases List.mem_cons.mp (p.mem_iff.mpr List.mem_cons_self) with e | hy
      · exact e.symm
      exact tot _ _ ((List.pairwise_cons.mp h2).1 x hx) ((List.pairwise_cons.mp h1).1 y hy)
    subst e
    rw [srtd_uniq tot (List.pairwise_cons.mp h1).2 (List.pairwise_cons.mp h2).2 (List.perm_cons x |>.mp p)]
abbrev ilt (a b : Int) : Bool := decide (a < b)
theorem ilt_swo : SrtO.Swo ilt := ⟨fun x y h => decide_eq_false (by have := of_decide_eq_true h; omega), fun x y z h1 h2 => decide_eq_false (by have := of_decide_eq_false h1; have := of_decide_eq_false h2; omega)⟩
theorem ilt_tot (a b : Int) (h1 : ilt a b = false) (h2 : ilt b a = false) : a = b := by
  have := of_decide_eq_false h1
  have := of_decide_eq_false h2
  omega
abbrev sortI : List Int → List Int := sortBy ilt
abbrev sortR : List (List Int) → List (List Int) := sortBy llt
abbrev sortP : List (List Int × Int) → List (List Int × Int) := sortBy plt
/-! ### sorted(x), by what is collected -/
abbrev Kept (h h' : Heap) : Prop := ∀ b o, h.get? b = some o → h'.get? b = some o
section
variable {prog : Program} {w : World} {A : Around} {E : Value → Shared → Prop} {s : Shared}
theorem srt_any {u : Value} {C : List Value → Prop} {ltv : Value → Value → Bool} {Q : Value → Shared → Prop} (O : SrtO.Swo ltv) (hz : ∀ vs, C vs → vs.length ≤ sizeLine)
    (hcol : ∀ R : List Value → Shared → Prop, (∀ (h' : Heap) (tk : Nat) (vs : List Value), Kept s.heap h' → C vs → R vs { s with heap := h', toks := tk }) → wpAny (model prog w) A.in1 (collect u) R E s)
    (hS : ∀ (vs : List Value) (s1 : Shared) (a : Addr) (n : Nat), C vs → 2 ≤ vs.length → Kept s.heap s1.heap → s1.heap.get? a = some (PyProof.Rows.seqObj "list" vs.toArray n) → SrtO.SortableO prog w A.in1.in1 s1 a vs ltv)
    (h : ∀ (vs out : List Value) (h1 h' : Heap) (tk : Nat) (n : Nat), C vs → SrtO.Srtd ltv out → SrtO.Stb ltv out vs → Kept s.heap h1 → Kept h1 h' → h'.get? h1.objs.size = some (PyProof.Rows.seqObj "list" out.toArray n) → Q (.ref h1.objs.size) { s with heap := h', toks := tk }) :
    wpAny (model prog w) A (call (.builtin "sorted") [u]) Q E s := by
  refine Calls.call_function_entry PyProof.Rows.kind_sorted PyProof.Rows.plain_sorted PyProof.Rows.entry_sorted (PyProof.Rows.args_sorted1 _) ?_
  unfold Builtin.«sorted»
  refine wpAny_bind (m := checkCount "sorted" 1 1 _) (wpAny_pure ?_)
  refine wpAny_bind (hcol _ fun h' tk vs hk hc => ?_)
  refine wpAny_bind (wpAny_newList ?_ (hz vs hc))
  have hoL : (h'.push (PyProof.Rows.seqObj "list" vs.toArray 0)).get? h'.objs.size = some (PyProof.Rows.seqObj "list" vs.toArray 0) := Heap.get?_push_size _ rfl
  have keep : Kept s.heap (h'.push (PyProof.Rows.seqObj "list" vs.toArray 0)) := fun b o q => Heap.get?_push_of_some _ (hk b o q)
  show wpAny _ _ _ _ _ { s with heap := h'.push (PyProof.Rows.seqObj "list" vs.toArray 0), toks := tk }
  refine wpAny_bind (wpAny_holding (wpAny_call_entry PyProof.Rows.slot_list_sort ⟨_, hoL, rfl⟩ PyProof.Rows.entry_list_sort
    (SrtO.list_sort_ord O hoL (hz vs hc) (fun h2 => hS vs _ _ 0 hc h2 keep hoL) fun out hs hb => ⟨_, rfl, ?_⟩) (PyProof.Rows.args_list_sort _)))
  obtain ⟨n, hn⟩ := PyProof.Rows.sortedHeap_at (vs := vs) (out := out.toArray) hoL
  refine wpAny_pure ⟨_, rfl, h vs out h' _ tk n hc hs hb hk (fun b o q => ?_) hn⟩
  have hlt : b < h'.objs.size := Heap.lt_size q
  rw [PyProof.Rows.sortedHeap_old (Nat.ne_of_lt hlt) (by rw [PyProof.Rows.size_push']; exact Nat.lt_succ_of_lt hlt)]
  exact Heap.get?_push_of_some _ q
end
/-! ### the rules by values -/
theorem perm_lift {α β : Type} (f : α → β) : ∀ {l : List β} {m : List α}, l.Perm (m.map f) → ∃ m' : List α, m'.Perm m ∧ m'.map f = l
  | [], m, p => by
    have := List.nil_perm.mp p
    cases m with
    | nil => exact ⟨[], .refl _, rfl⟩
    | cons => cases this
  | x :: l, m, p => by
    obtain ⟨y, hy, rfl⟩ := List.mem_map.mp (p.mem_iff.mp List.mem_cons_self)
    obtain ⟨m1, m2, rfl⟩ := List.append_of_mem hy
    have q : l.Perm ((m1 ++ m2).map f) := by
      have := p.trans ((List.perm_middle (a := y) (l₁ := m1) (l₂ := m2)).map f)
      exact List.perm_cons _ |>.mp this
    obtain ⟨m', h1, h2⟩ := perm_lift f q
    exact ⟨y :: m', (h1.cons y).trans List.perm_middle.symm, by rw [List.map_cons, h2]⟩
theorem lexI {prog : Program} {w : World} {A : Around} {s : Shared} {Q : Bool → Shared → Prop} {b : Bool} : ∀ {xs ys : List Value} {ns ms : List Int} (i : Nat), PyProof.Rows.IntsAre xs ns → PyProof.Rows.IntsAre ys ms → Q (llt ns ms) s → PySem.W.KatLex prog w A b (decide (xs.length < ys.length)) Q (xs.zip ys) i s := by
  intro xs ys ns ms i hx
  induction hx generalizing ys ms i with
  | nil =>
    intro hy h
    cases hy with
    | nil => exact PySem.W.kat_nil h
    | @cons q u ys ms hy =>
      refine PySem.W.kat_nil ?_
      have e : decide (([] : List Value).length < (Value.int q u :: ys).length) = true := by simp
      rw [e]
      exact h
  | @cons p t xs ns hx ih =>
    intro hy h
    cases hy with
    | nil =>
      refine PySem.W.kat_nil ?_
      have e : decide ((Value.int p t :: xs).length < ([] : List Value).length) = false := by simp
      rw [e]
      exact h
    | @cons q u ys ms hy =>
      have e0 : decide ((Value.int p t :: xs).length < (Value.int q u :: ys).length) = decide (xs.length < ys.length) := by simp
      rw [e0]
      have h' : Q (HT.lexLt (p :: ns) (q :: ms)) s := h
      rw [HT.lexLt_cons] at h'
      show PySem.W.KatLex prog w A b _ Q ((Value.int p t, Value.int q u) :: xs.zip ys) i s
      refine PySem.W.kat_cons (wpAny_eqBool_int ?_)
      by_cases e : p = q
      · subst e
        rw [if_pos rfl] at h'
        rw [beq_self_eq_true]
        exact PySem.W.kat_yes (ih (i + 1) hy h')
      · rw [if_neg e] at h'
        rw [show (p == q) = false from beq_eq_false_iff_ne.mpr e]
        exact PySem.W.kat_no (TS.oneLt_ints _ h')
/-- the values are tuples of ints, all of at least one -/
theorem tups_sortable {prog : Program} {w : World} {A : Around} {s : Shared} {h0 : Heap} {a : Addr} {vs : List Value} {n : Nat} (h2 : 2 ≤ vs.length) (ha : s.heap.get? a = some (PyProof.Rows.seqObj "list" vs.toArray n)) (hk : Kept h0 s.heap)
    (x : ∀ v ∈ vs, ∃ r, TS.TupInts h0 v r ∧ r ≠ []) : SrtO.SortableO prog w A s a vs fun v u => llt (TS.intsOf h0 v) (TS.intsOf h0 u) := by
  intro h' keep
  have up : ∀ {v r}, TS.TupInts h0 v r → TS.TupInts h' v r := fun {v r} t => t.keeps fun b o e hc => keep b o (fun z => by
    subst z
    have := hk _ _ e
    rw [ha] at this
    cases this
    have c' : Value.type "list" = Value.type "tuple" := hc
    exact absurd (Value.type.inj c') (by decide)) (hk _ _ e)
  have firsts : ∀ ws : List Value, (∀ v ∈ ws, ∃ r, TS.TupInts h0 v r ∧ r ≠ []) → ∃ fs, PySem.W.KatTups h' ws fs ∧ fs.length = ws.length ∧ ∀ f ∈ fs, ∃ m t, f = Value.int m t := by
    intro ws
    induction ws with
    | nil => exact fun _ => ⟨[], PySem.W.KatTups.nil, rfl, fun f hf => by cases hf⟩
    | cons v ws ih =>
      intro y
      obtain ⟨fs, k1, k2, k3⟩ := ih fun u hu => y u (List.mem_cons_of_mem _ hu)
      obtain ⟨r, t, hr⟩ := y v List.mem_cons_self
      obtain ⟨b, xs, rfl, ⟨o, ho, hc, n, hd⟩, hi⟩ := up t
      cases hx : xs.toList with
      | nil =>
        rw [hx] at hi
        cases hi
        exact absurd rfl hr
      | cons f fr =>
        rw [hx] at hi
        cases hi with
        | cons m t' _ =>
          refine ⟨Value.int m t' :: fs, PySem.W.KatTups.cons ho hc hd ?_ k1, by simp [k2], fun f hf => ?_⟩
          · have : xs.toList[0]? = some (Value.int m t') := by rw [hx]; rfl
            simpa using this
          · rcases List.mem_cons.mp hf with rfl | hf
            · exact ⟨_, _, rfl⟩
            · exact k3 f hf
  obtain ⟨fs, k1, k2, k3⟩ := firsts vs x
  refine ⟨PyProof.Rows.tuples' true, fun Q E hq => ?_, ?_⟩
  · refine PySem.W.kat_kind (T := Value.type "int") k1 (by omega) (fun f hf => ?_) rfl hq
    obtain ⟨m, t, rfl⟩ := k3 f hf
    exact PySem.W.Looks.of_pure rfl
  · intro p q hp hq
    obtain ⟨r, t, _⟩ := x _ hp
    obtain ⟨r', t', _⟩ := x _ hq
    show wpAny (model prog w) A (PyProof.Rows.keyLt' (PyProof.Rows.tuples' true) p.1 q.1) (fun r s' => s' = _ ∧ r = llt (TS.intsOf h0 p.1) (TS.intsOf h0 q.1)) (fun _ _ => False) _
    rw [t.ints, t'.ints]
    obtain ⟨b, xs, e1, ⟨o, ho, hc, n, hd⟩, hi⟩ := up t
    obtain ⟨b', ys, e2, ⟨o', ho', hc', n', hd'⟩, hi'⟩ := up t'
    rw [e1, e2]
    refine PySem.W.kat_lt ho hd ho' hd' ?_
    have := lexI (prog := prog) (w := w) (A := A) (s := { s with heap := h' }) (b := true) (Q := fun z s' => s' = { s with heap := h' } ∧ z = llt r r') 0 hi hi' ⟨rfl, rfl⟩
    simpa using this
end DL

set_option Elab.async false
set_option linter.all false
set_option maxRecDepth 100000
set_option maxHeartbeats 2000000
/-! DL6: sorted(..) as rules. -/
namespace DL
open PySem L2
/-- a list or a tuple at a -/
theorem seq_items {X : Cx} {pins : List (Addr × Obj)} {σ : St} {H : Hp} {s : Shared} {a : Addr} {xs : List V} (I : Inv X pins σ H s) (h : SqL X.K H a xs ∨ SqT X.K H a xs) :
    ∃ (its : List Value) (T : String) (o : Obj) (n : Nat), Vals xs its ∧ xs.length ≤ sizeLine ∧ (T = "list" ∨ T = "tuple") ∧ s.heap.get? a = some o ∧ o.cls = .type T ∧ o.data = .seq its.toArray n := by
  rcases h with h | h
  · obtain ⟨its, rv, ⟨o, n, ho, hc, hd, hs⟩, hz⟩ := I.list h
    exact ⟨its, "list", o, n, rv, hz, Or.inl rfl, ho, hc, hs⟩
  · obtain ⟨its, rv, ⟨o, ho, hc, n, hd⟩, hz⟩ := I.tuple h
    exact ⟨its, "tuple", o, n, rv, hz, Or.inr rfl, ho, hc, hd⟩
def rSrtI (K : Fr) : List V → Hp → VK → Prop := fun vs H Q => ∃ (a : Addr) (ns : List Int), vs = [.ref a] ∧ (SqL K H a (ns.map V.int) ∨ SqT K H a (ns.map V.int)) ∧
  ∀ (ns' : List Int) (p : Addr), ns'.Perm ns → ns'.Pairwise (· ≤ ·) → H p = none → Q (.ref p) (upd H p (.lst (ns'.map V.int)))
theorem cl_srtI (K : Fr) {X : Cx} (hK : X.K = K := by rfl) : CallR X (.builtin "sorted") (rSrtI K) := by
  subst hK
  intro pins s σ H vs us Q I r h
  obtain ⟨a, ns, rfl, hs, q⟩ := h
  rw [Vals.ref1 r]
  obtain ⟨its, T, o, n, rv, hz, hT, ho, hc, hd⟩ := seq_items I hs
  have hi := rv.ints
  have hz' : its.length ≤ sizeLine := by rw [← rv.length]; exact hz
  refine srt_any (C := fun vs => vs = its) SrtO.swo_int (fun vs e => by rw [e]; exact hz') (fun R hR => ?_) (fun vs s1 a' n' e h2 _ _ => ?_) (fun vs out h1 h' tk n' e hs hb k1 k2 hp => ?_)
  · exact wpAny_collect_seq a hT ho hc hd (fun h' hk => hR h' s.toks _ hk (by simp)) (by simpa using hz')
  · subst e
    exact SrtO.ints_sortable hi h2
  · subst e
    obtain ⟨x1, x2, x3⟩ := SrtO.ints_out hi hs hb
    have I1 : Inv X pins σ H { s with heap := h1, toks := tk } := I.kept k1
    have hlen : ((out.map SrtO.iv).map V.int).length ≤ sizeLine := by
      rw [List.length_map, x2.length_eq]
      rw [List.length_map] at hz
      exact hz
    exact ⟨.ref _, upd H h1.objs.size (.lst ((out.map SrtO.iv).map V.int)), I1.laid (t' := tk) k2 (Nat.le_refl _) ⟨hlen, out, n', vals_of_ints x1, hp⟩, rfl, q _ _ x2 x3 (I1.hok.fresh (Nat.le_refl _))⟩
/-- rooms -/
abbrev IsRm (H : Hp) (z : V × List Int) : Prop := ∃ t, z.1 = V.ref t ∧ H t = some (.tup (z.2.map V.int))
theorem tupInts_of {X : Cx} {pins : List (Addr × Obj)} {σ : St} {H : Hp} {s : Shared} {z : V × List Int} {u : Value} (I : Inv X pins σ H s) (h : IsRm H z) (r : RelV z.1 u) : TS.TupInts s.heap u z.2 := by
  obtain ⟨t, e, ht⟩ := h
  rw [e] at r
  cases r
  obtain ⟨its, rv, it, _⟩ := I.tuple (SqT.of (K := X.K) ht)
  exact ⟨t, its.toArray, rfl, it, by simpa using rv.ints⟩
theorem zip_fst {α β : Type} : ∀ {l : List α} {m : List β}, l.length = m.length → (l.zip m).map Prod.fst = l
  | [], [], _ => rfl
  | a :: l, b :: m, h => by
    show a :: (l.zip m).map Prod.fst = _
    rw [zip_fst (by simpa using h)]
theorem zip_snd {α β : Type} : ∀ {l : List α} {m : List β}, l.length = m.length → (l.zip m).map Prod.snd = m
  | [], [], _ => rfl
  | a :: l, b :: m, h => by
    show b :: (l.zip m).map Prod.snd = _
    rw [zip_snd (by simpa using h)]
theorem vals_zip {α : Type} (f : α → V) : ∀ {zs : List α} {us : List Value}, Vals (zs.map f) us → ∀ p ∈ zs.zip us, RelV (f p.1) p.2
  | [], [], _, p, h => by cases h
  | z :: zs, u :: us, .cons a b, p, h => by
    rcases List.mem_cons.mp h with rfl | h
    · exact a
    · exact vals_zip f b p h
theorem vals_of_zip {α : Type} (f : α → V) : ∀ {ps : List (α × Value)}, (∀ p ∈ ps, RelV (f p.1) p.2) → Vals (ps.map fun p => f p.1) (ps.map Prod.snd)
  | [], _ => .nil
  | p :: ps, h => .cons (h p List.mem_cons_self) (vals_of_zip f fun q hq => h q (List.mem_cons_of_mem _ hq))
def rSrtR (K : Fr) : List V → Hp → VK → Prop := fun vs H Q => ∃ (a : Addr) (zs : List (V × List Int)), vs = [.ref a] ∧ SqL K H a (zs.map (·.1)) ∧ (∀ z ∈ zs, IsRm H z) ∧ (2 ≤ zs.length → ∀ z ∈ zs, z.2 ≠ []) ∧
  ∀ (ys : List (V × List Int)) (p : Addr), (∀ y ∈ ys, IsRm H y) → (ys.map (·.2)).Perm (zs.map (·.2)) → SrtO.Srtd llt (ys.map (·.2)) → H p = none → Q (.ref p) (upd H p (.lst (ys.map (·.1))))
/-- the sort of rooms, whatever they are collected from -/
theorem srt_rooms {X : Cx} {pins : List (Addr × Obj)} {σ : St} {H : Hp} {s : Shared} {Q : VK} {u : Value} {rs : List (List Int)} (I : Inv X pins σ H s) (hz : rs.length ≤ sizeLine) (hne : 2 ≤ rs.length → ∀ r ∈ rs, r ≠ [])
    (hcol : ∀ R : List Value → Shared → Prop, (∀ (h' : Heap) (tk : Nat) (vs : List Value), Kept s.heap h' → (∃ ws : List (V × List Int), ws.map (·.2) = rs ∧ (∀ z ∈ ws, IsRm H z) ∧ Vals (ws.map (·.1)) vs) → R vs { s with heap := h', toks := tk }) → wpAny (model X.prog X.w) X.A.in1 (collect u) R X.xe s)
    (q : ∀ (ys : List (V × List Int)) (p : Addr), (∀ y ∈ ys, IsRm H y) → (ys.map (·.2)).Perm rs → SrtO.Srtd llt (ys.map (·.2)) → H p = none → Q (.ref p) (upd H p (.lst (ys.map (·.1))))) :
    wpAny (model X.prog X.w) X.A (call (.builtin "sorted") [u]) (EP X pins σ Q) X.xe s := by
  have hO : SrtO.Swo (fun v u => llt (TS.intsOf s.heap v) (TS.intsOf s.heap u)) := ⟨fun _ _ h => llt_swo.asym _ _ h, fun _ _ _ h1 h2 => llt_swo.tr _ _ _ h1 h2⟩
  refine srt_any (C := fun vs => ∃ ws : List (V × List Int), ws.map (·.2) = rs ∧ (∀ z ∈ ws, IsRm H z) ∧ Vals (ws.map (·.1)) vs) hO (fun vs ⟨ws, e, _, rv⟩ => ?_) hcol (fun vs s1 a' n' ⟨ws, e, hw, rv⟩ h2 k1 hl => ?_) (fun vs out h1 h' tk n' ⟨ws, e, hw, rv⟩ hs hb k1 k2 hp => ?_)
  · have := congrArg List.length e
    rw [List.length_map] at this
    rw [← rv.length, List.length_map, this]
    exact hz
  · have hl2 : ws.length = rs.length := by
      have := congrArg List.length e
      rwa [List.length_map] at this
    refine tups_sortable h2 hl k1 fun v hv => ?_
    have hlen : ws.length = vs.length := by rw [← rv.length, List.length_map]
    have : v ∈ (ws.zip vs).map Prod.snd := by rw [zip_snd hlen]; exact hv
    obtain ⟨p, hp, rfl⟩ := List.mem_map.mp this
    have hm : p.1 ∈ ws := by
      have : p.1 ∈ (ws.zip vs).map Prod.fst := List.mem_map_of_mem hp
      rwa [zip_fst hlen] at this
    refine ⟨p.1.2, tupInts_of I (hw _ hm) (vals_zip (fun z : V × List Int => z.1) rv p hp), ?_⟩
    have h3 : p.1.2 ∈ rs := by rw [← e]; exact List.mem_map_of_mem hm
    exact hne (by rw [← hl2, hlen]; exact h2) _ h3
  · have hlen : ws.length = vs.length := by rw [← rv.length, List.length_map]
    have hperm : out.Perm ((ws.zip vs).map Prod.snd) := by rw [zip_snd hlen]; exact hb.perm
    obtain ⟨ps, hps, rfl⟩ := perm_lift Prod.snd hperm
    have hrel : ∀ p ∈ ps, RelV p.1.1 p.2 := fun p hp => vals_zip (fun z : V × List Int => z.1) rv p (hps.mem_iff.mp hp)
    have hmem : ∀ p ∈ ps, p.1 ∈ ws := fun p hp => by
      have : p.1 ∈ (ws.zip vs).map Prod.fst := List.mem_map_of_mem (hps.mem_iff.mp hp)
      rwa [zip_fst hlen] at this
    have I1 : Inv X pins σ H { s with heap := h1, toks := tk } := I.kept k1
    have rv' : Vals ((ps.map Prod.fst).map (·.1)) (ps.map Prod.snd) := by
      rw [List.map_map]
      exact vals_of_zip (fun z : V × List Int => z.1) hrel
    have hpl : ps.length = rs.length := by
      rw [hps.length_eq, List.length_zip, hlen, Nat.min_self, ← hlen]
      have := congrArg List.length e
      rwa [List.length_map] at this
    have hlen' : ((ps.map Prod.fst).map (·.1)).length ≤ sizeLine := by
      rw [List.length_map, List.length_map, hpl]; exact hz
    refine ⟨.ref _, upd H h1.objs.size (.lst ((ps.map Prod.fst).map (·.1))), I1.laid (t' := tk) k2 (Nat.le_refl _) ⟨hlen', _, n', rv', hp⟩, rfl, q (ps.map Prod.fst) _ (fun y hy => ?_) ?_ ?_ (I1.hok.fresh (Nat.le_refl _))⟩
    · obtain ⟨p, hp, rfl⟩ := List.mem_map.mp hy
      exact hw _ (hmem p hp)
    · have : (ps.map Prod.fst).Perm ws := by
        have h4 := hps.map Prod.fst
        rwa [zip_fst hlen] at h4
      have h5 := this.map (·.2)
      rwa [e] at h5
    · rw [List.map_map]
      rw [SrtO.Srtd, List.pairwise_map] at hs ⊢
      refine hs.imp_of_mem fun {p p'} hp hp' h => ?_
      have e1 := (tupInts_of I (hw _ (hmem p hp)) (hrel p hp)).ints
      have e2 := (tupInts_of I (hw _ (hmem p' hp')) (hrel p' hp')).ints
      rw [e1, e2] at h
      exact h
theorem cl_srtR (K : Fr) {X : Cx} (hK : X.K = K := by rfl) : CallR X (.builtin "sorted") (rSrtR K) := by
  subst hK
  intro pins s σ H vs us Q I r h
  obtain ⟨a, zs, rfl, hs, hr, hne, q⟩ := h
  rw [Vals.ref1 r]
  obtain ⟨its, T, o, n, rv, hz, hT, ho, hc, hd⟩ := seq_items I (Or.inl hs)
  have hz' : its.length ≤ sizeLine := by rw [← rv.length]; exact hz
  rw [List.length_map] at hz
  refine srt_rooms (rs := zs.map (·.2)) I (by rw [List.length_map]; exact hz) (fun h2 r hr' => ?_) (fun R hR => ?_) q
  · rw [List.length_map] at h2
    obtain ⟨z, hz1, rfl⟩ := List.mem_map.mp hr'
    exact hne h2 z hz1
  · exact wpAny_collect_seq a hT ho hc hd (fun h' hk => hR h' s.toks _ hk ⟨zs, rfl, hr, by simpa using rv⟩) (by simpa using hz')
/-- sorted(d), d a dict whose keys are tuples of ints -/
abbrev keyR (r : List Int) : List Key := r.map Sum.inl
theorem keyR_kV (r : List Int) : (keyR r).map kV = r.map V.int := by
  rw [List.map_map]
  rfl
def rSrtD (K : Fr) : List V → Hp → VK → Prop := fun vs H Q => ∃ (d : Addr) (kvs : List (List Key × V)) (rs : List (List Int)), vs = [.ref d] ∧ Rd H d (.dT kvs) ∧ kvs.map (·.1) = rs.map keyR ∧ (2 ≤ rs.length → ∀ r ∈ rs, r ≠ []) ∧
  ∀ (ys : List (V × List Int)) (p : Addr), (∀ y ∈ ys, IsRm H y) → (ys.map (·.2)).Perm rs → SrtO.Srtd llt (ys.map (·.2)) → H p = none → Q (.ref p) (upd H p (.lst (ys.map (·.1))))
theorem cl_srtD (K : Fr) {X : Cx} (hc : X.calm = true := by rfl) (hK : X.K = K := by rfl) : CallR X (.builtin "sorted") (rSrtD K) := by
  subst hK
  intro pins s σ H vs us Q I r h
  obtain ⟨d, kvs, rs, rfl, hd, hrs, hne, q⟩ := h
  rw [Vals.ref1 r]
  obtain ⟨z, hs, ks, pr, o, es, ep, ho, hx, hdt, he, hn⟩ := (show ObjOk X.prog X.w H s.heap d (.dT kvs) from hd.ok I.hok)
  have l2 : kvs.length = ks.length := Paired.length pr
  have l3 : kvs.length = rs.length := by
    have := congrArg List.length hrs
    rwa [List.length_map, List.length_map] at this
  have l1 : es.size = ks.length := by
    have := congrArg List.length he
    rwa [Array.length_toList, List.length_map] at this
  refine srt_rooms (rs := rs) I (by omega) hne (fun R hR => ?_) q
  refine PySem.W.kdu_collect (A := X.A.in1) (kdl_raw hs hx hdt) (I.ok.hd hc) ho (by omega) fun h' tk acc hk hacc => ?_
  refine hR h' tk _ hk ⟨(ks.zip rs).map fun p => (V.ref p.1.2.1, p.2), ?_, fun y hy => ?_, ?_⟩
  · rw [List.map_map]
    exact zip_snd (by omega)
  · obtain ⟨p, hp, rfl⟩ := List.mem_map.mp hy
    obtain ⟨i, hi, e⟩ := List.mem_iff_getElem.mp hp
    rw [List.length_zip] at hi
    have i1 : i < ks.length := by omega
    have i2 : i < rs.length := by omega
    have i3 : i < kvs.length := by omega
    rw [List.getElem_zip] at e
    obtain ⟨y, hy1, hy2, hy3, _⟩ := L2.paired_get pr (i := i) (a := kvs[i]) (List.getElem?_eq_getElem i3)
    rw [List.getElem?_eq_getElem i1] at hy1
    cases hy1
    have hk2 : kvs[i].1 = keyR rs[i] := by
      have := congrArg (fun l => l[i]?) hrs
      simp only [List.getElem?_map, List.getElem?_eq_getElem i3, List.getElem?_eq_getElem i2, Option.map_some] at this
      exact Option.some.inj this
    rw [← e]
    exact ⟨_, rfl, by rw [hk2, keyR_kV] at hy3; exact hy3⟩
  · rw [List.map_map]
    refine vals_of_at ?_ fun j x u hx' hu => ?_
    · have ha : acc.toList.length = es.size := by rw [Array.length_toList, hacc.1]
      rw [List.length_map, List.length_zip, ha]
      omega
    · rw [List.getElem?_map] at hx'
      have hj : j < acc.toList.length := (List.getElem?_eq_some_iff.mp hu).1
      rw [Array.length_toList, hacc.1] at hj
      have j1 : j < ks.length := by omega
      have j2 : j < rs.length := by omega
      rw [List.getElem?_eq_getElem (by rw [List.length_zip]; omega), List.getElem_zip] at hx'
      cases hx'
      obtain ⟨en, hen, hv⟩ := hacc.2 j u (by rw [← Array.getElem?_toList]; exact hu)
      have qe := congrArg (fun l => l[j]?) he
      simp only [Array.getElem?_toList, List.getElem?_map, List.getElem?_eq_getElem j1, Option.map_some] at qe
      rw [hen] at qe
      cases qe
      rw [hv]
      rfl
/-! ### by data -/
section
variable {K : Fr}
theorem isort_eq {ns ns' : List Int} (h1 : ns'.Perm ns) (h2 : ns'.Pairwise (· ≤ ·)) : ns' = sortI ns :=
  srtd_uniq ilt_tot (h2.imp fun h => decide_eq_false (by omega)) (sortBy_srtd ilt_swo ns) (h1.trans (sortBy_perm ilt ns).symm)
theorem rsort_eq {rs ys : List (List Int)} (h1 : ys.Perm rs) (h2 : SrtO.Srtd llt ys) : ys = sortR rs :=
  srtd_uniq (fun _ _ => llt_tot) h2 (sortBy_srtd llt_swo rs) (h1.trans (sortBy_perm llt rs).symm)
theorem rn_srtIA {b : Bool} {ns : List Int} : RcN K (rSrtI K) [D.sq b (ns.map D.int)] ((sortI ns).map D.int) := .mk fun {S H vs} e r Q q => by
  cases r with
  | cons x y =>
    cases y
    have main : ∀ (a : Addr), (SqL K H a (ns.map V.int) ∨ SqT K H a (ns.map V.int)) → rSrtI K [.ref a] H Q := fun a h => ⟨a, ns, rfl, h, fun ns' p h1 h2 hp => by
      rw [isort_eq h1 h2]
      exact q p _ _ _ (Gr.lay e hp) (e.none hp) hp upd_same (RpA.of_ints _)⟩
    cases b with
    | true =>
      cases x with
      | tup h r => rw [r.ints] at h; exact main _ (Or.inr (SqT.of (e _ _ h)))
    | false =>
      cases x with
      | lst h r => rw [r.ints] at h; exact main _ (Or.inl (SqL.of (e _ _ h)))
theorem rn_srtIL {ns : List Int} : RcN K (rSrtI K) [.lst (ns.map D.int)] ((sortI ns).map D.int) := rn_srtIA (b := false)
theorem rn_srtIT {ns : List Int} : RcN K (rSrtI K) [.tup (ns.map D.int)] ((sortI ns).map D.int) := rn_srtIA (b := true)
theorem rms_of {S H : Hp} (e : Ex S H) : ∀ {xs : List V} {rs : List (List Int)}, RpA K S xs (rs.map dR) → ∃ zs : List (V × List Int), zs.map (·.1) = xs ∧ zs.map (·.2) = rs ∧ ∀ z ∈ zs, IsRm H z
  | [], [], .nil => ⟨[], rfl, rfl, fun z h => by cases h⟩
  | x :: xs, r :: rs, .cons a b => by
    obtain ⟨zs, h1, h2, h3⟩ := rms_of e b
    refine ⟨(x, r) :: zs, by rw [List.map_cons, h1], by rw [List.map_cons, h2], fun z hz => ?_⟩
    rcases List.mem_cons.mp hz with rfl | hz
    · cases a with
      | tup h c => rw [c.ints] at h; exact ⟨_, rfl, e _ _ h⟩
    · exact h3 z hz
theorem rpA_rms {S H : Hp} : ∀ {ys : List (V × List Int)}, (∀ y ∈ ys, IsRm H y) → RpA K (flatS S H) (ys.map (·.1)) ((ys.map (·.2)).map dR)
  | [], _ => .nil
  | y :: ys, h => by
    obtain ⟨t, e, ht⟩ := h y List.mem_cons_self
    refine .cons ?_ (rpA_rms fun z hz => h z (List.mem_cons_of_mem _ hz))
    show Rp K (flatS S H) y.1 (dR y.2)
    rw [e]
    exact .tup (flatS_at ht (scV_ints _)) (RpA.of_ints _)
theorem rn_srtR {rs : List (List Int)} (hne : 2 ≤ rs.length → ∀ r ∈ rs, r ≠ []) : RcN K (rSrtR K) [.lst (rs.map dR)] ((sortR rs).map dR) := .mk fun {S H vs} e r Q q => by
  cases r with
  | cons x y =>
    cases y
    cases x with
    | lst h r =>
      obtain ⟨zs, h1, h2, h3⟩ := rms_of e r
      refine ⟨_, zs, rfl, by rw [h1]; exact SqL.of (e _ _ h), h3, fun h2' z hz => hne ?_ _ ?_, fun ys p hy hp hs hn => ?_⟩
      · rw [← h2, List.length_map]; exact h2'
      · rw [← h2]; exact List.mem_map_of_mem hz
      · rw [h2] at hp
        have g := Gr.flat e
        refine q p _ (flatS S H) _ (g.trans (Gr.lay g.sh hn)) (g.sh.none hn) hn upd_same ?_
        have := rpA_rms (K := K) (S := S) hy
        rwa [rsort_eq hp hs] at this
theorem rpe_keys {S : Hp} : ∀ {kvs : List (List Key × V)} {es : List (List Key × D)}, RpE K S kvs es → kvs.map (·.1) = es.map (·.1)
  | [], [], .nil => rfl
  | _ :: _, _ :: _, .cons _ b => by rw [List.map_cons, List.map_cons, rpe_keys b]
theorem rn_srtD {es : List (List Key × D)} {rs : List (List Int)} (hk : es.map (·.1) = rs.map keyR) (hne : 2 ≤ rs.length → ∀ r ∈ rs, r ≠ []) : RcN K (rSrtD K) [.dct es] ((sortR rs).map dR) := .mk fun {S H vs} e r Q q => by
  cases r with
  | cons x y =>
    cases y
    cases x with
    | dct h r =>
      refine ⟨_, _, rs, rfl, Or.inl (e _ _ h), (rpe_keys r).trans hk, hne, fun ys p hy hp hs hn => ?_⟩
      have g := Gr.flat e
      refine q p _ (flatS S H) _ (g.trans (Gr.lay g.sh hn)) (g.sh.none hn) hn upd_same ?_
      have := rpA_rms (K := K) (S := S) hy
      rwa [rsort_eq hp hs] at this
end
end DL

set_option Elab.async false
set_option linter.all false
set_option maxRecDepth 100000
set_option maxHeartbeats 2000000
/-! DL7: dicts whose keys are rooms. -/
namespace DL
open PySem L2
abbrev Ks := List Key
def valD {β : Type} (es : List (Ks × β)) (k : Ks) : Option β := (es.find? fun kv => decide (kv.1 = k)).map (·.2)
def putD {β : Type} (es : List (Ks × β)) (k : Ks) (v : β) : List (Ks × β) := if (es.any fun kv => decide (kv.1 = k)) = true then es.map (fun kv => if kv.1 = k then (kv.1, v) else kv) else es ++ [(k, v)]
section
variable {K : Fr} {S : Hp}
theorem rpe_val : ∀ {kvs : List (Ks × V)} {es : List (Ks × D)} (k : Ks), RpE K S kvs es → (valV kvs k = none ∧ valD es k = none) ∨ ∃ v d, valV kvs k = some v ∧ valD es k = some d ∧ Rp K S v d
  | [], [], k, .nil => Or.inl ⟨rfl, rfl⟩
  | (f, v) :: kvs, (_, d) :: es, k, .cons a b => by
    by_cases h : f = k
    · refine Or.inr ⟨v, d, ?_, ?_, a⟩
      · exact valV_pos h
      · unfold valD; rw [List.find?_cons_of_pos (by simpa using h)]; rfl
    · rw [valV_neg (p := (f, v)) h]
      have : valD ((f, d) :: es) k = valD es k := by unfold valD; rw [List.find?_cons_of_neg (by simpa using h)]
      rw [this]
      exact rpe_val k b
theorem rpe_any : ∀ {kvs : List (Ks × V)} {es : List (Ks × D)} (k : Ks), RpE K S kvs es → (kvs.any fun kv => decide (kv.1 = k)) = (es.any fun kv => decide (kv.1 = k))
  | [], [], k, .nil => rfl
  | (f, v) :: kvs, (_, d) :: es, k, .cons a b => by rw [List.any_cons, List.any_cons, rpe_any k b]
theorem rpe_map {v : V} {d : D} (r : Rp K S v d) (k : Ks) : ∀ {kvs : List (Ks × V)} {es : List (Ks × D)}, RpE K S kvs es → RpE K S (kvs.map fun kv => if kv.1 = k then (kv.1, v) else kv) (es.map fun kv => if kv.1 = k then (kv.1, d) else kv)
  | [], [], .nil => .nil
  | (f, v') :: kvs, (_, d') :: es, .cons a b => by
    show RpE K S ((if f = k then (f, v) else (f, v')) :: _) ((if f = k then (f, d) else (f, d')) :: _)
    by_cases h : f = k
    · rw [if_pos h, if_pos h]; exact .cons r (rpe_map r k b)
    · rw [if_neg h, if_neg h]; exact .cons a (rpe_map r k b)
theorem rpe_snoc {v : V} {d : D} (r : Rp K S v d) (k : Ks) : ∀ {kvs : List (Ks × V)} {es : List (Ks × D)}, RpE K S kvs es → RpE K S (kvs ++ [(k, v)]) (es ++ [(k, d)])
  | [], [], .nil => .cons r .nil
  | (f, v') :: kvs, (_, d') :: es, .cons a b => .cons a (rpe_snoc r k b)
theorem rpe_put {v : V} {d : D} {kvs : List (Ks × V)} {es : List (Ks × D)} (k : Ks) (h : RpE K S kvs es) (r : Rp K S v d) : RpE K S (putK kvs k v) (putD es k d) := by
  unfold putK putD
  rw [rpe_any k h]
  split
  · exact rpe_map r k h
  · exact rpe_snoc r k h
theorem len_putD {β : Type} (es : List (Ks × β)) (k : Ks) (v : β) : (putD es k v).length ≤ es.length + 1 := by
  unfold putD
  split
  · rw [List.length_map]; exact Nat.le_succ _
  · rw [List.length_append]; exact Nat.le_refl _
/-- the key's tuple -/
theorem key_at {H : Hp} {b : Addr} {r : List Int} (h : H b = some (.tup (r.map V.int))) : H b = some (.tup ((keyR r).map kV)) := by rw [keyR_kV]; exact h
end
section
variable {K : Fr} {ρ : Env} {te ta tb ty tx tv : TE} {d : D} {es : List (Ks × D)} {r : List Int} {P : Out → Prop}
theorem evd_inM {i : Nat} (hi : ρ[i]? = some (.md es)) (h : EvD K ty ρ (dR r)) : EvD K (tDIn ty (tVar i)) ρ (.bl (valD es (keyR r)).isSome) := .mk fun k Q q =>
  h k _ fun y S1 H1 g1 r1 => by
    obtain ⟨p, kvs, hs, h0, hS, hH, re⟩ := (k.grow g1).at_ i _ hi
    refine ⟨.ref p, hs, p, valV kvs (keyR r), rfl, ?_, ?_⟩
    · cases r1 with
      | tup hb rb =>
        rw [rb.ints] at hb
        exact DGet.t hH (key_at (g1.sh _ _ hb))
    · rcases rpe_val (keyR r) re with ⟨e1, e2⟩ | ⟨v, d, e1, e2, _⟩
      · rw [e1]
        have := q (.bl false) _ _ g1 (by rw [e2]; exact .bl _)
        exact this
      · rw [e1]
        have := q (.bl true) _ _ g1 (by rw [e2]; exact .bl _)
        exact this
theorem evd_inD (h : EvD K ty ρ (dR r)) (hd : EvD K tv ρ (.dct es)) : EvD K (tDIn ty tv) ρ (.bl (valD es (keyR r)).isSome) := .mk fun k Q q =>
  h k _ fun y S1 H1 g1 r1 => hd (k.grow g1) _ fun x S2 H2 g2 r2 => by
    cases r2 with
    | @dct p kvs _ hp re =>
      refine ⟨p, valV kvs (keyR r), rfl, ?_, ?_⟩
      · cases r1 with
        | tup hb rb =>
          rw [rb.ints] at hb
          exact DGet.t (g2.sh _ _ hp) (key_at (g2.hh _ _ (g1.sh _ _ hb)))
      · rcases rpe_val (keyR r) re with ⟨e1, e2⟩ | ⟨v, d, e1, e2, _⟩
        · rw [e1]
          have := q (.bl false) _ _ (g1.trans g2) (by rw [e2]; exact .bl _)
          exact this
        · rw [e1]
          have := q (.bl true) _ _ (g1.trans g2) (by rw [e2]; exact .bl _)
          exact this
/-- d.get(k, x), d the def's own dict -/
theorem evd_get2M {i : Nat} {d0 : D} (hi : ρ[i]? = some (.md es)) (h : EvD K ty ρ (dR r)) (h0 : EvD K tx ρ d0) : EvD K (tDGet2 (tVar i) ty tx) ρ ((valD es (keyR r)).getD d0) := .mk fun k Q q => by
  obtain ⟨p, kvs, hs, _, hS, hH, re⟩ := k.at_ i _ hi
  refine ⟨.ref p, hs, p, rfl, Or.inr ⟨kvs, Or.inl hH⟩, h k _ fun y S1 H1 g1 r1 => h0 (k.grow g1) _ fun z S2 H2 g2 r2 => ?_⟩
  refine ⟨valV kvs (keyR r), ?_, ?_⟩
  · cases r1 with
    | tup hb rb =>
      rw [rb.ints] at hb
      exact DGet.t (g2.hh _ _ (g1.hh _ _ hH)) (key_at (g2.hh _ _ (g1.sh _ _ hb)))
  · rcases rpe_val (keyR r) re with ⟨e1, e2⟩ | ⟨v, d, e1, e2, rr⟩
    · rw [e1]
      exact q _ _ _ (g1.trans g2) (by rw [e2]; exact r2)
    · rw [e1]
      exact q _ _ _ (g1.trans g2) (by rw [e2]; exact rr.mono (g1.trans g2).ss)
/-- d[k] -/
theorem evd_getD (hd : EvD K tv ρ (.dct es)) (h : EvD K ty ρ (dR r)) (hv : valD es (keyR r) = some d) : EvD K (tDGet tv ty) ρ d := .mk fun k Q q =>
  hd k _ fun x S1 H1 g1 r1 => h (k.grow g1) _ fun y S2 H2 g2 r2 => by
    have r1' := r1.mono g2.ss
    cases r1' with
    | @dct p kvs _ hp re =>
      rcases rpe_val (keyR r) re with ⟨e1, e2⟩ | ⟨v, d', e1, e2, rr⟩
      · rw [e2] at hv; cases hv
      · rw [e2] at hv
        cases hv
        refine ⟨p, v, rfl, ?_, q _ _ _ (g1.trans g2) rr⟩
        cases r2 with
        | tup hb rb =>
          rw [rb.ints] at hb
          rw [← e1]
          exact DGet.t (g2.sh _ _ hp) (key_at (g2.sh _ _ hb))
theorem evd_getL (hd : EvD K tv ρ (.dcl es)) (h : EvD K ty ρ (dR r)) (hv : valD es (keyR r) = some d) : EvD K (tDGet tv ty) ρ d := .mk fun k Q q =>
  hd k _ fun x S1 H1 g1 r1 => h (k.grow g1) _ fun y S2 H2 g2 r2 => by
    have r1' := r1.mono g2.ss
    cases r1' with
    | @dcl p o kvs _ hp re =>
      rcases rpe_val (keyR r) re with ⟨e1, e2⟩ | ⟨v, d', e1, e2, rr⟩
      · rw [e2] at hv; cases hv
      · rw [e2] at hv
        cases hv
        refine ⟨p, v, rfl, ?_, q _ _ _ (g1.trans g2) rr⟩
        cases r2 with
        | tup hb rb =>
          rw [rb.ints] at hb
          exact Or.inr ⟨kvs, keyR r, _, Or.inr ⟨o, g2.sh _ _ hp⟩, rfl, key_at (g2.sh _ _ hb), e1.symm⟩
theorem evd_getM {i : Nat} (hi : ρ[i]? = some (.md es)) (h : EvD K ty ρ (dR r)) (hv : valD es (keyR r) = some d) : EvD K (tDGet (tVar i) ty) ρ d := .mk fun k Q q => by
  obtain ⟨p, kvs, hs, _, hS, hH, re⟩ := k.at_ i _ hi
  refine ⟨.ref p, hs, h k _ fun y S1 H1 g1 r1 => ?_⟩
  rcases rpe_val (keyR r) re with ⟨e1, e2⟩ | ⟨v, d', e1, e2, rr⟩
  · rw [e2] at hv; cases hv
  · rw [e2] at hv
    cases hv
    refine ⟨p, v, rfl, ?_, q _ _ _ g1 (rr.mono g1.ss)⟩
    cases r1 with
    | tup hb rb =>
      rw [rb.ints] at hb
      rw [← e1]
      exact DGet.t (g1.hh _ _ hH) (key_at (g1.sh _ _ hb))
/-- d[k] = v -/
theorem sd_dput {i : Nat} (hi : ρ[i]? = some (.md es)) (hv : EvD K tv ρ d) (hk : EvD K ty ρ (dR r)) (hz : es.length < 1000000) (p : P (.nx (ρ.set i (.md (putD es (keyR r) d))))) : SD K (sDPut (tVar i) ty tv) ρ P := .mk fun Dn k f =>
  hv k _ fun v S1 H1 g1 r1 => by
    have k1 := k.grow g1
    obtain ⟨q, kvs, hs, h0, hS, hH, re⟩ := k1.at_ i _ hi
    refine ⟨.ref q, hs, hk k1 _ fun y S2 H2 g2 r2 => ?_⟩
    have k2 := k1.grow g2
    cases r2 with
    | @tup b xs _ hb rb =>
      rw [rb.ints] at hb
      have hz' : kvs.length < sizeLine := by
        have h4 : (1000000 : Nat) < sizeLine := by decide
        have := re.length
        omega
      refine ⟨q, upd H2 q (.dT (putK kvs (keyR r) v)), rfl, DPut.t (g2.hh _ _ hH) (key_at (g2.sh _ _ hb)) hz', f.nx _ _ _ _ p (g1.trans g2).ss (k2.mutate hi rfl rfl hs h0 (g2.new _ _ hS hH rfl) ⟨q, _, rfl, h0, g2.new _ _ hS hH rfl, upd_same, rpe_put _ (re.mono g2.ss) (r1.mono g2.ss)⟩)⟩
end
/-! ### a comprehension over a dict's keys -/
mutual
def D.nd : D → Bool
  | .lst ds => D.ndA ds
  | .tup ds => D.ndA ds
  | .frz ds => D.ndA ds
  | .obj _ _ => false
  | .dct _ => false
  | .dcl _ => false
  | .non => true
  | .bl _ => true
  | .int _ => true
  | .str _ => true
  | .ftu ds => D.ndA ds
def D.ndA : List D → Bool
  | [] => true
  | d :: ds => D.nd d && D.ndA ds
end
theorem Rp.swap {K : Fr} {S S' : Hp} {p : Addr} {kvs : List (Ks × V)} (hp : S p = some (.dT kvs) ∨ ∃ o, S p = some (.frz o (.dT kvs))) (e : ∀ a o, a ≠ p → S a = some o → S' a = some o) {v : V} {d : D} (h : Rp K S v d) : d.nd = true → Rp K S' v d := by
  have ne : ∀ {a : Addr} {u : HO}, S a = some u → (∀ k, u ≠ .dT k) → (∀ o k, u ≠ .frz o (.dT k)) → a ≠ p := by
    intro a u h h1 h2 z
    subst z
    rcases hp with q | ⟨o, q⟩
    · rw [h] at q; cases q; exact h1 _ rfl
    · rw [h] at q; cases q; exact h2 _ _ rfl
  refine Rp.rec (K := K) (S := S) (motive_1 := fun v d _ => d.nd = true → Rp K S' v d) (motive_2 := fun v d _ => D.ndA d = true → RpA K S' v d) (motive_3 := fun v d _ => True) (motive_4 := fun v d _ => True)
    (fun _ => .non) (fun b _ => .bl b) (fun b _ => .int b) (fun b _ => .str b) (fun h _ r q => ?_) (fun h _ r q => ?_) (fun h _ r q => ?_) (fun _ _ _ q => ?_) (fun _ _ _ q => ?_) (fun _ _ _ q => ?_) (fun h n _ r q => ?_)
    (fun _ => .nil) (fun _ _ a b q => ?_) trivial (fun _ _ _ _ => trivial) trivial (fun _ _ _ _ => trivial) h
  · rw [D.nd] at q
    exact .lst (e _ _ (ne h (by intro k z; cases z) (by intro o k z; cases z)) h) (r q)
  · rw [D.nd] at q
    exact .tup (e _ _ (ne h (by intro k z; cases z) (by intro o k z; cases z)) h) (r q)
  · rw [D.nd] at q
    refine .frz ?_ (r q)
    rcases h with (h | ⟨o, h⟩) | h
    · exact Or.inl (Or.inl (e _ _ (ne h (by intro k z; cases z) (by intro o k z; cases z)) h))
    · exact Or.inl (Or.inr ⟨o, e _ _ (ne h (by intro k z; cases z) (by intro o k z; cases z)) h⟩)
    · exact Or.inr h
  · rw [D.nd] at q; cases q
  · rw [D.nd] at q; cases q
  · rw [D.nd] at q; cases q
  · rw [D.nd] at q
    exact .ftu (e _ _ (ne h (by intro k z; cases z) (by intro o k z; cases z)) h) n (r q)
  · rw [D.ndA, Bool.and_eq_true] at q
    exact .cons (a q.1) (b q.2)
theorem RpA.swap {K : Fr} {S S' : Hp} {p : Addr} {kvs : List (Ks × V)} (hp : S p = some (.dT kvs) ∨ ∃ o, S p = some (.frz o (.dT kvs))) (e : ∀ a o, a ≠ p → S a = some o → S' a = some o) : ∀ {vs : List V} {ds : List D}, RpA K S vs ds → (∀ d ∈ ds, d.nd = true) → RpA K S' vs ds
  | [], [], .nil, _ => .nil
  | _ :: _, _ :: _, .cons a b, h => .cons (a.swap hp e (h _ List.mem_cons_self)) (b.swap hp e fun d hd => h d (List.mem_cons_of_mem _ hd))
theorem nd_ints : ∀ ns : List Int, D.ndA (ns.map D.int) = true
  | [] => by rw [List.map_nil, D.ndA]
  | n :: ns => by rw [List.map_cons, D.ndA, D.nd, nd_ints ns]; rfl
theorem nd_R (r : List Int) : (dR r).nd = true := by
  show D.nd (.tup _) = true
  rw [D.nd]; exact nd_ints r
theorem swapE {K : Fr} {S S' : Hp} {p : Addr} {kv : List (Ks × V)} (hp : S p = some (.dT kv) ∨ ∃ o, S p = some (.frz o (.dT kv))) (e : ∀ a o, a ≠ p → S a = some o → S' a = some o) : ∀ {kvs : List (Ks × V)} {es : List (Ks × D)}, RpE K S kvs es → (∀ q ∈ es, q.2.nd = true) → RpE K S' kvs es
  | [], [], .nil, _ => .nil
  | _ :: _, _ :: _, .cons a b, h => .cons (a.swap hp e (h _ List.mem_cons_self)) (swapE hp e b fun d hd => h d (List.mem_cons_of_mem _ hd))
/-- only the dict's own slot is known within -/
def lockE (ρ : Env) (i : Nat) (es : List (Ks × D)) : Env := (List.replicate ρ.length Ent.un).set i (.im (.dcl es))
theorem evn_lcKeys {K : Fr} {ρ : Env} {i : Nat} {es : List (Ks × D)} {rs : List (List Int)} {f : List Int → Env} {p : List Int → Bool} {h : List Int → D} {g : TG} {tt : TT} {te : TE} {vs : List Nat}
    (hi : ρ[i]? = some (.im (.dct es))) (hk : es.map (·.1) = rs.map keyR) (hn : ∀ q ∈ es, q.2.nd = true)
    (hg : ∀ r ∈ rs, GdD K g (dR r) (wipE (lockE ρ i es) vs) (f r) vs) (ht : ∀ r ∈ rs, EvB K tt (f r) (p r)) (he : ∀ r ∈ rs, p r = true → EvD K te (f r) (h r)) (hh : ∀ r ∈ rs, (h r).nd = true) (hz : rs.length ≤ 1000000) :
    EvN K (tLockE (tLc (iKeys (tVar i)) g tt te vs)) ρ ((rs.filter p).map h) := by
  refine .mk fun {S0 H0 S H σ} k Q q => ?_
  obtain ⟨x, hs, r0⟩ := k.at_ i _ hi
  cases r0 with
  | @dct d kvs _ hd re =>
    have hdH := k.ex _ _ hd
    refine ⟨d, .dT kvs, hdH, trivial, fun od => ?_⟩
    -- the locked world
    have e1 : Ex (upd S d (.frz od (.dT kvs))) (upd H d (.frz od (.dT kvs))) := fun a o h => by
      by_cases z : a = d
      · subst z; rw [upd_same] at h ⊢; exact h
      · rw [upd_ne z] at h ⊢; exact k.ex _ _ h
    have re' : RpE K (upd S d (.frz od (.dT kvs))) kvs es := swapE (Or.inl hd) (fun a o z h => by rw [upd_ne z]; exact h) re hn
    have il : i < ρ.length := (List.getElem?_eq_some_iff.mp hi).1
    have k1 : StOk K (upd S d (.frz od (.dT kvs))) (upd H d (.frz od (.dT kvs))) (upd S d (.frz od (.dT kvs))) (upd H d (.frz od (.dT kvs))) σ (lockE ρ i es) := by
      refine ⟨Gr.refl e1, by unfold lockE; rw [List.length_set, List.length_replicate]; exact k.len, fun j e hj => ?_, fun a b e f p ha hb me mf _ _ => ?_⟩
      · rcases get_set hj with ⟨z, w⟩ | ⟨z, w⟩
        · subst z w
          exact ⟨_, hs, .dcl upd_same re'⟩
        · have := List.eq_of_mem_replicate (List.mem_of_getElem? w)
          subst this
          trivial
      · exfalso
        rcases get_set ha with ⟨z, w⟩ | ⟨z, w⟩
        · rw [w] at me; cases me
        · rw [List.eq_of_mem_replicate (List.mem_of_getElem? w)] at me; cases me
    refine ⟨_, hs, d, od, rfl, Or.inr ⟨kvs, upd_same, fun Dl hD => ?_⟩⟩
    have hkk : kvs.map (·.1) = rs.map keyR := (rpe_keys re).trans hk
    have hkl : kvs.length = rs.length := by
      have := congrArg List.length hkk
      rwa [List.length_map, List.length_map] at this
    refine ⟨fun j m H' => j + m = rs.length ∧ ∃ S' acc, Gr (upd S d (.frz od (.dT kvs))) (upd H d (.frz od (.dT kvs))) S' H' ∧ S' Dl = none ∧ H' Dl = some (.lst acc) ∧ RpA K S' acc (((rs.take j).filter p).map h), ⟨rs.length, Nat.zero_add _, _, [], Gr.lay e1 hD, e1.none hD, upd_same, .nil⟩, ?_⟩
    rintro j m H' ⟨him, S', acc, g', hs', hacc, ra⟩
    have hfr : H' d = some (.frz od (.dT kvs)) := g'.hh _ _ upd_same
    have hfrS : S' d = some (.frz od (.dT kvs)) := g'.ss _ _ upd_same
    cases m with
    | zero =>
      have hj : j = rs.length := by omega
      subst hj
      rw [List.take_length] at ra
      refine Or.inl ⟨⟨hfr, by omega⟩, hfr, ?_⟩
      have nD : Dl ≠ d := fun z => by subst z; rw [upd_same] at hD; cases hD
      have hDH : H Dl = none := by rw [upd_ne nD] at hD; exact hD
      refine q Dl acc (upd S' d (.dT kvs)) (upd H' d (.dT kvs)) ⟨fun a o z => ?_, fun a o z => ?_, fun a o z => ?_, fun a o z z' m => ?_⟩ (by rw [upd_ne nD]; exact hs') hDH (by rw [upd_ne nD]; exact hacc) (RpA.swap (Or.inr ⟨od, hfrS⟩) (fun a o w z => by rw [upd_ne w]; exact z) ra fun x hx => ?_)
      · by_cases w : a = d
        · subst w; rw [upd_same]; rw [hd] at z; exact z
        · rw [upd_ne w]; exact g'.ss _ _ (by rw [upd_ne w]; exact z)
      · by_cases w : a = d
        · subst w; rw [upd_same] at z ⊢; exact z
        · rw [upd_ne w] at z ⊢; exact g'.sh _ _ z
      · by_cases w : a = d
        · subst w; rw [upd_same]; rw [hdH] at z; exact z
        · rw [upd_ne w]; exact g'.hh _ _ (by rw [upd_ne w]; exact z)
      · have w : a ≠ d := fun w => by subst w; rw [hd] at z; cases z
        rw [upd_ne w]
        exact g'.new a o (by rw [upd_ne w]; exact z) (by rw [upd_ne w]; exact z') m
      · obtain ⟨r, hr, rfl⟩ := List.mem_map.mp hx
        exact hh r (List.mem_filter.mp hr).1
    | succ m =>
      have hjl : j < rs.length := by omega
      have ha : rs[j]? = some rs[j] := List.getElem?_eq_getElem hjl
      have hm : rs[j] ∈ rs := List.getElem_mem hjl
      refine Or.inr ⟨⟨hfr, by omega⟩, fun H3 => j + 1 + m = rs.length ∧ ∃ S' acc, Gr (upd S d (.frz od (.dT kvs))) (upd H d (.frz od (.dT kvs))) S' H3 ∧ S' Dl = none ∧ H3 Dl = some (.lst acc) ∧ RpA K S' acc (((rs.take (j + 1)).filter p).map h), fun H3 h3 => ⟨m, Nat.lt_succ_self m, h3⟩, fun x H2 hy => ?_⟩
      obtain ⟨rfl, kk, vv, qa, hkv, rfl, hq⟩ := hy
      have hkey : kk = keyR rs[j] := by
        have := congrArg (fun l => l[j]?) hkk
        simp only [List.getElem?_map, hkv, ha, Option.map_some] at this
        exact Option.some.inj this
      rw [hkey, keyR_kV] at hq
      have g2 := Gr.flat g'.sh
      have r2 : Rp K (flatS S' H2) (.ref qa) (dR rs[j]) := .tup (flatS_at hq (scV_ints _)) (RpA.of_ints _)
      have k2 := ((k1.grow g').grow g2).wipe vs
      refine hg _ hm k2 r2 _ fun σ' k' e' l' => ⟨wipe_back e' l', ?_⟩
      refine ht _ hm k' _ fun S3 H3 g3 => ?_
      have g13 := (g'.trans g2).trans g3
      have hs3 : S3 Dl = none := g3.new _ _ (g2.new _ _ hs' hacc rfl) (g2.hh _ _ hacc) rfl
      have hacc3 : H3 Dl = some (.lst acc) := g3.hh _ _ (g2.hh _ _ hacc)
      have ra3 := ra.mono (g2.trans g3).ss
      cases hp : p rs[j] with
      | true =>
        rw [if_pos rfl]
        refine he _ hm hp (k'.grow g3) _ fun y S4 H4 g4 r4 => ⟨acc, g4.hh _ _ hacc3, ?_, by omega, S4, acc ++ [y], (g13.trans g4).upd hD (g4.new _ _ hs3 hacc3 rfl), g4.new _ _ hs3 hacc3 rfl, upd_same, ?_⟩
        · have hl := ra.length
          rw [List.length_map] at hl
          have h2 := List.length_filter_le p (rs.take j)
          have h3 : (rs.take j).length ≤ rs.length := by rw [List.length_take]; exact Nat.min_le_right _ _
          have h4 : (1000000 : Nat) < sizeLine := by decide
          omega
        · rw [filt_snoc ha, List.filter_append, List.map_append]
          have : List.filter p [rs[j]] = [rs[j]] := by rw [List.filter_cons, if_pos hp]; rfl
          rw [this]
          exact (ra3.mono g4.ss).snoc r4
      | false =>
        rw [if_neg Bool.false_ne_true]
        refine ⟨by omega, S3, acc, g13, hs3, hacc3, ?_⟩
        rw [filt_snoc ha, List.filter_append, List.map_append]
        have : List.filter p [rs[j]] = [] := by rw [List.filter_cons, if_neg (by rw [hp]; exact Bool.false_ne_true)]; rfl
        rw [this, List.map_nil, List.append_nil]
        exact ra3
end DL

set_option Elab.async false
set_option linter.all false
set_option maxRecDepth 100000
set_option maxHeartbeats 2000000
/-! DL8: enumerate over a tuple. -/
namespace PySem
open Sem (wp)
theorem dl_meets_enum1 {v : Value} {o : Obj} {Hh : Heap → Prop} (B : Begins v o Hh) :
    Meets (Builtin.«enumerate.__new__» ⟨[.type "enumerate", v], []⟩) (fun _ R s => Hh s.heap ∧ R (.ok (.ret (.ref (s.heap.push o).objs.size))) { s with heap := (s.heap.push o).push { cls := .type "enumerate", data := .fields #[.none, .bool false, .ref s.heap.objs.size, rawInt 0, .none, .none] } }) := by
  refine .of_wp fun prog w A R s hR => ?_
  rcases s with ⟨hp, g, d, tk, os⟩; rcases hR with ⟨hH, hR⟩
  have hsub := sub_enumerate
  have itr : ∀ {A' : Around} {E : Value → Shared → Prop} {Q : Value → Shared → Prop}, Q (.ref hp.objs.size) ⟨hp.push o, g, d, tk, os⟩ → wpAny (model prog w) A' (pyIter v) Q E ⟨hp, g, d, tk, os⟩ := fun q => B.iter prog w _ _ ⟨hp, g, d, tk, os⟩ _ hH q
  wp_walk using itr
  refine wpAny_stack_any fun st => wpAny_pure ?_
  split
  case h_1 c _ _ _ _ _ => cases (c == Value.type "enumerate") <;> (wp_walk using itr; exact ⟨_, rfl, hR⟩)
  all_goals (wp_walk using itr; exact ⟨_, rfl, hR⟩)
theorem dl_enum1 {prog : Program} {w : World} {A : Around} {E : Value → Shared → Prop} {s : Shared} {v : Value} {o : Obj} {Hh : Heap → Prop} {Q : Value → Shared → Prop} (B : Begins v o Hh) (h1 : Hh s.heap)
    (h : ∀ h', IsEnum h' (s.heap.objs.size + 1) s.heap.objs.size 0 .none → h'.get? s.heap.objs.size = some o → (∀ b o, s.heap.get? b = some o → h'.get? b = some o) → Q (.ref (s.heap.objs.size + 1)) { s with heap := h' }) :
    wpAny (model prog w) A (call (.type "enumerate") [v]) Q E s := by
  refine callType_new F.called_enumerate (by decide) (F.typeCall_enumerate_1 _) (F.newCall_enumerate_1 _) (fun obj => F.args_object_init_2 obj _) F.entry_enumerate_new (dl_meets_enum1 B) ⟨h1, ?_⟩
  have z : (s.heap.push o).objs.size = s.heap.objs.size + 1 := Heap.size_push ..
  show _ ∧ _
  rw [z]
  have e := Heap.get?_push_size (s.heap.push o) (o := { cls := .type "enumerate", data := .fields #[.none, .bool false, .ref s.heap.objs.size, rawInt 0, .none, .none] }) rfl
  rw [z] at e
  exact ⟨⟨_, e, rfl⟩, h _ e (Heap.get?_push_of_some _ (Heap.get?_push_size _ B.free)) fun b o x => Heap.get?_push_of_some _ (Heap.get?_push_of_some _ x)⟩
end PySem
namespace DL
open PySem L2
open PyProof.Rows (Call_ boot_enumerate)
/-- the tuple at a, its items in new pairs -/
def ItT (a : Addr) (xs : List V) : It :=
  ⟨fun i H => H a = some (.tup xs) ∧ i < xs.length, fun i H v H' => ∃ T x, v = .ref T ∧ H T = none ∧ H' = upd H T (.tup [.int (i : Nat), x]) ∧ xs[i]? = some x, fun i H => H a = some (.tup xs) ∧ i = xs.length⟩
theorem turn_enumT {P : Program} {w : World} {K : Fr} {elts : List Expr} {kk : Nat} {tpos : Pos} (a e it : Addr) (xs : List V) (hae : a ≠ e) (hai : a ≠ it) (hee : e ≠ it) :
    Turn P w K (.Tuple elts kk tpos) (ItT a xs) [e, it] e (fun i h => (∃ old, IsEnum h e it ((i : Nat) : Int) old) ∧ h.IsTupleIter it a i) where
  mem := List.mem_cons_self
  obj := fun i h st b hb => by
    obtain ⟨⟨old, he⟩, o, ho, hc, hd⟩ := st
    rcases List.mem_cons.mp hb with z | z
    · subst z; exact ⟨_, he, fun v q => nomatch q⟩
    · rw [List.mem_singleton.mp z]; exact ⟨o, ho, fun v q => by rw [hd] at q; cases q⟩
  keep := fun i h h' st k => by
    obtain ⟨⟨old, he⟩, o, ho, r⟩ := st
    exact ⟨⟨old, k e List.mem_cons_self _ he⟩, o, k it (List.mem_cons_of_mem _ List.mem_cons_self) o ho, r⟩
  item := by
    intro X hP hw hK hc i pins s σ H E I hf st hg
    subst hP hw hK
    obtain ⟨⟨old, he⟩, hit⟩ := st
    obtain ⟨hq, hi⟩ := hg
    obtain ⟨hlen, its, rv, ht⟩ := I.hok a _ hq
    have hx : xs[i]? = some xs[i] := List.getElem?_eq_getElem hi
    obtain ⟨u, hu, ru⟩ := rv.get hx
    have hh : X.A.in1.handled = none := I.ok.hd hc
    have D := Draws.tuple (prog := X.prog) (w := X.w) (A := X.A.in1) hh it a hai its.toArray
    have hsz : i < its.toArray.size := by
      have := rv.length
      simp only [List.size_toArray]; omega
    have hel : e < s.heap.objs.size := Heap.lt_size he
    have hil : it < s.heap.objs.size := by obtain ⟨_, q, _⟩ := hit; exact Heap.lt_size q
    have hef : e ∉ [it, a] := fun z => by
      rcases List.mem_cons.mp z with q | q
      · exact hee q
      · exact hae (List.mem_singleton.mp q).symm
    refine wpAny_pyNext_enum_itemD D he ⟨hit, ht⟩ hsz hee hef fun x h' tk hPx ho hit' hT hz hk => ?_
    have hxu : x = u := by
      have q : its[i]? = some x := by simpa using hPx
      rw [hu] at q; exact (Option.some.inj q).symm
    subst hxu
    refine ⟨_, rfl, wpAny_letOwnedTupleGo_enum (s := { s with heap := h', toks := tk + 1 }) ho fun h'' he' sb => ?_⟩
    have hT2 : h''.get? s.heap.objs.size = some { cls := .type "tuple", data := .seq #[.int i tk, x] } := (sb.2 _ (Nat.ne_of_gt hel)).trans hT
    have new : ObjOk X.prog X.w (upd H s.heap.objs.size (.tup [.int (i : Nat), xs[i]])) h'' s.heap.objs.size (.tup [.int (i : Nat), xs[i]]) := ⟨by show 2 ≤ sizeLine; decide, [.int i tk, x], .cons ⟨_, rfl⟩ (.cons ru .nil), ⟨_, hT2, rfl, _, rfl⟩⟩
    have I1 : Inv X pins σ (upd H s.heap.objs.size (.tup [.int (i : Nat), xs[i]])) { s with heap := h'', toks := tk + 1 } :=
      I.turnedNew (ch := [e, it]) (fun b ob hb q => (sb.2 b (fun z => hb (by rw [z]; exact List.mem_cons_self))).trans (hk b ob (fun z => hb (by rw [z]; exact List.mem_cons_self)) (fun z => hb (by rw [z]; exact List.mem_cons_of_mem _ List.mem_cons_self)) q)) hf (Nat.le_refl _) new
    refine ⟨.ref s.heap.objs.size, _, I1, rfl, ⟨_, xs[i], rfl, I.hok.fresh (Nat.le_refl _), rfl, hx⟩, ⟨⟨x, ?_⟩, ?_⟩, fun b hb => ?_⟩
    · have e1 : ((i + 1 : Nat) : Int) = (i : Int) + 1 := by omega
      rw [e1]; exact he'
    · obtain ⟨⟨o2, ho2, r2⟩, _⟩ := hit'
      exact ⟨o2, (sb.2 it (Ne.symm hee)).trans ho2, r2⟩
    · have hb' : b < s.heap.objs.size := by
        rcases List.mem_cons.mp hb with z | z
        · rw [z]; exact hel
        · rw [List.mem_singleton.mp z]; exact hil
      rw [upd_ne (Nat.ne_of_lt hb')]
      exact (hf b hb).1
  done := by
    intro X hP hw hK hc i pins s σ H E I hf st hg
    subst hP hw hK
    obtain ⟨⟨old, he⟩, hit⟩ := st
    obtain ⟨hq, hi⟩ := hg
    obtain ⟨hlen, its, rv, ht⟩ := I.hok a _ hq
    have hh : X.A.in1.handled = none := I.ok.hd hc
    have D := Draws.tuple (prog := X.prog) (w := X.w) (A := X.A.in1) hh it a hai its.toArray
    have hsz : i = its.toArray.size := by
      have := rv.length
      simp only [List.size_toArray]; omega
    obtain ⟨f0, f1, f2, f3, f4, f5⟩ := hf it (List.mem_cons_of_mem _ List.mem_cons_self)
    refine wpAny_pyNext_enum_endD D he (by rw [← hsz]; exact ⟨hit, ht⟩) fun h' eb => ⟨rfl, I.turned (t' := s.toks) (fun b o hb q => eb b o hb q) f0 f1 f3 f4 f5⟩
  self := fun A i s Q E st h => by
    obtain ⟨⟨_, he⟩, _⟩ := st
    exact wpAny_pyIter_enum he h
def iEnumQ (K : Fr) (ta : TA) : TI := fun σ H R => ta σ H fun vs H1 => ∃ a xs, vs = [.ref a] ∧ ((SqL K H1 a xs ∧ R (Ite K a) H1) ∨ (H1 a = some (.tup xs) ∧ R (ItT a xs) H1))
theorem pi_enumQ {X : Cx} {e : Expr} {ta : TA} {p pos tpos : Pos} {elts : List Expr} {kk : Nat} (hg : Gl X "enumerate") (hm : X.mg "enumerate" = none) (ha : PA X [e] ta) (hs : starEach [e] X.env = [(false, eval e X.env)] := by rfl) :
    PI X (.Tuple elts kk tpos) (.Call (.Name "enumerate" p) [e] [] pos) (iEnumQ X.K ta) := by
  refine ⟨fun pins s σ H R I h => ?_⟩
  refine Call_ (ld_blt I hg hm boot_enumerate (PyProof.Rows.callWith_type1 (thn (ha.run pos pins s σ H _ I h) fun us s1 ⟨vs, H1, I1, r1, q1⟩ => ?_) hs rfl))
  obtain ⟨a, xs, ex, q⟩ := q1
  subst ex
  cases r1 with
  | cons r rr =>
    cases rr
    cases r
    have fpo : ∀ b ∈ [s1.heap.objs.size + 1, s1.heap.objs.size], FpOk X pins H1 b := fun b hb => by
      have hle : s1.heap.objs.size ≤ b := by
        rcases List.mem_cons.mp hb with z | z
        · rw [z]; exact Nat.le_succ _
        · rw [List.mem_singleton.mp z]; exact Nat.le_refl _
      exact I1.fpOk hle (I1.hok.fresh hle)
    rcases q with ⟨hq, q⟩ | ⟨hq, q⟩
    · obtain ⟨its, rv, p', hz⟩ := I1.list hq
      refine call_enumerate_list p'.isList fun h' he hit hsz hk => wpAny_pyIter_enum he ?_
      exact ⟨s1.heap.objs.size + 1, [s1.heap.objs.size + 1, s1.heap.objs.size], _, _, H1, rfl, I1.kept (t' := s1.toks) hk, turn_enum a (s1.heap.objs.size + 1) s1.heap.objs.size, ⟨⟨.none, he⟩, hit, Nat.succ_ne_self _⟩, fpo, q⟩
    · obtain ⟨hlen, its, rv, ht⟩ := I1.hok a _ hq
      have hal : a < s1.heap.objs.size := ht.lt
      refine dl_enum1 (begins_tuple a its.toArray) ht fun h' he hit hk => wpAny_pyIter_enum he ?_
      exact ⟨s1.heap.objs.size + 1, [s1.heap.objs.size + 1, s1.heap.objs.size], _, _, H1, rfl, I1.kept (t' := s1.toks) hk, turn_enumT a (s1.heap.objs.size + 1) s1.heap.objs.size xs (Nat.ne_of_lt (Nat.lt_succ_of_lt hal)) (Nat.ne_of_lt hal) (Nat.succ_ne_self _), ⟨⟨.none, he⟩, _, hit, rfl, rfl⟩, fpo, q⟩
theorem pi_enumQK (K : Fr) {X : Cx} {e : Expr} {t : TA} {p pos tpos : Pos} {elts : List Expr} {kk : Nat} (hg : Gl X "enumerate") (hm : X.mg "enumerate" = none) (ha : PA X [e] t) (hs : starEach [e] X.env = [(false, eval e X.env)] := by rfl) (hK : X.K = K := by rfl) : PI X (.Tuple elts kk tpos) (.Call (.Name "enumerate" p) [e] [] pos) (iEnumQ K t) := by subst hK; exact pi_enumQ hg hm ha hs
abbrev enD (ds : List D) : List D := (List.range ds.length).map fun i => D.tup [.int ((i : Nat) : Int), ds.getD i .non]
theorem enD_at {ds : List D} {i : Nat} {d : D} (h : (enD ds)[i]? = some d) : ∃ x, ds[i]? = some x ∧ d = .tup [.int ((i : Nat) : Int), x] := by
  rw [List.getElem?_map] at h
  cases hr : (List.range ds.length)[i]? with
  | none => rw [hr] at h; cases h
  | some j =>
    rw [hr] at h
    obtain ⟨hl, hj⟩ := List.getElem?_eq_some_iff.mp hr
    rw [List.getElem_range] at hj
    rw [List.length_range] at hl
    cases h
    subst hj
    exact ⟨_, by rw [List.getD_eq_getElem?_getD, List.getElem?_eq_getElem hl]; rfl, rfl⟩
theorem walk_ite {K : Fr} {S : Hp} {a : Addr} {xs : List V} {ds : List D} (hs : S a = some (.lst xs)) (ra : RpA K S xs ds) : WalkD K (Ite K a) S (enD ds) where
  go i S2 H2 hi e e1 := by
    have : i < xs.length := by rw [ra.length]; simpa using hi
    exact ⟨xs, xs[i], SqL.of ((e.trans e1) _ _ hs), List.getElem?_eq_getElem this⟩
  yld i S2 H2 H3 x d e e1 h hd := by
    obtain ⟨T, y, rfl, hT, rfl, z⟩ := h
    obtain ⟨w, hw, rfl⟩ := enD_at hd
    obtain ⟨v, a1, b1⟩ := ra.get hw
    have := z _ (SqL.of ((e.trans e1) _ _ hs))
    rw [a1] at this
    cases this
    have g := Gr.add e1 (o := .tup [.int (i : Nat), y]) hT
    exact ⟨_, g, .tup upd_same (.cons (.int _) (.cons (b1.mono (e.trans g.ss)) .nil))⟩
  stop S2 H2 e e1 := by
    refine ⟨xs, SqL.of ((e.trans e1) _ _ hs), ?_⟩
    rw [List.length_map, List.length_range, ra.length]
    exact Nat.le_refl _
theorem walk_itt {K : Fr} {S : Hp} {a : Addr} {xs : List V} {ds : List D} (hs : S a = some (.tup xs)) (ra : RpA K S xs ds) : WalkD K (ItT a xs) S (enD ds) where
  go i S2 H2 hi e e1 := ⟨(e.trans e1) _ _ hs, by rw [ra.length]; simpa using hi⟩
  yld i S2 H2 H3 x d e e1 h hd := by
    obtain ⟨T, y, rfl, hT, rfl, z⟩ := h
    obtain ⟨w, hw, rfl⟩ := enD_at hd
    obtain ⟨v, a1, b1⟩ := ra.get hw
    rw [a1] at z
    cases z
    have g := Gr.add e1 (o := .tup [.int (i : Nat), y]) hT
    exact ⟨_, g, .tup upd_same (.cons (.int _) (.cons (b1.mono (e.trans g.ss)) .nil))⟩
  stop S2 H2 e e1 := ⟨(e.trans e1) _ _ hs, by rw [List.length_map, List.length_range, ra.length]⟩
theorem iv_enumQ {K : Fr} {ρ : Env} {b : Bool} {ta : TA} {ds : List D} (h : EvA K ta ρ [D.sq b ds]) : IvD K (iEnumQ K ta) ρ (enD ds) := .mk fun k R q => h k _ fun vs S1 H1 g1 r => by
  cases r with
  | cons a c =>
    cases c
    cases b with
    | false => cases a with
      | lst hs ra => exact ⟨_, _, rfl, Or.inl ⟨SqL.of (g1.sh _ _ hs), q _ S1 _ g1 (walk_ite hs ra)⟩⟩
    | true => cases a with
      | tup hs ra => exact ⟨_, _, rfl, Or.inr ⟨g1.sh _ _ hs, q _ S1 _ g1 (walk_itt hs ra)⟩⟩
end DL

set_option Elab.async false
set_option linter.all false
set_option maxRecDepth 100000
set_option maxHeartbeats 2000000
/-! DL9: len(set(row)), row.index(place). -/
namespace DL
open PySem L2
open PyProof.Rows (Call_ callWith_builtin1 callWith_type1 args_cons args_nil boot_set)
theorem nodup_le {α : Type} [DecidableEq α] : ∀ {l m : List α}, l.Nodup → (∀ x ∈ l, x ∈ m) → l.length ≤ m.length
  | [], _, _, _ => Nat.zero_le _
  | a :: l, m, nd, h => by
    obtain ⟨h1, h2⟩ := List.nodup_cons.mp nd
    have ha : a ∈ m := h a List.mem_cons_self
    have := nodup_le (m := m.erase a) h2 fun x hx => (List.mem_erase_of_ne fun e => h1 (by rw [← e]; exact hx)).mpr (h x (List.mem_cons_of_mem _ hx))
    rw [List.length_erase_of_mem ha] at this
    have := List.length_pos_of_mem ha
    rw [List.length_cons]
    omega
theorem ints_is {ns : List Int} {us : List Value} (h : Vals (ns.map V.int) us) : PyProof.Rows.IntsAre us ns := h.ints
def tLenSetQ (K : Fr) (ta : TE) : TE := fun σ H Q => ta σ H fun x H1 => ∃ (l : Addr) (ns : List Int), x = .ref l ∧ SqT K H1 l (ns.map V.int) ∧ ns.Nodup ∧ ns.length ≤ 4000 ∧ Q (.int (ns.length : Nat)) H1
theorem setr_card {w : World} {h : Heap} {a : Addr} {ns : List Int} {c : Nat} (nd : ns.Nodup) (R : SetR w h a (fun j => decide (j ∈ ns)) c) : c = ns.length := by
  obtain ⟨o, es, ep, t, _, _, _, _, kd, mem, _, _, hn, _⟩ := R
  have e : (es.toList.map keyOf).length = c := by rw [List.length_map, Array.length_toList]; exact hn
  have m : ∀ x : Int, x ∈ ns ↔ x ∈ es.toList.map keyOf := fun x => by rw [← mem x]; exact decide_eq_true_iff.symm
  rw [← e]
  apply Nat.le_antisymm
  · exact (nodup_le kd fun x hx => (m x).mpr hx)
  · exact (nodup_le nd fun x hx => (m x).mp hx)
theorem pe_lenSetQ {X : Cx} {a : Expr} {ta : TE} {p p2 q pos : Pos} (hg : Gl X "len") (hm : X.mg "len" = none) (hg2 : Gl X "set") (hm2 : X.mg "set" = none) (ha : PE X a ta) (hc : X.calm = true := by rfl)
    (na : starEach [a] X.env = (false, eval a X.env) :: starEach [] X.env := by rfl) : PE X (.Call (.Name "len" p) [.Call (.Name "set" p2) [a] [] q] [] pos) (tLenSetQ X.K ta) := by
  constructor
  intro pins s σ H Q I h
  refine Call_ (ld_blt I hg hm boot_len (callWith_builtin1 (args_cons (Call_ (ld_blt I hg2 hm2 boot_set (callWith_type1 (args_cons (thn (ha.run pins s σ H _ I h) fun v s1 z => args_nil ?_) na) na rfl))) rfl) rfl rfl))
  obtain ⟨x, H1, I1, rx, l, ns, e, hq, nd, hl, fin⟩ := z
  subst e
  cases rx
  obtain ⟨its, rv, pl, hz⟩ := I1.tuple hq
  refine call_set_tupI ns (I1.ok.hd hc) pl (by simpa using ints_is rv) (by unfold scanBound; omega) fun h' tk c hS _ kp => args_nil ?_
  have hc' := setr_card nd hS
  subst hc'
  obtain ⟨o, es, ep, t, ho, hex, hd, _, _, _, _, hf, hn, _⟩ := hS
  exact call_len_set ho hex hd hf (by rw [hn]; omega) ⟨.int ns.length, H1, (I1.kept (t' := tk) kp).tok _, ⟨_, by rw [hn]⟩, fin⟩
theorem pe_lenSetK (K : Fr) {X : Cx} {a : Expr} {ta : TE} {p p2 q pos : Pos} (hg : Gl X "len") (hm : X.mg "len" = none) (hg2 : Gl X "set") (hm2 : X.mg "set" = none) (ha : PE X a ta) (hc : X.calm = true := by rfl)
    (na : starEach [a] X.env = (false, eval a X.env) :: starEach [] X.env := by rfl) (hK : X.K = K := by rfl) : PE X (.Call (.Name "len" p) [.Call (.Name "set" p2) [a] [] q] [] pos) (tLenSetQ K ta) := by subst hK; exact pe_lenSetQ hg hm hg2 hm2 ha hc na
theorem evd_lenSet {K : Fr} {ρ : Env} {ta : TE} {ns : List Int} (h : EvD K ta ρ (dR ns)) (nd : ns.Nodup) (hl : ns.length ≤ 4000) : EvD K (tLenSetQ K ta) ρ (.int (ns.length : Nat)) := .mk fun k Q q => h k _ fun v S1 H1 g1 r => by
  cases r with
  | tup hs ra =>
    rw [ra.ints] at hs
    exact ⟨_, ns, rfl, SqT.of (g1.sh _ _ hs), nd, hl, q _ _ _ g1 (.int _)⟩
/-! ### index -/
def rTIx (K : Fr) : V → List V → Hp → VK → Prop := fun x xs H Q => ∃ (a : Addr) (ns : List Int) (k : Int) (j : Nat), x = V.ref a ∧ xs = [.int k] ∧ SqT K H a (ns.map V.int) ∧ ns[j]? = some k ∧ (∀ m, m < j → ns[m]? ≠ some k) ∧ Q (.int (j : Nat)) H
theorem mt_tix (K : Fr) {X : Cx} (hK : X.K = K := by rfl) : MtR X "tuple.index" (rTIx K) := by
  subst hK
  intro pins s σ H x xs v us Q I rx rs ⟨a, ns, k, j, ex, exs, hq, hy, hno, q⟩
  subst ex exs
  cases rx
  obtain ⟨u, rfl, t, rfl⟩ := vals1 rs
  obtain ⟨its, rv, ⟨⟨cls, dd, dt, sl⟩, ho, hc, n, hd⟩, hz⟩ := I.tuple hq
  simp only at hc hd
  subst hc hd
  have hl : its.toArray.size = ns.length := by rw [List.size_toArray, ← rv.length, List.length_map]
  have hj : j < its.toArray.size := hl ▸ (List.getElem?_eq_some_iff.mp hy).1
  have each : ∀ (m : Nat) (hm : m < its.toArray.size), ∃ y t', ns[m]? = some y ∧ its.toArray[m] = Value.int y t' := fun m hm => by
    have hm' : m < ns.length := hl ▸ hm
    obtain ⟨w, hw, t', hw'⟩ := rv.get (i := m) (x := .int ns[m]) (by simp [hm'])
    exact ⟨ns[m], t', List.getElem?_eq_getElem hm', by rw [← hw', ← (List.getElem?_eq_some_iff.mp hw).2]; simp⟩
  refine call_meets PySem.F.slot_tuple_index ⟨_, ho, rfl⟩ PySem.F.entry_tuple_index (PySem.F.args_tuple_index_2 _ _) (TI.tuple_indexAt a its.toArray n dd sl (.int k t) (eqU (.int k)) j hj ?_ fun m hm hmj => ?_)
    ⟨ho, fun w hw => mem_eqAt (x := .int k) ⟨t, rfl⟩ rfl rv (flat_ints ns) w (by simpa using hw), ⟨.int (j : Nat), H, I.tok _, ⟨_, rfl⟩, q⟩⟩
  · obtain ⟨y, t', h1, h2⟩ := each j hj
    rw [hy] at h1
    cases h1
    rw [h2]
    exact beq_self_eq_true k
  · obtain ⟨y, t', h1, h2⟩ := each m hm
    rw [h2]
    exact beq_eq_false_iff_ne.mpr fun e => hno m hmj (e ▸ h1)
/-- a method of a new tuple -/
def tBMF (r : V → List V → Hp → VK → Prop) (to : TE) (t : TA) : TE := fun σ H Q => to σ H fun x H1 => (∃ (a : Addr) (o : Obj) (xs : List V), x = V.ref a ∧ H1 a = some (.frz o (.tup xs)) ∧ o.dict = none) ∧ t σ H1 fun xs H2 => r x xs H2 Q
theorem pe_bmF {X : Cx} {o e : Expr} {to : TE} {t : TA} {name : Str} {id : String} {r : V → List V → Hp → VK → Prop} {apos cpos : Pos} (slot : Slot "tuple" name id) (hty : typeOf (.builtin id) = pure (.type "method_descriptor")) (hm : MtR X id r) (ho : PE X o to) (ha : PA X [e] t)
    (hbase : attributeBase o name X.env (eval o X.env) = eval o X.env := by rfl)
    (hfew : ((backTo cpos (starEach [e] X.env)).all (fun x => !x.1) && (backToKw cpos (keywordEach [] X.env)).all (fun x => x.1.isSome) && decide (([e] : List Expr).length + ([] : List Keyword).length + (if ([] : List Keyword).isEmpty then 0 else 1) < 30)) = true := by rfl)
    (hline : (apos.endLine == cpos.line) = true := by rfl) (hs : starEach [e] X.env = (false, eval e X.env) :: starEach [] X.env := by rfl) (hplain : (backTo cpos (starEach [] X.env)).any (·.1) = false := by rfl) :
    PE X (.Call (.Attribute o name apos) [e] [] cpos) (tBMF r to t) := by
  constructor
  intro pins s σ H Q I h
  refine wpAny_Call_method_late hbase hfew hline rfl (thn (ho.run pins s σ H _ I h) fun v s1 z => ?_)
  obtain ⟨x, H1, I1, r1, ⟨a, ob, xs, rfl, ha', hod⟩, q1⟩ := z
  have rx := r1
  cases r1
  obtain ⟨hoa, hlen, its, rv, ht⟩ := I1.hok a _ ha'
  refine ⟨"tuple", id, PySem.F.plainAttrs_tuple, slot, hty, ht.typeIs, fun b hb => by cases hb; exact ⟨ob, hoa, hod⟩, ?_⟩
  have hA := ha.run cpos pins s1 σ H1 _ I1 q1
  rw [hs] at hA ⊢
  refine Calls.callWith_builtin (by show (false || (backTo cpos (starEach [] X.env)).any (·.1)) = false; rw [hplain]; rfl) (Calls.evalArgs_plain ?_)
  refine thn hA fun us s2 z => ?_
  obtain ⟨vs, H2, I2, r2, q2⟩ := z
  exact hm pins s2 σ H2 _ vs _ us Q I2 rx r2 q2
theorem mt_lix (K : Fr) {X : Cx} (hK : X.K = K := by rfl) : MtR X "list.index" (rIndex K) := by subst hK; exact mt_index
/-- the first place of k in ns -/
def ixOf (k : Int) : List Int → Nat
  | [] => 0
  | n :: ns => if n = k then 0 else ixOf k ns + 1
theorem ixOf_lt {k : Int} : ∀ {ns : List Int}, k ∈ ns → ixOf k ns < ns.length
  | n :: ns, h => by
    unfold ixOf
    by_cases e : n = k
    · rw [if_pos e]; exact Nat.succ_pos _
    · rw [if_neg e]
      exact Nat.succ_lt_succ (ixOf_lt ((List.mem_cons.mp h).resolve_left fun z => e z.symm))
theorem ixOf_at {k : Int} : ∀ {ns : List Int}, k ∈ ns → ns[ixOf k ns]? = some k
  | n :: ns, h => by
    unfold ixOf
    by_cases e : n = k
    · rw [if_pos e, e]; rfl
    · rw [if_neg e]
      exact ixOf_at ((List.mem_cons.mp h).resolve_left fun z => e z.symm)
theorem ixOf_no {k : Int} : ∀ {ns : List Int} (m : Nat), m < ixOf k ns → ns[m]? ≠ some k
  | [], m, h => by cases h
  | n :: ns, m, h => by
    unfold ixOf at h
    by_cases e : n = k
    · rw [if_pos e] at h; cases h
    · rw [if_neg e] at h
      cases m with
      | zero => exact fun z => e (Option.some.inj z)
      | succ m => exact ixOf_no m (Nat.lt_of_succ_lt_succ h)
theorem evd_tix {K : Fr} {ρ : Env} {to : TE} {t : TA} {ns : List Int} {k : Int} (ho : EvD K to ρ (.ftu (ns.map D.int))) (ha : EvA K t ρ [.int k]) (h : k ∈ ns) : EvD K (tBMF (rTIx K) to t) ρ (.int (ixOf k ns : Nat)) := .mk fun kk Q q => ho kk _ fun v S1 H1 g1 r1 => by
  cases r1 with
  | ftu hs hd ra =>
    refine ⟨⟨_, _, _, rfl, g1.sh _ _ hs, hd⟩, ha (kk.grow g1) _ fun vs S2 H2 g2 r2 => ?_⟩
    cases r2 with
    | cons a b =>
      cases b
      cases a
      rw [ra.ints] at hs
      exact ⟨_, ns, k, _, rfl, rfl, Or.inl (Or.inr ⟨_, g2.hh _ _ (g1.sh _ _ hs)⟩), ixOf_at h, ixOf_no, q _ _ _ (g1.trans g2) (.int _)⟩
theorem rm_lix {K : Fr} {ns : List Int} {k : Int} (h : k ∈ ns) : RmD K (rIndex K) (.lst (ns.map D.int)) [.int k] (.int (ixOf k ns : Nat)) := .mk fun e r r2 Q q => by
  cases r2 with
  | cons a b =>
    cases b
    cases a
    cases r with
    | lst hs ra =>
      rw [ra.ints] at hs
      refine ⟨_, ns.map V.int, .int k, ixOf k ns, .int k, rfl, rfl, SqL.of (e _ _ hs), rfl, flat_ints ns, ?_, ?_, ?_, q _ _ _ (Gr.refl e) (.int _)⟩
      · rw [List.getElem?_map, ixOf_at h]; rfl
      · exact beq_self_eq_true k
      · intro m z hm hz
        rw [List.getElem?_map] at hz
        cases hq : ns[m]? with
        | none => rw [hq] at hz; cases hz
        | some y =>
          rw [hq] at hz
          cases hz
          exact beq_eq_false_iff_ne.mpr fun z => ixOf_no m hm (z ▸ hq)
/-- a method of a list -/
theorem evd_bmL {K : Fr} {ρ : Env} {to : TE} {t : TA} {r : V → List V → Hp → VK → Prop} {d : D} {es ds : List D} (ho : EvD K to ρ (.lst es)) (ha : EvA K t ρ ds) (hr : RmD K r (.lst es) ds d) : EvD K (tBM K "list" r to t) ρ d := .mk fun k Q q =>
  ho k _ fun v S1 H1 g1 r1 => by
    refine ⟨?_, ha (k.grow g1) _ fun vs S2 H2 g2 r2 => hr g2.sh (r1.mono g2.ss) r2 Q fun w S3 H3 g3 r3 => q _ _ _ ((g1.trans g2).trans g3) r3⟩
    cases r1 with
    | lst hs ra => exact Or.inl ⟨rfl, _, SqL.of (g1.sh _ _ hs)⟩
end DL

set_option Elab.async false
set_option linter.all false
set_option maxRecDepth 100000
set_option maxHeartbeats 2000000
/-! DL10: sorted of pairs (row, int). -/
namespace DL
open PySem L2
open PySem.SeqAt (EqAt)
theorem intsAre_get {us : List Value} {ns : List Int} (h : PyProof.Rows.IntsAre us ns) : us.length = ns.length ∧ ∀ (j : Nat) (hj : j < us.length), ∃ t, us[j] = .int (ns.getD j 0) t := by
  induction h with
  | nil => exact ⟨rfl, fun j hj => by cases hj⟩
  | @cons n t us ns h ih =>
    refine ⟨by simp [ih.1], fun j hj => ?_⟩
    cases j with
    | zero => exact ⟨t, rfl⟩
    | succ j => simpa using ih.2 j (by simpa using hj)
theorem lists_all {ns ms : List Int} : ((List.range (min ns.length ms.length)).all (fun j => decide (ns.getD j 0 = ms.getD j 0)) && ns.length == ms.length) = decide (ns = ms) := by
  rw [Bool.eq_iff_iff, Bool.and_eq_true, List.all_eq_true, beq_iff_eq, decide_eq_true_iff]
  constructor
  · rintro ⟨h, hl⟩
    refine List.ext_getElem hl fun i h1 h2 => ?_
    have := h i (List.mem_range.mpr (by omega))
    rw [decide_eq_true_iff] at this
    simpa [List.getD_eq_getElem?_getD, h1, h2] using this
  · rintro rfl
    exact ⟨fun j _ => decide_eq_true_iff.mpr rfl, rfl⟩
theorem eqAt_rooms {A : Around} {s : Shared} {v u : Value} {r r' : List Int} (hv : TS.TupInts s.heap v r) (hu : TS.TupInts s.heap u r') (un : A.units < cLine) : EqAt A s v u (decide (r = r')) := by
  obtain ⟨a, xs, rfl, ht, hi⟩ := hv
  obtain ⟨b, ys, rfl, ht', hi'⟩ := hu
  by_cases e : a = b
  · subst e
    obtain ⟨o, ho, hc, n, hd⟩ := ht
    obtain ⟨o', ho', hc', n', hd'⟩ := ht'
    rw [ho] at ho'
    cases ho'
    rw [hd] at hd'
    cases hd'
    have : r = r' := by rw [← hi.nums, ← hi'.nums]
    rw [decide_eq_true this]
    exact EqAt.same _
  · obtain ⟨l1, g1⟩ := intsAre_get hi
    obtain ⟨l2, g2⟩ := intsAre_get hi'
    have h := PySem.SeqAt.RcAt.tuples (A := A) (s := s) (e := fun j => decide (r.getD j 0 = r'.getD j 0)) ht ht' un fun j h1 h2 => by
      obtain ⟨t, e1⟩ := g1 j (by simpa using h1)
      obtain ⟨t', e2⟩ := g2 j (by simpa using h2)
      have e1' : xs[j] = .int (r.getD j 0) t := by simpa using e1
      have e2' : ys[j] = .int (r'.getD j 0) t' := by simpa using e2
      rw [e1', e2']
      exact PySem.SeqAt.EqAt.int_int _ _ _ _
    rw [← lists_all]
    have q1 : xs.size = r.length := by rw [← l1, Array.length_toList]
    have q2 : ys.size = r'.length := by rw [← l2, Array.length_toList]
    rw [q1, q2] at h
    exact PySem.SeqAt.EqAt.of_refs e h
theorem lexAt_llt {ns ms : List Int} : ∀ (k i : Nat), i + k = min ns.length ms.length → Ob.lexAt (fun j => decide (ns.getD j 0 = ms.getD j 0)) (fun j => decide (ns.getD j 0 < ms.getD j 0)) (decide (ns.length < ms.length)) i k = llt (ns.drop i) (ms.drop i)
  | 0, i, h => by
    show decide (ns.length < ms.length) = _
    by_cases c : ns.length < ms.length
    · rw [decide_eq_true c, List.drop_eq_nil_of_le (by omega), List.drop_eq_getElem_cons (by omega : i < ms.length)]
      rfl
    · rw [decide_eq_false c, List.drop_eq_nil_of_le (by omega : ms.length ≤ i)]
      cases ns.drop i <;> rfl
  | k + 1, i, h => by
    have h1 : i < ns.length := by omega
    have h2 : i < ms.length := by omega
    have e1 : ns.getD i 0 = ns[i] := by simp [List.getD_eq_getElem?_getD, h1]
    have e2 : ms.getD i 0 = ms[i] := by simp [List.getD_eq_getElem?_getD, h2]
    rw [List.drop_eq_getElem_cons h1, List.drop_eq_getElem_cons h2]
    show (if decide (ns.getD i 0 = ms.getD i 0) = true then Ob.lexAt _ _ _ (i + 1) k else decide (ns.getD i 0 < ms.getD i 0)) = HT.lexLt _ _
    rw [HT.lexLt_cons, e1, e2]
    by_cases c : ns[i] = ms[i]
    · rw [if_pos c, if_pos (decide_eq_true c)]
      exact lexAt_llt k (i + 1) (by omega)
    · rw [if_neg c, if_neg (by simpa using c)]
theorem rcLt_rooms {A : Around} {s : Shared} {v u : Value} {r r' : List Int} (hv : TS.TupInts s.heap v r) (hu : TS.TupInts s.heap u r') (un : A.units < cLine) : Ob.RcOp .Lt A s v u (llt r r') := by
  obtain ⟨a, xs, rfl, ht, hi⟩ := hv
  obtain ⟨b, ys, rfl, ht', hi'⟩ := hu
  obtain ⟨l1, g1⟩ := intsAre_get hi
  obtain ⟨l2, g2⟩ := intsAre_get hi'
  have q1 : xs.size = r.length := by rw [← l1, Array.length_toList]
  have q2 : ys.size = r'.length := by rw [← l2, Array.length_toList]
  have at1 : ∀ j (h : j < xs.size), ∃ t, xs[j] = .int (r.getD j 0) t := fun j h => by
    obtain ⟨t, e⟩ := g1 j (by simpa using h)
    exact ⟨t, by simpa using e⟩
  have at2 : ∀ j (h : j < ys.size), ∃ t, ys[j] = .int (r'.getD j 0) t := fun j h => by
    obtain ⟨t, e⟩ := g2 j (by simpa using h)
    exact ⟨t, by simpa using e⟩
  have h := Ob.RcOp.tuples_lt (A := A) (s := s) (e := fun j => decide (r.getD j 0 = r'.getD j 0)) (r := fun j => decide (r.getD j 0 < r'.getD j 0)) ht ht' un
    (fun j h1 h2 => by
      obtain ⟨t, e1⟩ := at1 j h1
      obtain ⟨t', e2⟩ := at2 j h2
      rw [e1, e2]
      exact PySem.SeqAt.EqAt.int_int _ _ _ _)
    (fun j h1 h2 _ => by
      obtain ⟨t, e1⟩ := at1 j h1
      obtain ⟨t', e2⟩ := at2 j h2
      rw [e1, e2]
      exact Ob.RcOp.lt_int _ _ _ _)
  rw [q1, q2, lexAt_llt _ 0 (by omega)] at h
  exact h
/-- a pair (row, int) -/
def TupPr (h : Heap) (v : Value) (z : List Int × Int) : Prop := ∃ a x t, v = .ref a ∧ PyProof.Rows.IsTup h a #[x, .int z.2 t] ∧ TS.TupInts h x z.1
theorem TupPr.keeps {h h' : Heap} {v : Value} {z : List Int × Int} (x : TupPr h v z) (k : ∀ b o, h.get? b = some o → o.cls = .type "tuple" → h'.get? b = some o) : TupPr h' v z := by
  obtain ⟨a, y, t, e, ⟨o, ho, hc, hd⟩, i⟩ := x
  exact ⟨a, y, t, e, ⟨o, k _ _ ho hc, hc, hd⟩, i.keeps k⟩
theorem TupPr.uniq {h : Heap} {v : Value} {z z' : List Int × Int} (x : TupPr h v z) (y : TupPr h v z') : z = z' := by
  obtain ⟨a, p, t, e, ⟨o, ho, hc, n, hd⟩, i⟩ := x
  obtain ⟨a', p', t', e', ⟨o', ho', hc', n', hd'⟩, i'⟩ := y
  rw [e] at e'
  cases e'
  rw [ho] at ho'
  cases ho'
  rw [hd] at hd'
  injection hd' with h1 h2
  have h3 : p = p' ∧ z.2 = z'.2 := by
    have := congrArg Array.toList h1
    simp only [List.cons.injEq] at this
    obtain ⟨q1, q2, _⟩ := this
    injection q2 with q3 q4
    exact ⟨q1, q3⟩
  obtain ⟨h4, h5⟩ := h3
  subst h4
  have := i.ints
  rw [i'.ints] at this
  exact Prod.ext this.symm h5
open Classical in
noncomputable def prOf (h : Heap) (v : Value) : List Int × Int := if e : ∃ z, TupPr h v z then e.choose else ([], 0)
theorem TupPr.of {h : Heap} {v : Value} {z : List Int × Int} (x : TupPr h v z) : prOf h v = z := by
  unfold prOf
  rw [dif_pos ⟨z, x⟩]
  exact (Exists.choose_spec (⟨z, x⟩ : ∃ z, TupPr h v z)).uniq x
theorem prs_sortable {prog : Program} {w : World} {A : Around} {s : Shared} {h0 : Heap} {a : Addr} {vs : List Value} {n : Nat} (h2 : 2 ≤ vs.length) (un : A.units < cLine) (ha : s.heap.get? a = some (PyProof.Rows.seqObj "list" vs.toArray n)) (hk : Kept h0 s.heap)
    (x : ∀ v ∈ vs, ∃ z, TupPr h0 v z) : SrtO.SortableO prog w A s a vs fun v u => plt (prOf h0 v) (prOf h0 u) := by
  intro h' keep
  have kt : ∀ b o, h0.get? b = some o → o.cls = .type "tuple" → h'.get? b = some o := fun b o e hc => keep b o (fun z => by
    subst z
    have := hk _ _ e
    rw [ha] at this
    cases this
    have c' : Value.type "list" = Value.type "tuple" := hc
    exact absurd (Value.type.inj c') (by decide)) (hk _ _ e)
  have firsts : ∀ ws : List Value, (∀ v ∈ ws, ∃ z, TupPr h0 v z) → ∃ fs, PySem.W.KatTups h' ws fs ∧ fs.length = ws.length ∧ ∀ f ∈ fs, ∃ r, TS.TupInts h' f r := by
    intro ws
    induction ws with
    | nil => exact fun _ => ⟨[], PySem.W.KatTups.nil, rfl, fun f hf => by cases hf⟩
    | cons v ws ih =>
      intro y
      obtain ⟨fs, k1, k2, k3⟩ := ih fun u hu => y u (List.mem_cons_of_mem _ hu)
      obtain ⟨z, t⟩ := y v List.mem_cons_self
      obtain ⟨b, p, tk, rfl, ⟨o, ho, hc, n, hd⟩, hi⟩ := t.keeps kt
      refine ⟨p :: fs, PySem.W.KatTups.cons ho hc hd rfl k1, by simp [k2], fun f hf => ?_⟩
      rcases List.mem_cons.mp hf with rfl | hf
      · exact ⟨_, hi⟩
      · exact k3 f hf
  obtain ⟨fs, k1, k2, k3⟩ := firsts vs x
  refine ⟨PyProof.Rows.tuples' false, fun Q E hq => ?_, ?_⟩
  · refine PySem.W.kat_kind (T := Value.type "tuple") k1 (by omega) (fun f hf => ?_) rfl hq
    obtain ⟨r, b, xs, rfl, ⟨o, ho, hc, _⟩, _⟩ := k3 f hf
    exact fun A' Q' E' s' k q => wpAny_typeOf_ref (k _ _ ho) (by rw [hc]; exact q)
  · intro p q hp hq
    obtain ⟨z, t⟩ := x _ hp
    obtain ⟨z', t'⟩ := x _ hq
    show wpAny (model prog w) A (PyProof.Rows.keyLt' (PyProof.Rows.tuples' false) p.1 q.1) (fun r s' => s' = _ ∧ r = plt (prOf h0 p.1) (prOf h0 q.1)) (fun _ _ => False) _
    rw [t.of, t'.of]
    obtain ⟨b, x1, tk, e1, ⟨o, ho, hc, n, hd⟩, hi⟩ := t.keeps kt
    obtain ⟨b', x1', tk', e2, ⟨o', ho', hc', n', hd'⟩, hi'⟩ := t'.keeps kt
    rw [e1, e2]
    refine PySem.W.kat_lt ho hd ho' hd' ?_
    refine PySem.W.kat_cons (eqAt_rooms (s := { s with heap := h' }) hi hi' un prog w _ _ ?_)
    by_cases c : z.1 = z'.1
    · rw [decide_eq_true c]
      refine PySem.W.kat_yes (PySem.W.kat_cons (wpAny_eqBool_int ?_))
      by_cases d : z.2 = z'.2
      · rw [show (z.2 == z'.2) = true from beq_iff_eq.mpr d]
        refine PySem.W.kat_yes (PySem.W.kat_nil ⟨rfl, ?_⟩)
        rw [plt, if_pos c, d]
        simp
      · rw [show (z.2 == z'.2) = false from beq_eq_false_iff_ne.mpr d]
        refine PySem.W.kat_no (TS.oneLt_ints _ ⟨rfl, ?_⟩)
        rw [plt, if_pos c]
    · rw [decide_eq_false c]
      refine PySem.W.kat_no (PySem.W.kat_one _ _ ?_)
      refine rcLt_rooms (s := { s with heap := h' }) hi hi' un prog w _ _ (show _ ∧ _ from ⟨rfl, ?_⟩)
      rw [plt, if_neg c]
/-- a pair of the abstract heap -/
abbrev IsTm (H : Hp) (z : V × (List Int × Int)) : Prop := ∃ t b, z.1 = V.ref t ∧ H t = some (.tup [.ref b, .int z.2.2]) ∧ H b = some (.tup (z.2.1.map V.int))
theorem tupPr_of {X : Cx} {pins : List (Addr × Obj)} {σ : St} {H : Hp} {s : Shared} {z : V × (List Int × Int)} {u : Value} (I : Inv X pins σ H s) (h : IsTm H z) (r : RelV z.1 u) : TupPr s.heap u z.2 := by
  obtain ⟨t, b, e, ht, hb⟩ := h
  rw [e] at r
  cases r
  obtain ⟨_, its, rv, htup⟩ := I.hok t _ ht
  cases rv with
  | cons r1 rr =>
    cases rr with
    | cons r2 rn =>
      cases rn
      cases r1
      obtain ⟨tk, rfl⟩ := r2
      exact ⟨t, .ref b, tk, rfl, htup, tupInts_of (z := (.ref b, z.2.1)) I ⟨b, rfl, hb⟩ rfl⟩
def rSrtP (K : Fr) : List V → Hp → VK → Prop := fun vs H Q => ∃ (a : Addr) (zs : List (V × (List Int × Int))), vs = [.ref a] ∧ SqL K H a (zs.map (·.1)) ∧ (∀ z ∈ zs, IsTm H z) ∧
  ∀ (ys : List (V × (List Int × Int))) (p : Addr), ys.Perm zs → SrtO.Srtd plt (ys.map (·.2)) → H p = none → Q (.ref p) (upd H p (.lst (ys.map (·.1))))
theorem cl_srtP (K : Fr) {X : Cx} {k : Nat} (hr : Room k X.A) (hK : X.K = K := by rfl) : CallR X (.builtin "sorted") (rSrtP K) := by
  subst hK
  intro pins s σ H vs us Q I r h
  obtain ⟨a, zs, rfl, hs, hz, q⟩ := h
  rw [Vals.ref1 r]
  obtain ⟨its, T, o, n, rv0, hlen0, hT, ho, hc, hd⟩ := seq_items I (Or.inl hs)
  have hO : SrtO.Swo (fun v u => plt (prOf s.heap v) (prOf s.heap u)) := ⟨fun _ _ h => plt_swo.asym _ _ h, fun _ _ _ h1 h2 => plt_swo.tr _ _ _ h1 h2⟩
  have un : X.A.in1.in1.units < cLine := by
    have := hr.un
    show X.A.units + 1 + 1 < cLine
    omega
  have lz : zs.length ≤ sizeLine := by rwa [List.length_map] at hlen0
  refine srt_any (C := fun vs => Vals (zs.map (·.1)) vs) hO (fun vs rv => by rw [← rv.length, List.length_map]; exact lz) (fun R hR => ?_) (fun vs s1 a' n' rv h2 k1 hl => ?_) (fun vs out h1 h' tk n' rv hs' hb k1 k2 hp => ?_)
  · exact wpAny_collect_seq a hT ho hc hd (fun h' hk => hR h' s.toks _ hk (by simpa using rv0)) (by simpa using (by rw [← rv0.length]; exact hlen0 : its.length ≤ sizeLine))
  · refine prs_sortable h2 un hl k1 fun v hv => ?_
    have hlen : zs.length = vs.length := by rw [← rv.length, List.length_map]
    have : v ∈ (zs.zip vs).map Prod.snd := by rw [zip_snd hlen]; exact hv
    obtain ⟨p, hp, rfl⟩ := List.mem_map.mp this
    have hm : p.1 ∈ zs := by
      have : p.1 ∈ (zs.zip vs).map Prod.fst := List.mem_map_of_mem hp
      rwa [zip_fst hlen] at this
    exact ⟨p.1.2, tupPr_of I (hz _ hm) (vals_zip (fun z : V × (List Int × Int) => z.1) rv p hp)⟩
  · have hlen : zs.length = vs.length := by rw [← rv.length, List.length_map]
    have hperm : out.Perm ((zs.zip vs).map Prod.snd) := by rw [zip_snd hlen]; exact hb.perm
    obtain ⟨ps, hps, rfl⟩ := perm_lift Prod.snd hperm
    have hrel : ∀ p ∈ ps, RelV p.1.1 p.2 := fun p hp => vals_zip (fun z : V × (List Int × Int) => z.1) rv p (hps.mem_iff.mp hp)
    have hmem : ∀ p ∈ ps, p.1 ∈ zs := fun p hp => by
      have : p.1 ∈ (zs.zip vs).map Prod.fst := List.mem_map_of_mem (hps.mem_iff.mp hp)
      rwa [zip_fst hlen] at this
    have I1 : Inv X pins σ H { s with heap := h1, toks := tk } := I.kept k1
    have rv' : Vals ((ps.map Prod.fst).map (·.1)) (ps.map Prod.snd) := by
      rw [List.map_map]
      exact vals_of_zip (fun z : V × (List Int × Int) => z.1) hrel
    have hlen' : ((ps.map Prod.fst).map (·.1)).length ≤ sizeLine := by
      rw [List.length_map, List.length_map, hps.length_eq, List.length_zip, hlen, Nat.min_self, ← hlen]
      exact lz
    refine ⟨.ref _, upd H h1.objs.size (.lst ((ps.map Prod.fst).map (·.1))), I1.laid (t' := tk) k2 (Nat.le_refl _) ⟨hlen', _, n', rv', hp⟩, rfl, q (ps.map Prod.fst) _ ?_ ?_ (I1.hok.fresh (Nat.le_refl _))⟩
    · have h4 := hps.map Prod.fst
      rwa [zip_fst hlen] at h4
    · rw [List.map_map]
      rw [SrtO.Srtd, List.pairwise_map] at hs' ⊢
      refine hs'.imp_of_mem fun {p p'} hp hp' h => ?_
      have e1 := (tupPr_of I (hz _ (hmem p hp)) (hrel p hp)).of
      have e2 := (tupPr_of I (hz _ (hmem p' hp')) (hrel p' hp')).of
      rw [e1, e2] at h
      exact h
abbrev dT (z : List Int × Int) : D := .tup [dR z.1, .int z.2]
abbrev dTs (zs : List (List Int × Int)) : D := .lst (zs.map dT)
theorem tms_of {K : Fr} {S H : Hp} (e : Ex S H) : ∀ {xs : List V} {ts : List (List Int × Int)}, RpA K S xs (ts.map dT) → ∃ zs : List (V × (List Int × Int)), zs.map (·.1) = xs ∧ zs.map (·.2) = ts ∧ ∀ z ∈ zs, IsTm S z
  | [], [], .nil => ⟨[], rfl, rfl, fun z h => by cases h⟩
  | x :: xs, t :: ts, .cons a b => by
    obtain ⟨zs, h1, h2, h3⟩ := tms_of e b
    refine ⟨(x, t) :: zs, by rw [List.map_cons, h1], by rw [List.map_cons, h2], fun z hz => ?_⟩
    rcases List.mem_cons.mp hz with rfl | hz
    · cases a with
      | tup hs ra =>
        cases ra with
        | cons r1 r2 =>
          cases r2 with
          | cons r3 r4 =>
            cases r4
            cases r3
            cases r1 with
            | tup hb rb =>
              rw [rb.ints] at hb
              exact ⟨_, _, rfl, hs, hb⟩
    · exact h3 z hz
theorem rpA_tms {K : Fr} {S : Hp} : ∀ {ys : List (V × (List Int × Int))}, (∀ y ∈ ys, IsTm S y) → RpA K S (ys.map (·.1)) ((ys.map (·.2)).map dT)
  | [], _ => .nil
  | y :: ys, h => by
    obtain ⟨t, b, e, ht, hb⟩ := h y List.mem_cons_self
    refine .cons ?_ (rpA_tms fun z hz => h z (List.mem_cons_of_mem _ hz))
    show Rp K S y.1 (dT y.2)
    rw [e]
    exact .tup ht (.cons (.tup hb (RpA.of_ints _)) (.cons (.int _) .nil))
theorem psort_eq {rs ys : List (List Int × Int)} (h1 : ys.Perm rs) (h2 : SrtO.Srtd plt ys) : ys = sortP rs :=
  srtd_uniq (fun _ _ => plt_tot) h2 (sortBy_srtd plt_swo rs) (h1.trans (sortBy_perm plt rs).symm)
theorem rn_srtP {K : Fr} {ts : List (List Int × Int)} : RcN K (rSrtP K) [.lst (ts.map dT)] ((sortP ts).map dT) := .mk fun {S H vs} e r Q q => by
  cases r with
  | cons x y =>
    cases y
    cases x with
    | lst h r =>
      obtain ⟨zs, h1, h2, h3⟩ := tms_of (.refl S) r
      refine ⟨_, zs, rfl, by rw [h1]; exact SqL.of (e _ _ h), fun z hz => ?_, fun ys p hp hs hn => ?_⟩
      · obtain ⟨t, b, e1, e2, e3⟩ := h3 z hz
        exact ⟨t, b, e1, e _ _ e2, e _ _ e3⟩
      · have hy : ∀ y ∈ ys, IsTm S y := fun y hy => h3 y (hp.mem_iff.mp hy)
        have hp2 := hp.map (·.2)
        rw [h2] at hp2
        refine q p _ S _ (Gr.lay e hn) (e.none hn) hn upd_same ?_
        have := rpA_tms (K := K) (S := S) hy
        rwa [psort_eq hp2 hs] at this
end DL

set_option Elab.async false
set_option linter.all false
set_option maxRecDepth 100000
set_option maxHeartbeats 2000000
/-! DL11: rows that keep their object (tuples just made), reversed copies, own lists written. -/
namespace DL
open PySem L2
open PyProof.Rows (Call_ callWith_type1 boot_tuple)
/-! ### tuple(list) -/
def kTupF (K : Fr) (x : V) (H : Hp) (Q : VK) : Prop := ∃ p xs, x = .ref p ∧ SqL K H p xs ∧ ∀ q o, H q = none → o.dict = none → Q (.ref q) (upd H q (.frz o (.tup xs)))
theorem pe_tupF (K : Fr) {X : Cx} {a : Expr} {ta : TE} {p pos : Pos} (hg : Gl X "tuple") (hm : X.mg "tuple" = none) (ha : PE X a ta) (na : starEach [a] X.env = (false, eval a X.env) :: starEach [] X.env := by rfl) (hK : X.K = K := by rfl) :
    PE X (.Call (.Name "tuple" p) [a] [] pos) (tThen ta (kTupF K)) := by
  subst hK
  constructor
  intro pins s σ H Q I h
  refine Call_ (ld_blt I hg hm boot_tuple (callWith_type1 (one_arg ha I h (fun v s2 x H2 I2 r q => ?_) na) na))
  obtain ⟨l, xs, rfl, hs, q⟩ := q
  cases r
  obtain ⟨its, rv, pl, hz⟩ := I2.list hs
  refine call_tuple_list pl.isList (fun h' hk => ?_) (by rw [List.size_toArray, ← rv.length]; exact hz)
  have I3 : Inv X pins σ H2 { s2 with heap := h' } := I2.kept (t' := s2.toks) hk
  have new := Heap.get?_push_size h' (o := { cls := .type "tuple", data := .seq its.toArray }) rfl
  exact ⟨.ref h'.objs.size, upd H2 h'.objs.size (.frz { cls := .type "tuple", data := .seq its.toArray } (.tup xs)), I3.laid (t' := s2.toks) (fun b o e => Heap.get?_push_of_some _ e) (Nat.le_refl _) ⟨new, hz, its, rv, _, new, rfl, _, rfl⟩, rfl, q _ _ (I3.hok.fresh (Nat.le_refl _)) rfl⟩
section
variable {K : Fr} {ρ : Env} {te ta tb : TE} {d : D} {ds es : List D} {P : Out → Prop}
theorem evd_tupF (h : EvD K te ρ (.lst ds)) : EvD K (tThen te (kTupF K)) ρ (.ftu ds) := .mk fun k Q q => h k _ fun v S1 H1 g1 r => by
  cases r with
  | lst h r => exact ⟨_, _, rfl, SqL.of (g1.sh _ _ h), fun p o hp ho => q _ _ _ (g1.trans (Gr.add g1.sh hp)) (.ftu upd_same ho (r.mono (Gr.add g1.sh hp).ss))⟩
theorem sqT_frz {H : Hp} {a : Addr} {o : Obj} {xs : List V} (h : H a = some (.frz o (.tup xs))) : SqT K H a xs := Or.inl (Or.inr ⟨o, h⟩)
theorem iv_ftu (h : EvD K te ρ (.ftu ds)) : IvD K (iTup K te) ρ ds := .mk fun k R q => h k _ fun v S1 H1 g1 r => by
  cases r with
  | @ftu a o xs _ hs ho ra =>
    refine ⟨a, rfl, ⟨xs, sqT_frz (g1.sh _ _ hs)⟩, q _ S1 _ g1 ⟨fun i S2 H2 hi e e1 => ?_, fun i S2 H2 H3 x d e e1 h hd => ?_, fun S2 H2 e e1 => ?_⟩⟩
    · have : i < xs.length := by rw [ra.length]; exact hi
      exact ⟨xs, xs[i], sqT_frz ((e.trans e1) _ _ hs), List.getElem?_eq_getElem this⟩
    · obtain ⟨rfl, z⟩ := h
      obtain ⟨v, a1, b1⟩ := ra.get hd
      have := z _ (sqT_frz ((e.trans e1) _ _ hs))
      rw [a1] at this
      cases this
      exact ⟨S2, Gr.refl e1, b1.mono e⟩
    · exact ⟨xs, sqT_frz ((e.trans e1) _ _ hs), by rw [ra.length]; exact Nat.le_refl _⟩
theorem rv_ixU {i : Int} (h : atI ds i = some d) : RvD K (rIxT K) (.ftu ds) (.int i) d := .mk fun e r1 r2 Q q => by
  cases r2
  cases r1 with
  | ftu hs ho r =>
    obtain ⟨v, a, b⟩ := atI_rel r h
    exact ⟨_, _, i, v, rfl, rfl, sqT_frz (e _ _ hs), a, q _ _ _ (Gr.refl e) b⟩
theorem rc_lenU : RcD K (rLenS K) [.ftu ds] (.int ds.length) := .mk fun e r Q q => by
  cases r with
  | cons a b =>
    cases b
    cases a with
    | ftu h ho r => exact ⟨_, _, rfl, Or.inr (sqT_frz (e _ _ h)), by rw [r.length]; exact q _ _ _ (Gr.refl e) (.int _)⟩
theorem evd_slU {tl th : TO} {lo hi : Option Int} (he : EvD K te ρ (.ftu ds)) (hl : EvP K tl ρ lo) (hh : EvP K th ρ hi) (nw : ¬ (HT.sIx ds.length 0 lo = 0 ∧ HT.sIx ds.length ds.length hi = ds.length)) : EvD K (tSl (rSlA K) te tl th) ρ (.tup (cutA ds lo hi)) := .mk fun k Q q =>
  he k _ fun v S1 H1 g1 r1 => hl (k.grow g1) _ fun S2 H2 g2 => hh ((k.grow g1).grow g2) _ fun S3 H3 g3 => by
    have r := r1.mono (g2.trans g3).ss
    cases r with
    | ftu hs ho ra =>
      refine ⟨_, _, rfl, sqT_frz (g3.sh _ _ hs), fun w => absurd (by rw [ra.length] at w; exact w) nw, fun _ p hp => ?_⟩
      exact q _ _ _ (((g1.trans g2).trans g3).trans (Gr.add g3.sh hp)) (.tup upd_same ((cut_rel ra lo hi).mono (Gr.add g3.sh hp).ss))
/-! ### reversed copies -/
theorem RpA.rev {S : Hp} : ∀ {vs : List V} {ds : List D}, RpA K S vs ds → RpA K S vs.reverse ds.reverse
  | [], [], .nil => .nil
  | _ :: _, _ :: _, .cons a b => by rw [List.reverse_cons, List.reverse_cons]; exact b.rev.snoc a
theorem pe_revLK (K : Fr) {X : Cx} {e : Expr} {te : TE} {k : Nat} {p1 p2 p3 pos : Pos} (he : PE X e te) (hK : X.K = K := by rfl) : PE X (.Subscript e (.Slice none none (some (.UnaryOp .USub (.Constant (.int 1) k p1) p2)) p3) pos) (tRevL K te) := by subst hK; exact pe_revL he
theorem evn_revL (h : EvD K te ρ (.lst ds)) : EvN K (tRevL K te) ρ ds.reverse := .mk fun k Q q => h k _ fun v S1 H1 g1 r => by
  cases r with
  | lst h r => exact ⟨_, _, rfl, SqL.of (g1.sh _ _ h), fun p hp => q p _ _ _ (g1.trans (Gr.lay g1.sh hp)) (g1.sh.none hp) (g1.hh.none hp) upd_same r.rev⟩
end
/-! ### the same rules, the list of ints by an equation -/
section
variable {K : Fr} {ds es : List D} {ns : List Int} {i : Int}
theorem rn_srtIL' (h : ds = ns.map D.int) : RcN K (rSrtI K) [.lst ds] ((sortI ns).map D.int) := by subst h; exact rn_srtIL
theorem rn_srtR' {rs : List (List Int)} (h : ds = rs.map dR) (hne : 2 ≤ rs.length → ∀ r ∈ rs, r ≠ []) : RcN K (rSrtR K) [.lst ds] ((sortR rs).map dR) := by subst h; exact rn_srtR hne
theorem rn_srtP' {ts : List (List Int × Int)} (h : ds = ts.map dT) : RcN K (rSrtP K) [.lst ds] ((sortP ts).map dT) := by subst h; exact rn_srtP
theorem rv_inT' (h : ds = ns.map D.int) : RvD K (rIn K false) (.int i) (.tup ds) (.bl (decide (i ∈ ns))) := by subst h; exact rv_inT
theorem rv_inL' (h : ds = ns.map D.int) : RvD K (rIn K false) (.int i) (.lst ds) (.bl (decide (i ∈ ns))) := by subst h; exact rv_inL
theorem rv_notInT' (h : ds = ns.map D.int) : RvD K (rIn K true) (.int i) (.tup ds) (.bl (!decide (i ∈ ns))) := by subst h; exact rv_notInT
theorem rv_notInL' (h : ds = ns.map D.int) : RvD K (rIn K true) (.int i) (.lst ds) (.bl (!decide (i ∈ ns))) := by subst h; exact rv_notInL
theorem rc_sum' (h : ds = ns.map D.int) : RcD K (rSum K) [.lst ds] (.int ns.sum) := by subst h; exact rc_sum
theorem rc_min' {m : Int} (h : ds = ns.map D.int) (hm : m ∈ ns) (hl : ∀ y ∈ ns, m ≤ y) : RcD K (rMin K) [.lst ds] (.int m) := by subst h; exact rc_min hm hl
theorem rm_lix' (h : ds = ns.map D.int) (hi : i ∈ ns) : RmD K (rIndex K) (.lst ds) [.int i] (.int (ixOf i ns : Nat)) := by subst h; exact rm_lix hi
theorem map_snoc {α β : Type} {f : α → β} {l : List α} {a : α} : l.map f ++ [f a] = (l ++ [a]).map f := by rw [List.map_append]; rfl
theorem map_cat {α β : Type} {f : α → β} {l m : List α} : l.map f ++ m.map f = (l ++ m).map f := List.map_append.symm
end
/-! ### items at a place -/
section
variable {K : Fr} {ρ : Env} {te : TE} {d : D} {r : List Int} {rs : List (List Int)} {j : Nat}
theorem rng_lt {n i a : Nat} (h : (List.range n)[i]? = some a) : i < n := by
  have := (List.getElem?_eq_some_iff.mp h).1
  rwa [List.length_range] at this
theorem rng_at {n i a : Nat} (h : (List.range n)[i]? = some a) : i = a := by
  have := (List.getElem?_eq_some_iff.mp h).2
  rw [List.getElem_range] at this
  exact this
theorem at_map {α : Type} {f : α → D} {z : α} (l : List α) (j : Nat) (h : j < l.length) : atI (l.map f) ((j : Nat) : Int) = some (f (l.getD j z)) := by
  apply atI_nat
  rw [List.getElem?_map, List.getElem?_eq_getElem h, List.getD_eq_getElem?_getD, List.getElem?_eq_getElem h]
  rfl
theorem rv_ixTI (h : j < r.length) : RvD K (rIxT K) (.tup (r.map D.int)) (.int ((j : Nat) : Int)) (.int (r.getD j 0)) := rv_ixT (at_map r j h)
theorem rv_ixUI (h : j < r.length) : RvD K (rIxT K) (.ftu (r.map D.int)) (.int ((j : Nat) : Int)) (.int (r.getD j 0)) := rv_ixU (at_map r j h)
theorem rv_ixLI (h : j < r.length) : RvD K (rIxL K) (.lst (r.map D.int)) (.int ((j : Nat) : Int)) (.int (r.getD j 0)) := rv_ixL (at_map r j h)
theorem rv_ixFI (h : j < r.length) : RvD K (rIxL K) (.frz (r.map D.int)) (.int ((j : Nat) : Int)) (.int (r.getD j 0)) := rv_ixF (at_map r j h)
theorem rv_ixLR (h : j < rs.length) : RvD K (rIxL K) (.lst (rs.map fun r => .tup (r.map D.int))) (.int ((j : Nat) : Int)) (.tup ((rs.getD j []).map D.int)) := rv_ixL (at_map (f := fun r => D.tup (r.map D.int)) rs j h)
theorem rv_ixLL (h : j < rs.length) : RvD K (rIxL K) (.lst (rs.map fun r => .lst (r.map D.int))) (.int ((j : Nat) : Int)) (.lst ((rs.getD j []).map D.int)) := rv_ixL (at_map (f := fun r => D.lst (r.map D.int)) rs j h)
theorem rv_ixLU (h : j < rs.length) : RvD K (rIxL K) (.lst (rs.map fun r => .ftu (r.map D.int))) (.int ((j : Nat) : Int)) (.ftu ((rs.getD j []).map D.int)) := rv_ixL (at_map (f := fun r => D.ftu (r.map D.int)) rs j h)
theorem at_last (l : List Int) (h : 0 < l.length) : atI (l.map D.int) (-1) = some (.int (l.getD (l.length - 1) 0)) := by
  unfold atI ixN
  rw [List.length_map, if_neg (by omega), if_pos (by omega)]
  have e : (-1 + (l.length : Int)).toNat = l.length - 1 := by omega
  show (l.map D.int)[(-1 + (l.length : Int)).toNat]? = _
  rw [e, List.getElem?_map, List.getElem?_eq_getElem (by omega), List.getD_eq_getElem?_getD, List.getElem?_eq_getElem (by omega)]
  rfl
theorem rv_ixT0I (h : 0 < r.length) : RvD K (rIxT K) (.tup (r.map D.int)) (.int 0) (.int (r.getD 0 0)) := rv_ixT (at_map r 0 h)
theorem rv_ixTZI (h : 0 < r.length) : RvD K (rIxT K) (.tup (r.map D.int)) (.int (-1)) (.int (r.getD (r.length - 1) 0)) := rv_ixT (at_last r h)
theorem rv_ixU0I (h : 0 < r.length) : RvD K (rIxT K) (.ftu (r.map D.int)) (.int 0) (.int (r.getD 0 0)) := rv_ixU (at_map r 0 h)
theorem rv_ixUZI (h : 0 < r.length) : RvD K (rIxT K) (.ftu (r.map D.int)) (.int (-1)) (.int (r.getD (r.length - 1) 0)) := rv_ixU (at_last r h)
theorem rv_ixL0I (h : 0 < r.length) : RvD K (rIxL K) (.lst (r.map D.int)) (.int 0) (.int (r.getD 0 0)) := rv_ixL (at_map r 0 h)
theorem rv_ixLZI (h : 0 < r.length) : RvD K (rIxL K) (.lst (r.map D.int)) (.int (-1)) (.int (r.getD (r.length - 1) 0)) := rv_ixL (at_last r h)
theorem rv_ixF0I (h : 0 < r.length) : RvD K (rIxL K) (.frz (r.map D.int)) (.int 0) (.int (r.getD 0 0)) := rv_ixF (at_map r 0 h)
theorem rv_ixFZI (h : 0 < r.length) : RvD K (rIxL K) (.frz (r.map D.int)) (.int (-1)) (.int (r.getD (r.length - 1) 0)) := rv_ixF (at_last r h)
theorem rv_ixL0R (h : 0 < rs.length) : RvD K (rIxL K) (.lst (rs.map fun r => .tup (r.map D.int))) (.int 0) (.tup ((rs.getD 0 []).map D.int)) := rv_ixL (at_map (f := fun r => D.tup (r.map D.int)) rs 0 h)
theorem rv_ixTR (h : j < rs.length) : RvD K (rIxT K) (.tup (rs.map fun r => .tup (r.map D.int))) (.int ((j : Nat) : Int)) (.tup ((rs.getD j []).map D.int)) := rv_ixT (at_map (f := fun r => D.tup (r.map D.int)) rs j h)
theorem rv_ixL0L (h : 0 < rs.length) : RvD K (rIxL K) (.lst (rs.map fun r => .lst (r.map D.int))) (.int 0) (.lst ((rs.getD 0 []).map D.int)) := rv_ixL (at_map (f := fun r => D.lst (r.map D.int)) rs 0 h)
theorem rv_ixTL (h : j < rs.length) : RvD K (rIxT K) (.tup (rs.map fun r => .lst (r.map D.int))) (.int ((j : Nat) : Int)) (.lst ((rs.getD j []).map D.int)) := rv_ixT (at_map (f := fun r => D.lst (r.map D.int)) rs j h)
theorem rv_ixL0U (h : 0 < rs.length) : RvD K (rIxL K) (.lst (rs.map fun r => .ftu (r.map D.int))) (.int 0) (.ftu ((rs.getD 0 []).map D.int)) := rv_ixL (at_map (f := fun r => D.ftu (r.map D.int)) rs 0 h)
theorem rv_ixTU (h : j < rs.length) : RvD K (rIxT K) (.tup (rs.map fun r => .ftu (r.map D.int))) (.int ((j : Nat) : Int)) (.ftu ((rs.getD j []).map D.int)) := rv_ixT (at_map (f := fun r => D.ftu (r.map D.int)) rs j h)
theorem rv_ixQ {b : Bool} (h : j < rs.length) : RvD K (rIx K) (D.sq b (rs.map fun o => D.sq b (o.map D.int))) (.int ((j : Nat) : Int)) (D.sq b ((rs.getD j []).map D.int)) := rv_ixA (at_map (f := fun o : List Int => D.sq b (o.map D.int)) rs j h)
theorem rv_ixQ0 {b : Bool} (h : 0 < rs.length) : RvD K (rIx K) (D.sq b (rs.map fun o => D.sq b (o.map D.int))) (.int 0) (D.sq b ((rs.getD 0 []).map D.int)) := rv_ixA (at_map (f := fun o : List Int => D.sq b (o.map D.int)) rs 0 h)
theorem rv_ixQZ {b : Bool} (h : 0 < r.length) : RvD K (rIx K) (D.sq b (r.map D.int)) (.int (-1)) (.int (r.getD (r.length - 1) 0)) := rv_ixA (at_last r h)
theorem rv_ix20 {a b : D} : RvD K (rIxT K) (.tup [a, b]) (.int 0) a := rv_ixT rfl
theorem rv_ix21 {a b : D} : RvD K (rIxT K) (.tup [a, b]) (.int 1) b := rv_ixT rfl
theorem iv_rngN {n : Nat} (h : EvD K te ρ d) (e : d = .int (n : Nat)) (hn : n ≤ 1000000) : IvD K (iRng1 (tCons te tNil)) ρ ((List.range n).map fun i => D.int ((i : Nat) : Int)) := iv_rng1 (eva_cons (h.is e) eva_nil) (by omega) (by omega)
theorem iv_rngT {n : Nat} {z : Int} (h : EvD K te ρ d) (e : d = .int z) (hz : z.toNat = n) (h1 : -1000000 ≤ z) (h2 : z ≤ 1000000) : IvD K (iRng1 (tCons te tNil)) ρ ((List.range n).map fun i => D.int ((i : Nat) : Int)) := by
  subst hz
  exact iv_rng1 (eva_cons (h.is e) eva_nil) (by omega) (by omega)
end
/-- a promise that is never called for -/
theorem has_never {P : Program} {w : World} {K : Fr} {mg : Str → Option Value} {base : Heap} {x : Str} {st : Stmt} {N ps : List Str} (T : At K mg x st ps) (S : FnScope N ps (defScope st)) : Has P w K mg base CX0 x 1 ps (spD K fun _ _ => False) :=
  ok_H T S (fun _ _ h => h.elim) fun f cdv A outer s H E hr => ⟨_, pss_never, fun _ _ h => h.elim⟩
theorem sd_no {K : Fr} {ρ : Env} {t : TS} {Q : Out → Prop} (h : False) : SD K t ρ Q := h.elim
end DL

set_option Elab.async false
set_option linter.all false
set_option maxRecDepth 100000
set_option maxHeartbeats 4000000
namespace DL
open PySem L2
theorem szl : 1000000 < sizeLine := by decide
local macro_rules | `(tactic| walk_at "evd") => `(tactic| first
  | with_reducible exact evd_int
  | with_reducible exact evd_str
  | with_reducible exact evd_bl
  | with_reducible exact evd_non
  | ((with_reducible apply evd_var); rfl)
  | walk_at "evn"
  | ((with_reducible apply EvN.ev); walk_at "evn")
  | ((with_reducible apply evd_op) <;> (try walk_at "evd"))
  | ((with_reducible apply evd_un) <;> (try walk_at "evd"))
  | ((with_reducible apply evb_test) <;> (try walk_at "evd"))
  | ((with_reducible apply evb_B) <;> (try walk_at "evd"))
  | with_reducible exact evb_yes
  | ((with_reducible apply evb_not) <;> (try walk_at "evd"))
  | ((with_reducible apply evb_and) <;> (try walk_at "evd"))
  | ((with_reducible apply evb_or) <;> (try walk_at "evd"))
  | ((with_reducible apply evd_andV) <;> (try walk_at "evd"))
  | ((with_reducible apply evd_orV) <;> (try walk_at "evd"))
  | ((with_reducible apply evd_notV) <;> (try walk_at "evd"))
  | ((with_reducible apply evd_chain) <;> (try walk_at "evd"))
  | walk_at "evd2")
local macro_rules | `(tactic| walk_at "evn") => `(tactic| first
  | ((with_reducible apply evn_cat) <;> (try walk_at "evd"))
  | ((with_reducible apply evn_lst) <;> (try walk_at "evd"))
  | ((with_reducible apply evn_slL) <;> (try walk_at "evd"))
  | ((with_reducible apply evn_lc) <;> (try walk_at "evd"))
  | ((with_reducible apply evn_listRg) <;> (try walk_at "evd"))
  | ((with_reducible apply evn_revL) <;> (try walk_at "evd"))
  | focus ((with_reducible apply evn_keysE); (rfl); (all_goals (try walk_at "evd")))
  | focus ((with_reducible apply evn_cb (r := rSrtI _)); (focus walk_at "evd"); (all_goals (try walk_at "rc")))
  | focus ((with_reducible apply evn_cb (r := rSrtR _)); (focus walk_at "evd"); (all_goals (try walk_at "rc")))
  | focus ((with_reducible apply evn_cb (r := rSrtP _)); (focus walk_at "evd"); (all_goals (try walk_at "rc")))
  | focus ((with_reducible apply evn_cb (r := rSrtD _)); (focus walk_at "evd"); (all_goals (try walk_at "rc")))
  | focus ((with_reducible apply evn_cb (r := rListOf _)); (focus walk_at "evd"); (all_goals (try walk_at "rc"))))
local macro_rules | `(tactic| walk_at "evd2") => `(tactic| first
  | ((with_reducible apply evd_tupL) <;> (try walk_at "evd"))
  | ((with_reducible apply evd_tupF) <;> (try walk_at "evd"))
  | ((with_reducible apply evd_tup) <;> (try walk_at "evd"))
  | with_reducible exact eva_nil
  | ((with_reducible apply eva_cons) <;> (try walk_at "evd"))
  | with_reducible exact evp_none
  | ((with_reducible apply evp_some) <;> (try walk_at "evd"))
  | focus ((with_reducible apply evd_slT); (focus walk_at "evd"); (all_goals (try walk_at "evd")))
  | focus ((with_reducible apply evd_slU); (focus walk_at "evd"); (all_goals (try walk_at "evd")))
  | exact gd_name
  | exact gd_two
  | ((with_reducible apply iv_list) <;> (try walk_at "evd"))
  | focus ((with_reducible apply iv_tup); walk_at "evd")
  | focus ((with_reducible apply iv_ftu); walk_at "evd")
  | ((with_reducible apply iv_enumQ) <;> (try walk_at "evd"))
  | ((with_reducible apply iv_rng1) <;> (try walk_at "evd"))
  | ((with_reducible apply iv_rng2) <;> (try walk_at "evd"))
  | ((with_reducible apply iv_enum) <;> (try walk_at "evd"))
  | ((with_reducible apply evd_tupRg) <;> (try walk_at "evd"))
  | ((with_reducible apply evr_1) <;> (try walk_at "evd"))
  | ((with_reducible apply evr_2) <;> (try walk_at "evd"))
  | focus ((with_reducible apply evd_call); (focus walk_at "evd"); (all_goals (try walk_at "rel")))
  | ((with_reducible apply evd_lenSet) <;> (try walk_at "evd"))
  | walk_at "evd3"
  | ((with_reducible apply evd_tix) <;> (try walk_at "evd"))
  | focus ((with_reducible apply evd_bmL); (focus walk_at "evd"); (all_goals (try walk_at "evd")))
  | focus ((with_reducible apply evd_cb); (focus walk_at "evd"); (all_goals (try walk_at "rc")))
  | walk_at "rc"
  | (intro _; walk_at "evd"))
local macro_rules | `(tactic| walk_at "evd3") => `(tactic| first
  | focus ((with_reducible apply evd_fld); (focus walk_at "evd"); (all_goals (try first | rfl | assumption | walk_at "fact")))
  | focus ((with_reducible apply evd_make); (focus walk_at "evd"); (all_goals (try walk_at "rel")))
  | focus ((with_reducible apply evd_meth); (focus walk_at "evd"); (focus walk_at "evd"); (all_goals (try first | rfl | walk_at "rel")))
  | focus ((with_reducible apply evd_prop); (focus walk_at "evd"); (all_goals (try walk_at "rel")))
  | focus ((with_reducible apply evd_spc); (focus walk_at "evd"); (all_goals (try walk_at "rel")))
  | focus ((with_reducible apply evd_isiO); (focus walk_at "evd"); (all_goals (try walk_at "fact")))
  | focus ((with_reducible apply evd_isi); (focus walk_at "evd"); (all_goals (try first | rfl | decide +kernel)))
  | ((with_reducible apply evd_cval) <;> (try walk_at "fact"))
  | focus ((with_reducible apply evd_inME); (rfl); (all_goals (try walk_at "evd")))
  | focus ((with_reducible apply evd_get2I); (rfl); (all_goals (try walk_at "evd")))
  | focus ((with_reducible apply evd_get2R); (rfl); (all_goals (try walk_at "evd")))
  | focus ((with_reducible apply evd_getME); (rfl); (all_goals (try walk_at "evd")))
  | focus ((with_reducible apply evd_getLI); (focus walk_at "evd"); (all_goals (try walk_at "evd")))
  | focus ((with_reducible apply evd_getDI); (focus walk_at "evd"); (all_goals (try walk_at "evd")))
  | focus ((with_reducible apply evd_getDR); (focus walk_at "evd"); (all_goals (try walk_at "evd")))
  | focus ((with_reducible apply evd_getLE); (focus walk_at "evd"); (all_goals (try walk_at "evd")))
  | focus ((with_reducible apply evd_getDE); (focus walk_at "evd"); (all_goals (try walk_at "evd")))
  | ((with_reducible apply evm_new)))
local macro_rules | `(tactic| walk_at "rc") => `(tactic| first
  | with_reducible apply rv_add
  | with_reducible apply rv_sub
  | with_reducible apply rv_cmp
  | with_reducible apply ru_neg
  | with_reducible apply rv_eqI
  | with_reducible apply rv_neI
  | with_reducible apply rv_eqS
  | with_reducible apply rv_neS
  | with_reducible apply rv_inT
  | with_reducible apply rv_inL
  | with_reducible apply rv_notInT
  | with_reducible apply rv_notInL
  | with_reducible apply rc_lenL
  | with_reducible apply rc_lenT
  | with_reducible apply rc_lenF
  | with_reducible apply rc_lenA
  | with_reducible apply rc_lenU
  | with_reducible apply rn_srtIL
  | with_reducible apply rn_srtIT
  | with_reducible apply rn_srtIA
  | with_reducible apply rn_srtP
  | with_reducible apply rn_srtR
  | with_reducible apply rn_srtDE
  | with_reducible apply rn_listL
  | with_reducible apply rn_listT
  | with_reducible apply rn_listA
  | with_reducible apply rc_abs
  | with_reducible apply rc_sum
  | with_reducible apply rc_int
  | walk_at "rc2")
local macro_rules | `(tactic| walk_at "rc2") => `(tactic| first
  | with_reducible apply rv_ixT0I
  | with_reducible apply rv_ixTZI
  | with_reducible apply rv_ixU0I
  | with_reducible apply rv_ixUZI
  | with_reducible apply rv_ixL0I
  | with_reducible apply rv_ixLZI
  | with_reducible apply rv_ixF0I
  | with_reducible apply rv_ixFZI
  | with_reducible apply rv_ixL0R
  | with_reducible apply rv_ixTR
  | with_reducible apply rv_ixL0L
  | with_reducible apply rv_ixTL
  | with_reducible apply rv_ixL0U
  | with_reducible apply rv_ixTU
  | with_reducible apply rv_ixQ
  | with_reducible apply rv_ixQ0
  | with_reducible apply rv_ixQZ
  | with_reducible apply rv_ix20
  | with_reducible apply rv_ix21
  | with_reducible apply rv_ixTI
  | with_reducible apply rv_ixUI
  | with_reducible apply rv_ixLI
  | with_reducible apply rv_ixFI
  | with_reducible apply rv_ixLR
  | with_reducible apply rv_ixLL
  | with_reducible apply rv_ixLU
  | with_reducible apply rv_mul
  | with_reducible apply rv_fdiv
  | with_reducible apply rv_mod
  | with_reducible apply rv_pow
  | with_reducible apply rv_ixL
  | with_reducible apply rv_ixF
  | with_reducible apply rv_ixT
  | with_reducible apply rv_ixU
  | with_reducible apply rv_ixA
  | with_reducible apply rv_catT
  | with_reducible apply rv_eqTI
  | with_reducible apply rv_neTI
  | with_reducible apply rv_eqLI
  | with_reducible apply rv_neLI
  | with_reducible apply rv_eqTR
  | with_reducible apply rv_inLR
  | with_reducible apply rv_notInLR
  | with_reducible apply rm_lix
  | with_reducible apply rn_srtIL'
  | with_reducible apply rn_srtR'
  | with_reducible apply rn_srtP'
  | with_reducible apply rv_inT'
  | with_reducible apply rv_inL'
  | with_reducible apply rv_notInT'
  | with_reducible apply rv_notInL'
  | with_reducible apply rc_sum'
  | with_reducible apply rc_min'
  | with_reducible apply rm_lix')
local macro_rules | `(tactic| walk_at "bnd") => `(tactic| first
  | omega
  | exact map_snoc
  | exact map_cat
  | ((have hszl := szl); (simp only [List.length_map, List.length_range, List.length_append, List.length_cons, List.length_nil, List.length_take, List.length_drop, Int.toNat_natCast, Nat.add_zero, Nat.zero_add, Int.natCast_add, Int.natCast_one] at *); omega)
  | ((simp only [List.length_map]); (refine Nat.le_trans (Nat.add_le_add_right (List.length_filter_le _ _) _) ?_); walk_at "bnd"))

section
variable {P : Program} {w : World} {K : Fr} {mg : Str → Option Value} {base : Heap}
def fcs (r : List Int) : List (List Int) := (List.range r.length).map fun k => r.take k ++ r.drop (k + 1)
theorem cut_hi {α : Type} (l : List α) (k : Nat) : cutA l none (some (k : Int)) = l.take k := by
  unfold cutA
  rw [HT.sIx_none, HT.sIx_nat, List.drop_zero, Nat.sub_zero]
  by_cases h : k ≤ l.length
  · rw [Nat.min_eq_left h]
  · rw [Nat.min_eq_right (by omega), List.take_length, List.take_of_length_le (by omega)]
theorem cut_lo {α : Type} (l : List α) (k : Nat) : cutA l (some (k : Int)) none = l.drop k := by
  unfold cutA
  rw [HT.sIx_none, HT.sIx_nat]
  by_cases h : k ≤ l.length
  · rw [Nat.min_eq_left h, List.take_of_length_le (by simp)]
  · rw [Nat.min_eq_right (by omega), List.drop_length, List.drop_eq_nil_of_le (by omega), List.take_nil]
theorem cut_lo1 {α : Type} (l : List α) (k : Nat) : cutA l (some ((k : Int) + 1)) none = l.drop (k + 1) := cut_lo l (k + 1)
theorem filt_true {α : Type} (l : List α) : l.filter (fun _ => true) = l := List.filter_eq_self.mpr fun _ _ => rfl
theorem sc_faces : FnScope ["room", "k"] ["room"] (defScope s_faces) := ⟨rfl, rfl, rfl, by decide +kernel, rfl, by decide +kernel, by decide +kernel⟩
def R_faces (ds : List D) (d : D) : Prop := ∃ r : List Int, r.length ≤ 100 ∧ ds = [dR r] ∧ d = dRs (fcs r)
theorem ok_faces (T : At K mg "faces" s_faces ["room"]) (B : Bi mg) : Has P w K mg base CX0 "faces" 1 ["room"] (spD K R_faces) := by
  refine ok_H T sc_faces (fun ds d h => by obtain ⟨r, _, rfl, _⟩ := h; rfl) (fun f cdv A outer s H E hr => ⟨_, (pss_one (ps_ret (pe_lc (own := [("k", 1)]) (by rfl) sc_faces.nd (pi_range1 rfl B.range (pa_cons (pe_callB (cl_len K) rfl B.len PySem.boot_len (pa_cons (pv 0) pa_nil)) pa_nil)) (blkOk_by (N := ["room", "k"]) (sc := (defScope s_faces)) (by decide +kernel)) (fun _ _ _ _ _ => pg_name (i := 1) sc_faces.nd rfl (by first | exact Or.inl rfl | exact Or.inr rfl)) (fun _ _ _ _ _ => pts_nil) (fun _ _ _ _ _ => pe_op (op_catK K) (pe_slice (sl_tK K) (pv 0) po_none (po_some (pv 1))) (pe_slice (sl_tK K) (pv 0) (po_some (pe_op op_add (pv 1) (pe_int))) po_none))))), ?_⟩)
  rintro ds d ⟨r, hl, rfl, rfl⟩
  apply sd_retE (p := Or.inl rfl)
  · walk_at "evd"
    all_goals (try simp only [cut_hi, cut_lo1])
    all_goals walk_at "bnd"
  · simp only [filt_true, cut_hi, cut_lo1, List.length_map, Int.toNat_natCast, ← List.map_take, ← List.map_drop, ← List.map_append, fcs]
    show D.lst _ = D.lst _
    rw [List.map_map]
    rfl
theorem sc_without : FnScope ["room", "place", "p"] ["room", "place"] (defScope s_without) := ⟨rfl, rfl, rfl, by decide +kernel, rfl, by decide +kernel, by decide +kernel⟩
def R_without (ds : List D) (d : D) : Prop := ∃ (r : List Int) (p : Int), r.length ≤ 100 ∧ ds = [dR r, .int p] ∧ d = dR (r.filter fun q => !decide (q = p))
theorem ok_without (T : At K mg "without" s_without ["room", "place"]) (B : Bi mg) : Has P w K mg base CX0 "without" 1 ["room", "place"] (spD K R_without) := by
  refine ok_H T sc_without (fun ds d h => by obtain ⟨r, _, _, rfl, _⟩ := h; rfl) (fun f cdv A outer s H E hr => ⟨_, (pss_one (ps_ret (pe_tupleK K rfl B.tuple (pe_lc (own := [("p", 2)]) (by rfl) sc_without.nd (pi_tK K (pv 0)) (blkOk_by (N := ["room", "place", "p"]) (sc := (defScope s_without)) (by decide +kernel)) (fun _ _ _ _ _ => pg_name (i := 2) sc_without.nd rfl (by first | exact Or.inl rfl | exact Or.inr rfl)) (fun _ _ _ _ _ => pts_one (pt_cmpR op_ne (pv 2) (pv 1) (nomark _))) (fun _ _ _ _ _ => pv 2))))), ?_⟩)
  rintro ds d ⟨r, p, hl, rfl, rfl⟩
  apply sd_retE (p := Or.inl rfl)
  · walk_at "evd"
    all_goals walk_at "bnd"
  · rfl
theorem sc_exchanged : FnScope ["room", "leaving", "entering", "p"] ["room", "leaving", "entering"] (defScope s_exchanged) := ⟨rfl, rfl, rfl, by decide +kernel, rfl, by decide +kernel, by decide +kernel⟩
def R_exchanged (ds : List D) (d : D) : Prop := ∃ (r : List Int) (p q : Int), r.length ≤ 100 ∧ ds = [dR r, .int p, .int q] ∧ d = dR (sortI ((r.filter fun x => !decide (x = p)) ++ [q]))
theorem ok_exchanged (T : At K mg "exchanged" s_exchanged ["room", "leaving", "entering"]) (B : Bi mg) : Has P w K mg base CX0 "exchanged" 1 ["room", "leaving", "entering"] (spD K R_exchanged) := by
  refine ok_H T sc_exchanged (fun ds d h => by obtain ⟨r, _, _, _, rfl, _⟩ := h; rfl) (fun f cdv A outer s H E hr => ⟨_, (pss_one (ps_ret (pe_tupleK K rfl B.tuple (pe_callB (cl_srtI K) rfl B.sorted (by decide +kernel) (pa_cons (pe_op op_cat (pe_lc (own := [("p", 3)]) (by rfl) sc_exchanged.nd (pi_tK K (pv 0)) (blkOk_by (N := ["room", "leaving", "entering", "p"]) (sc := (defScope s_exchanged)) (by decide +kernel)) (fun _ _ _ _ _ => pg_name (i := 3) sc_exchanged.nd rfl (by first | exact Or.inl rfl | exact Or.inr rfl)) (fun _ _ _ _ _ => pts_one (pt_cmpR op_ne (pv 3) (pv 1) (nomark _))) (fun _ _ _ _ _ => pv 3)) (pe_lst (pa_cons (pv 2) pa_nil))) pa_nil))))), ?_⟩)
  rintro ds d ⟨r, p, q, hl, rfl, rfl⟩
  apply sd_retE (p := Or.inl rfl)
  · walk_at "evd"
    all_goals walk_at "bnd"
  · rfl
def subs : Nat → List Int → List (List Int)
  | 0, _ => [[]]
  | s + 1, l => (List.range (l.length - s)).flatMap fun k => (subs s (l.drop (k + 1))).map fun r => l.getD k 0 :: r
theorem rng_fold {α : Type} {f : α → Nat → α} {a : α} {n : Nat} : (List.range (n + 1)).foldl f a = f ((List.range n).foldl f a) n := by rw [List.range_succ, List.foldl_append]; rfl
theorem sc_order_sign : FnScope ["row", "sign", "k", "j"] ["row"] (defScope s_order_sign) := ⟨rfl, rfl, rfl, by decide +kernel, rfl, by decide +kernel, by decide +kernel⟩
def osIn (r : List Int) (k : Nat) (s : Int) (j : Nat) : Int := if r.getD j 0 > r.getD k 0 then -s else s
def osOut (r : List Int) (s : Int) (k : Nat) : Int := (List.range k).foldl (osIn r k) s
def osign (r : List Int) : Int := (List.range r.length).foldl (osOut r) 1
def R_order_sign (ds : List D) (d : D) : Prop := ∃ r : List Int, r.length ≤ 100 ∧ ds = [dR r] ∧ d = .int (osign r)
theorem ok_order_sign (T : At K mg "order_sign" s_order_sign ["row"]) (B : Bi mg) : Has P w K mg base CX0 "order_sign" 1 ["row"] (spD K R_order_sign) := by
  refine ok_H T sc_order_sign (fun ds d h => by obtain ⟨r, _, rfl, _⟩ := h; rfl) (fun f cdv A outer s H E hr => ⟨_, (pss_cons (ps_set (i := 1) sc_order_sign.nd rfl (by first | exact Or.inl rfl | exact Or.inr rfl) (pe_int))
        (pss_cons (ps_for PassesOwn.never rfl (pi_range1 rfl B.range (pa_cons (pe_callB (cl_len K) rfl B.len PySem.boot_len (pa_cons (pv 0) pa_nil)) pa_nil)) (pg_name (i := 2) sc_order_sign.nd rfl (by first | exact Or.inl rfl | exact Or.inr rfl)) (pss_one (ps_for PassesOwn.never rfl (pi_range1 rfl B.range (pa_cons (pv 2) pa_nil)) (pg_name (i := 3) sc_order_sign.nd rfl (by first | exact Or.inl rfl | exact Or.inr rfl)) (pss_one (ps_if (pt_cmpR op_gt (pe_ix (ix_tK K) (pv 0) (pv 3) (fun _ _ => rfl)) (pe_ix (ix_tK K) (pv 0) (pv 2) (fun _ _ => rfl)) (nomark _)) (pss_one (ps_set (i := 1) sc_order_sign.nd rfl (by first | exact Or.inl rfl | exact Or.inr rfl) (pe_un un_neg (pv 1)))) (pss_nil))))))
        (pss_one (ps_ret (pv 1))))), ?_⟩)
  rintro ds d ⟨r, hl, rfl, rfl⟩
  apply sd_seq
  apply sd_set
  · walk_at "evd"
  apply sd_seq
  apply sd_for (e := fun i : Nat => D.int (i : Nat)) (items := List.range r.length) (Inv := fun i ρ => ∃ x y, ρ = [.im (dR r), .im (.int ((List.range i).foldl (osOut r) 1)), x, y])
  · apply iv_rngN
    · walk_at "evd"
    · rw [List.length_map]
    · omega
  · exact ⟨_, _, rfl⟩
  · rintro i a ρ1 ha ⟨x, y, rfl⟩
    obtain rfl := rng_at ha
    have hi : i < r.length := rng_lt ha
    refine ⟨_, _, gd_name, ?_⟩
    apply sd_for (e := fun i : Nat => D.int (i : Nat)) (items := List.range i) (Inv := fun j ρ => ∃ y, ρ = [.im (dR r), .im (.int ((List.range j).foldl (osIn r i) ((List.range i).foldl (osOut r) 1))), .im (.int (i : Nat)), y])
    · apply iv_rngN
      · walk_at "evd"
      · rfl
      · omega
    · exact ⟨_, rfl⟩
    · rintro j b ρ1 hb ⟨y, rfl⟩
      obtain rfl := rng_at hb
      have hj : j < i := rng_lt hb
      refine ⟨_, _, gd_name, ?_⟩
      apply sd_if
      · walk_at "evd"
        all_goals omega
      · intro c
        apply sd_set
        · walk_at "evd"
        · refine ⟨.im (.int (j : Nat)), ?_⟩
          rw [rng_fold]
          show _ = [_, Ent.im (.int (if r.getD j 0 > r.getD i 0 then _ else _)), _, _]
          rw [if_pos (of_decide_eq_true c)]
          rfl
      · intro c
        apply sd_next
        refine ⟨.im (.int (j : Nat)), ?_⟩
        rw [rng_fold]
        show _ = [_, Ent.im (.int (if r.getD j 0 > r.getD i 0 then _ else _)), _, _]
        rw [if_neg (of_decide_eq_false c)]
        rfl
    · rintro ρ1 ⟨y, rfl⟩
      refine ⟨.im (.int (i : Nat)), y, ?_⟩
      rw [List.length_range, rng_fold]
      rfl
  · rintro ρ1 ⟨x, y, rfl⟩
    apply sd_retE (p := Or.inl rfl)
    · walk_at "evd"
    · rw [List.length_range]; rfl
theorem sc_room_fault : FnScope ["places", "size", "room", "p"] ["places", "size", "room"] (defScope s_room_fault) := ⟨rfl, rfl, rfl, by decide +kernel, rfl, by decide +kernel, by decide +kernel⟩
def rfault (places : Int) (size : Nat) (r : List Int) : Str := if r.length ≠ size then "count" else if r.any (fun p => !(decide (0 ≤ p) && decide (p < places))) = true then "place" else ""
def R_room_fault (ds : List D) (d : D) : Prop := ∃ (pl : Int) (sz : Nat) (r : List Int), r.length ≤ 100 ∧ r.Nodup ∧ ds = [.int pl, .int (sz : Nat), dR r] ∧ d = .str (rfault pl sz r)
theorem ok_room_fault (T : At K mg "room_fault" s_room_fault ["places", "size", "room"]) (B : Bi mg) : Has P w K mg base CX0 "room_fault" 1 ["places", "size", "room"] (spD K R_room_fault) := by
  refine ok_H T sc_room_fault (fun ds d h => by obtain ⟨_, _, r, _, _, rfl, _⟩ := h; rfl) (fun f cdv A outer s H E hr => ⟨_, (pss_cons (ps_if (pt_cmpR op_ne (pe_callB (cl_len K) rfl B.len PySem.boot_len (pa_cons (pv 2) pa_nil)) (pv 1) (nomark _)) (pss_one (ps_ret (pe_str))) (pss_nil))
        (pss_cons (ps_for PassesOwn.never rfl (pi_tK K (pv 2)) (pg_name (i := 3) sc_room_fault.nd rfl (by first | exact Or.inl rfl | exact Or.inr rfl)) (pss_one (ps_if (pt_not (pt_chain op_le op_lt (pe_int) (pv 3) (pv 0))) (pss_one (ps_ret (pe_str))) (pss_nil))))
        (pss_cons (ps_if (pt_cmpR op_ne (pe_lenSetK K rfl B.len rfl B.set (pv 2)) (pv 1) (nomark _)) (pss_one (ps_ret (pe_str))) (pss_nil))
        (pss_one (ps_ret (pe_str)))))), ?_⟩)
  rintro ds d ⟨pl, sz, r, hl, hn, rfl, rfl⟩
  apply sd_seq
  apply sd_if
  · walk_at "evd"
  · intro c
    apply sd_retE (p := Or.inl rfl)
    · walk_at "evd"
    · rw [List.length_map] at c
      rw [rfault, if_pos (by simp at c; omega)]
  intro c
  apply sd_next
  rw [List.length_map] at c
  have hs : r.length = sz := by simp at c; omega
  apply sd_seq
  apply sd_for (e := D.int) (items := r) (Inv := fun i ρ => (∀ p ∈ r.take i, (decide (0 ≤ p) && decide (p < pl)) = true) ∧ ∃ x, ρ = [.im (.int pl), .im (.int (sz : Nat)), .im (dR r), x])
  · walk_at "evd"
  · exact ⟨by simp, _, rfl⟩
  · rintro i a ρ1 ha ⟨hp, x, rfl⟩
    refine ⟨_, _, gd_name, ?_⟩
    apply sd_if
    · walk_at "evd"
    · intro c
      apply sd_retE (p := Or.inl rfl)
      · walk_at "evd"
      · rw [rfault, if_neg (by simp [hs]), if_pos]
        rw [List.any_eq_true]
        exact ⟨a, List.mem_of_getElem? ha, c⟩
    · intro c
      apply sd_next
      refine ⟨fun p hp' => ?_, .im (.int a), rfl⟩
      rw [List.take_succ, ha] at hp'
      rcases List.mem_append.mp hp' with h | h
      · exact hp p h
      · have : p = a := by simpa using h
        subst this
        simpa using c
  · rintro ρ1 ⟨hp, x, rfl⟩
    rw [List.take_length] at hp
    apply sd_seq
    apply sd_if
    · walk_at "evd"
      · exact hn
      · omega
    · intro c
      simp [hs] at c
    · intro c
      apply sd_next
      apply sd_retE (p := Or.inl rfl)
      · walk_at "evd"
      · rw [rfault, if_neg (by simp [hs]), if_neg]
        rw [Bool.not_eq_true, List.any_eq_false]
        intro p h
        rw [hp p h]
        decide
theorem sc_subsets : FnScope ["items", "size", "found", "k", "rest"] ["items", "size"] (defScope s_subsets) := ⟨rfl, rfl, rfl, by decide +kernel, rfl, by decide +kernel, by decide +kernel⟩
theorem subs_len : ∀ (s : Nat) (l : List Int), (subs s l).length ≤ 2 ^ l.length
  | 0, l => Nat.one_le_two_pow
  | s + 1, l => by
    have key : ∀ n, ((List.range n).flatMap fun k => (subs s (l.drop (k + 1))).map fun r => l.getD k 0 :: r).length + 2 ^ (l.length - n) ≤ 2 ^ l.length ∨ l.length < n := by
      intro n
      induction n with
      | zero => left; simp
      | succ n ih =>
        by_cases h : n + 1 ≤ l.length
        · left
          rcases ih with ih | ih
          · rw [List.range_succ, List.flatMap_append, List.length_append]
            have h1 := subs_len s (l.drop (n + 1))
            rw [List.length_drop] at h1
            have h2 : 2 ^ (l.length - n) = 2 ^ (l.length - (n + 1)) + 2 ^ (l.length - (n + 1)) := by
              have : l.length - n = (l.length - (n + 1)) + 1 := by omega
              rw [this, Nat.pow_succ]; omega
            simp only [List.flatMap_cons, List.flatMap_nil, List.append_nil, List.length_map]
            omega
          · omega
        · right; omega
    rcases key (l.length - s) with h | h
    · show ((List.range (l.length - s)).flatMap fun k => (subs s (l.drop (k + 1))).map fun r => l.getD k 0 :: r).length ≤ _
      exact Nat.le_trans (Nat.le_add_right _ _) h
    · omega
theorem subs_size : ∀ {s : Nat} {l : List Int} {i : Nat} {r : List Int}, (subs s l)[i]? = some r → r.length = s := by
  intro s
  induction s with
  | zero =>
    intro l i r h
    have := List.mem_of_getElem? h
    rw [show subs 0 l = [[]] from rfl, List.mem_singleton] at this
    rw [this]; rfl
  | succ s ih =>
    intro l i r h
    have := List.mem_of_getElem? h
    rw [show subs (s + 1) l = (List.range (l.length - s)).flatMap fun k => (subs s (l.drop (k + 1))).map fun r => l.getD k 0 :: r from rfl] at this
    obtain ⟨k, _, hk⟩ := List.mem_flatMap.mp this
    obtain ⟨q, hq, rfl⟩ := List.mem_map.mp hk
    obtain ⟨j, hj⟩ := List.mem_iff_getElem?.mp hq
    rw [List.length_cons, ih hj]
theorem flat_succ {α : Type} {f : Nat → List α} {n : Nat} : (List.range (n + 1)).flatMap f = (List.range n).flatMap f ++ f n := by rw [List.range_succ, List.flatMap_append]; simp
theorem flat_mono {α : Type} {f : Nat → List α} {n m : Nat} (h : n ≤ m) : ((List.range n).flatMap f).length ≤ ((List.range m).flatMap f).length := by
  induction h with
  | refl => exact Nat.le_refl _
  | step _ ih => rw [flat_succ, List.length_append]; omega
def R_subsets (q : Nat) (ds : List D) (d : D) : Prop := ∃ (l : List Int) (t : Nat), t < q ∧ t ≤ 1000 ∧ l.length ≤ 16 ∧ ds = [dR l, .int (t : Nat)] ∧ d = dRs (subs t l)
theorem ok_subsets (T : At K mg "subsets" s_subsets ["items", "size"]) (B : Bi mg) : ∀ q : Nat, Has P w K mg base CX0 "subsets" (q + 1) ["items", "size"] (spD K (R_subsets q))
  | 0 => (has_never T sc_subsets).imp fun _ _ ⟨_, _, h, _⟩ => by omega
  | q + 1 => by
    have G_subsets := ok_subsets T B q
    refine ok_H T sc_subsets (fun ds d h => by obtain ⟨_, _, _, _, _, rfl, _⟩ := h; rfl) (fun f cdv A outer s H E hr => ⟨_, (pss_cons (ps_if (pt_cmpR op_eq (pv 1) (pe_int) (nomark _)) (pss_one (ps_ret (pe_lst (pa_cons (pe_tup pa_nil) pa_nil)))) (pss_nil))
        (pss_cons (ps_set (i := 2) sc_subsets.nd rfl (by first | exact Or.inl rfl | exact Or.inr rfl) (pe_lst pa_nil))
        (pss_cons (ps_for PassesOwn.never rfl (pi_range1 rfl B.range (pa_cons (pe_op op_add (pe_op op_sub (pe_callB (cl_len K) rfl B.len PySem.boot_len (pa_cons (pv 0) pa_nil)) (pv 1)) (pe_int)) pa_nil)) (pg_name (i := 3) sc_subsets.nd rfl (by first | exact Or.inl rfl | exact Or.inr rfl)) (pss_one (ps_for PassesOwn.never rfl (pi_lK K (pe_callH G_subsets hr (by omega) rfl (pa_cons (pe_slice (sl_tK K) (pv 0) (po_some (pe_op op_add (pv 3) (pe_int))) po_none) (pa_cons (pe_op op_sub (pv 1) (pe_int)) pa_nil)))) (pg_name (i := 4) sc_subsets.nd rfl (by first | exact Or.inl rfl | exact Or.inr rfl)) (pss_one (ps_expr (pe_appendK K (pv 2) (pa_cons (pe_op (op_catK K) (pe_tup (pa_cons (pe_ix (ix_tK K) (pv 0) (pv 3) (fun _ _ => rfl)) pa_nil)) (pv 4)) pa_nil)))))))
        (pss_one (ps_ret (pv 2)))))), ?_⟩)
    rintro ds d ⟨l, t, ht, ht2, hl, rfl, rfl⟩
    have hl2 := subs_len t l
    have hl3 : 2 ^ l.length ≤ 2 ^ 16 := Nat.pow_le_pow_right (by omega) hl
    apply sd_seq
    apply sd_if
    · walk_at "evd"
    · intro c
      have : t = 0 := by simp at c; omega
      subst this
      apply sd_retE (p := Or.inl rfl)
      · walk_at "evd"
        all_goals walk_at "bnd"
      · rfl
    intro c
    apply sd_next
    obtain ⟨t, rfl⟩ : ∃ u, t = u + 1 := ⟨t - 1, by simp at c; omega⟩
    apply sd_seq
    apply sd_setN
    · walk_at "evn"
      all_goals walk_at "bnd"
    apply sd_seq
    apply sd_for (e := fun i : Nat => D.int (i : Nat)) (items := List.range (l.length - t)) (Inv := fun i ρ => ∃ x y, ρ = [.im (dR l), .im (.int ((t + 1 : Nat) : Nat)), .ml (((List.range i).flatMap fun k => (subs t (l.drop (k + 1))).map fun r => l.getD k 0 :: r).map dR), x, y])
    · apply iv_rngT
      · walk_at "evd"
      · rfl
      all_goals (rw [List.length_map]; omega)
    · exact ⟨_, _, rfl⟩
    · rintro i a ρ1 ha ⟨x, y, rfl⟩
      obtain rfl := rng_at ha
      have hi := rng_lt ha
      refine ⟨_, _, gd_name, ?_⟩
      apply sd_for (e := dR) (items := subs t (l.drop (i + 1))) (Inv := fun j ρ => ∃ y, ρ = [.im (dR l), .im (.int ((t + 1 : Nat) : Nat)), .ml ((((List.range i).flatMap fun k => (subs t (l.drop (k + 1))).map fun r => l.getD k 0 :: r) ++ ((subs t (l.drop (i + 1))).take j).map fun r => l.getD i 0 :: r).map dR), .im (.int (i : Nat)), y])
      · walk_at "evd"
        refine ⟨l.drop (i + 1), t, by omega, by omega, by rw [List.length_drop]; omega, ?_, rfl⟩
        rw [cut_lo1, ← List.map_drop]
        congr 3
        omega
      · refine ⟨y, ?_⟩
        rw [List.take_zero, List.map_nil, List.append_nil]
        rfl
      · rintro j r ρ1 hb ⟨y, rfl⟩
        refine ⟨_, _, gd_name, ?_⟩
        have hj : j < (subs t (l.drop (i + 1))).length := (List.getElem?_eq_some_iff.mp hb).1
        have hlr := subs_size hb
        apply sd_app
        · rfl
        · walk_at "evd"
          · omega
          · walk_at "bnd"
          · walk_at "bnd"
        · have e1 := flat_mono (f := fun k => (subs t (l.drop (k + 1))).map fun r => l.getD k 0 :: r) (Nat.succ_le_of_lt hi)
          rw [flat_succ, List.length_append, List.length_map] at e1
          have e2 : (subs (t + 1) l).length = ((List.range (l.length - t)).flatMap fun k => (subs t (l.drop (k + 1))).map fun r => l.getD k 0 :: r).length := rfl
          rw [List.length_map, List.length_append, List.length_map, List.length_take]
          omega
        · refine ⟨.im (dR r), ?_⟩
          rw [List.take_succ, hb, Option.toList_some]
          simp only [List.map_append, List.append_assoc]
          rfl
      · rintro ρ1 ⟨y, rfl⟩
        refine ⟨.im (.int (i : Nat)), y, ?_⟩
        rw [List.take_length, flat_succ]
    · rintro ρ1 ⟨x, y, rfl⟩
      apply sd_frz (i := 2) rfl rfl
      apply sd_retE (p := Or.inl rfl)
      · walk_at "evd"
      · rw [List.length_range]; rfl
end
end DL

set_option Elab.async false
set_option linter.all false
set_option maxRecDepth 100000
set_option maxHeartbeats 2000000
/-! DL12: == of rows and of lists of rows. -/
namespace DL
open PySem L2
theorem py_ints (ns : List Int) : D.pyA (ns.map D.int) = ns.map PyData.int := by
  rw [pyA_map, List.map_map]
  exact List.map_congr_left fun n _ => by show D.py (.int n) = _; rw [D.py]
theorem py_row (r : List Int) : D.py (dR r) = .tuple (r.map PyData.int) := by rw [D.py, py_ints]
theorem py_rows (rs : List (List Int)) : D.pyA (rs.map dR) = rs.map fun r => .tuple (r.map PyData.int) := by
  rw [pyA_map, List.map_map]
  exact List.map_congr_left fun n _ => py_row n
theorem plain_ints (ns : List Int) : D.plainA (ns.map D.int) = true := by
  rw [plainA_all, List.all_map, List.all_eq_true]
  intro n _
  show D.plain (.int n) = true
  simp [D.plain]
theorem plain_row (r : List Int) : D.plain (dR r) = true := by rw [D.plain]; exact plain_ints r
theorem plain_rows (rs : List (List Int)) : D.plainA (rs.map dR) = true := by
  rw [plainA_all, List.all_map, List.all_eq_true]
  exact fun n _ => plain_row n
theorem lay_ints : ∀ ns : List Int, PyData.canLayAll0 (ns.map PyData.int) = true
  | [] => rfl
  | n :: ns => by rw [List.map_cons, PyData.canLayAll0, lay_ints ns]; rfl
theorem depth_ints : ∀ ns : List Int, PyData.depthAll (ns.map PyData.int) ≤ 1
  | [] => by simp [PyData.depthAll]
  | n :: ns => by
    have := depth_ints ns
    rw [List.map_cons, PyData.depthAll, PyData.depth]
    omega
theorem eqv_ints : ∀ ns ms : List Int, PyData.eqvAll (ns.map PyData.int) (ms.map PyData.int) = decide (ns = ms)
  | [], [] => rfl
  | [], _ :: _ => rfl
  | _ :: _, [] => rfl
  | n :: ns, m :: ms => by
    rw [List.map_cons, List.map_cons, PyData.eqvAll, PyData.eqv, eqv_ints ns ms]
    by_cases h : n = m <;> by_cases h2 : ns = ms <;> simp [h, h2]
theorem lay_rows : ∀ rs : List (List Int), PyData.canLayAll0 (rs.map fun r => PyData.tuple (r.map PyData.int)) = true
  | [] => rfl
  | n :: ns => by rw [List.map_cons, PyData.canLayAll0, lay_rows ns, PyData.canLay0, lay_ints]; rfl
theorem depth_rows : ∀ rs : List (List Int), PyData.depthAll (rs.map fun r => PyData.tuple (r.map PyData.int)) ≤ 2
  | [] => by simp [PyData.depthAll]
  | n :: ns => by
    have := depth_rows ns
    have := depth_ints n
    rw [List.map_cons, PyData.depthAll, PyData.depth]
    omega
theorem eqv_rows : ∀ ns ms : List (List Int), PyData.eqvAll (ns.map fun r => PyData.tuple (r.map PyData.int)) (ms.map fun r => PyData.tuple (r.map PyData.int)) = decide (ns = ms)
  | [], [] => rfl
  | [], _ :: _ => rfl
  | _ :: _, [] => rfl
  | n :: ns, m :: ms => by
    rw [List.map_cons, List.map_cons, PyData.eqvAll, PyData.eqv, eqv_ints, eqv_rows ns ms]
    by_cases h : n = m <;> by_cases h2 : ns = ms <;> simp [h, h2]
theorem shp_row (r : List Int) : (dR r).shp = true := by
  rw [D.shp, plain_row, py_row, SeqAt.shaped, PyData.canLay0, lay_ints, PyData.depth]
  have := depth_ints r
  simp; omega
theorem shp_list (r : List Int) : (D.lst (r.map D.int)).shp = true := by
  rw [D.shp, D.plain, plain_ints, D.py, py_ints, SeqAt.shaped, PyData.canLay0, lay_ints, PyData.depth]
  have := depth_ints r
  simp; omega
theorem shp_rowsT (r : List (List Int)) : (D.tup (r.map dR)).shp = true := by
  rw [D.shp, D.plain, plain_rows, D.py, py_rows, SeqAt.shaped, PyData.canLay0, lay_rows, PyData.depth]
  have := depth_rows r
  simp; omega
theorem shp_rowsL (r : List (List Int)) : (D.lst (r.map dR)).shp = true := by
  rw [D.shp, D.plain, plain_rows, D.py, py_rows, SeqAt.shaped, PyData.canLay0, lay_rows, PyData.depth]
  have := depth_rows r
  simp; omega
theorem eqv_row (r q : List Int) : PyData.eqv (dR r).py (dR q).py = decide (r = q) := by rw [py_row, py_row, PyData.eqv, eqv_ints]
section
variable {K : Fr} {a b : List Int} {as bs : List (List Int)}
theorem rv_eqTI : RvD K (rEqD K) (.tup (a.map D.int)) (.tup (b.map D.int)) (.bl (decide (a = b))) := rv_eqD (shp_row a) (shp_row b) (eqv_row a b)
theorem rv_neTI : RvD K (rNeD K) (.tup (a.map D.int)) (.tup (b.map D.int)) (.bl (!decide (a = b))) := rv_neD (shp_row a) (shp_row b) (by rw [eqv_row])
theorem rv_eqLI : RvD K (rEqD K) (.lst (a.map D.int)) (.lst (b.map D.int)) (.bl (decide (a = b))) := rv_eqD (shp_list a) (shp_list b) (by rw [D.py, D.py, py_ints, py_ints, PyData.eqv, eqv_ints])
theorem rv_neLI : RvD K (rNeD K) (.lst (a.map D.int)) (.lst (b.map D.int)) (.bl (!decide (a = b))) := rv_neD (shp_list a) (shp_list b) (by rw [D.py, D.py, py_ints, py_ints, PyData.eqv, eqv_ints])
theorem rv_eqTR : RvD K (rEqD K) (.tup (as.map dR)) (.tup (bs.map dR)) (.bl (decide (as = bs))) := rv_eqD (shp_rowsT as) (shp_rowsT bs) (by rw [D.py, D.py, py_rows, py_rows, PyData.eqv, eqv_rows])
theorem mem_rows : ((D.pyA (as.map dR)).any fun z => PyData.eqv z (dR a).py) = decide (a ∈ as) := by
  rw [py_rows, List.any_map, Bool.eq_iff_iff, List.any_eq_true, decide_eq_true_iff]
  constructor
  · rintro ⟨r, h, e⟩
    have : r = a := by
      have e' : PyData.eqv (PyData.tuple (r.map PyData.int)) (dR a).py = true := e
      rw [py_row, PyData.eqv, eqv_ints] at e'
      exact of_decide_eq_true e'
    exact this ▸ h
  · intro h
    refine ⟨a, h, ?_⟩
    show PyData.eqv (PyData.tuple (a.map PyData.int)) (dR a).py = true
    rw [py_row, PyData.eqv, eqv_ints]
    exact decide_eq_true rfl
theorem rv_inLR : RvD K (rInD K) (.tup (a.map D.int)) (.lst (as.map dR)) (.bl (decide (a ∈ as))) := rv_inD (shp_row a) (shp_rowsL as) mem_rows
theorem rv_notInLR : RvD K (rNotInD K) (.tup (a.map D.int)) (.lst (as.map dR)) (.bl (!decide (a ∈ as))) := rv_notInD (shp_row a) (shp_rowsL as) (by rw [mem_rows])
end
end DL

set_option Elab.async false
set_option linter.all false
set_option maxRecDepth 100000
set_option maxHeartbeats 2000000
/-! DX1: an own exception's __init__ that begins with super().__init__(..). -/
namespace DL
open PySem L2 PySem.W
open NdefX (NF NScope CellsAt ncx startF inv_startN envF)
/-- the class C of an own exception over ValueError, its __init__ at f -/
structure SupK (P : Program) (K : Fr) (mg : Str → Option Value) (C cc cda : Addr) : Prop where
  cell : ∃ cl cld csl, K.lookup cc = some ⟨cl, cld, .cell (some (.ref C)), csl⟩
  code : ∃ ccl cdd vs ccs file tf, K.lookup cda = some ⟨ccl, cdd, .fields vs, ccs⟩ ∧ vs[2]? = some (.str file tf) ∧ ((P.main.file : Str) == file) = true
  sub : mroIn K C (.ref C) = some true
  sup : mg "super" = none
  top : (P.main.scope.names.lookup ("super" : Str)).isSome = false
  oq : nsIn K cStatics "thirdparty.any" = some none
  ini : ks_superIn K C C "__init__" = some (some (.builtin "ValueError.__init__"))
  ve : subIn K (.ref C) (.type "ValueError") = some true
section
variable {X : Cx} {pins : List (Addr × Obj)} {σ : L2.St} {H : Hp} {s : Shared}
/-- the method-wrapper called: the exception's args are laid anew -/
theorem bound_init {A : Around} {a u C : Addr} {us : List Value} {E : Value → Shared → Prop} {Q : Value → Shared → Prop} (T : OexC X.K C) (I : L2.Inv X pins σ H s) (e : H a = some (exo a C none)) (hu : s.heap.get? u = some (kxs_mw "ValueError.__init__" a)) (hl : us.length ≤ sizeLine)
    (h : ∀ s', L2.Inv X pins σ H s' → Q .none s') : wpAny (model X.prog X.w) A (call (.ref u) us) Q E s := by
  obtain ⟨nm, q, N, bs, bm, sn, sub, ab, col, dd, k0, k1, k2, k3, k5, hC, hbm⟩ := T.cls
  obtain ⟨t1, ho⟩ := exo_at I.hok e
  have FB := PySem.F.excBase_ValueError
  have hCh := I.kIn _ _ hC
  obtain ⟨hp, g, d, t, os⟩ := s
  refine wpAny_call (codeAny_of_tree ?_)
  show wpAny _ A.in1 (callAny (.ref u) ⟨us, []⟩) _ _ _
  simp only [callAny]
  refine wpAny_bind (wpAny_load hu ?_)
  simp only [kxs_mw, show (Value.type "method-wrapper" == Value.type "method" || Value.type "method-wrapper" == Value.type "builtin_function_or_method" || Value.type "method-wrapper" == Value.type "method-wrapper") = true by decide, if_true]
  refine KFB.if_so (by decide) ?_
  refine wpAny_bind (check_bound_init FB.toExcCallFacts hCh ho rfl ?_)
  refine wpAny_bind (wpAny_pure (wpAny_pure ?_))
  refine ⟨plainId_quiet FB.init.plain _, codeAny_builtin FB.initEntry ?_⟩
  refine exc_init_tree (cls := .ref C) (t0 := t1) (dv := none) (c2 := .none) (c3 := .none) (b4 := .bool false) ho hl fun h' k hx _ => ?_
  have J := I.write (t' := t) (x := a) (e := a) (o := exo a C none) (by rw [e]; exact True.intro) (.inl rfl) k ⟨_, hx⟩ (exo_ok hx)
  have eu : upd H a (exo a C none) = H := by
    funext b
    by_cases hb : b = a
    · rw [hb, upd_same, e]
    · rw [upd_ne hb]
  rw [eu] at J
  exact h _ J
end
/-- super().__init__(e), the first statement of such an __init__ -/
theorem super_call {P : Program} {w : World} {K : Fr} {mg : Str → Option Value} {base : Heap} {CX : CXT} {N : List Str} {F : NF} {f a C cc : Addr} {A : Around} {outer : List PySem.Env} {s0 s : Shared} {H0 H : Hp} {E0 : XK} {pins : List (Addr × Obj)} {σ : L2.St}
    {body : List Stmt} {p0 p1 p2 p3 p4 : Pos} {kk : Nat} {oc : Value} {od : Option Addr} {fd : FuncData} {osl : Array (Option Value)} {ar : Arg} {m : Str → Option Value} {Q : Value → Shared → Prop} {E : Value → Shared → Prop} {x : Str}
    (lk : K.lookup f = some ⟨oc, od, .func fd, osl⟩) (hp : (fd.params.posonlyargs ++ fd.params.args).head? = some ar) (hcl : F.cl = [(("__class__" : Str), cc)]) (SK : SupK P K mg C cc F.c) (O : OexC K C)
    (hks : F.scope.names.lookup ("super" : Str) = some .globalImplicit) (hkc : F.scope.names.lookup ("__class__" : Str) = some .free) (hka : F.scope.names.lookup ar.arg = some .local) (hk : F.scope.kind = .function)
    (I : L2.Inv (ncx CX P w K mg base N F f A outer s0 H0 E0) pins σ H s) (hns : s.heap.Ns s0.heap.objs.size m) (hv : m ar.arg = some (.ref a)) (ha : H a = some (exo a C none))
    {pl : Sem Bool} (he : eval (.Call (.Attribute (.Call (.Name "super" p0) [] [] p1) "__init__" p2) [.Constant (.str x) kk p3] [] p4) (envF F f s0.heap.objs.size) = (do
      let ov ← attributeBase (.Call (.Name "super" p0) [] [] p1) "__init__" (envF F f s0.heap.objs.size) (eval (.Call (.Name "super" p0) [] [] p1) (envF F f s0.heap.objs.size))
      standAt p2.atName
      let (f', first) ← holding [ov] (getMethod ov "__init__" pl)
      callWith p4 f' first (backTo p4 (starEach [.Constant (.str x) kk p3] (envF F f s0.heap.objs.size))) []))
    (h : ∀ s', L2.Inv (ncx CX P w K mg base N F f A outer s0 H0 E0) pins σ H s' → Q .none s') :
    PySem.wpAt (model P w) (A.deeper (envF F f s0.heap.objs.size)) (.func body (envF F f s0.heap.objs.size)) (eval (.Call (.Attribute (.Call (.Name "super" p0) [] [] p1) "__init__" p2) [.Constant (.str x) kk p3] [] p4) (envF F f s0.heap.objs.size)) Q E s := by
  obtain ⟨cl, cld, csl, hcell⟩ := SK.cell
  obtain ⟨ccl, cdd, vs, ccs, file, tf, hcode, hvs, hfile⟩ := SK.code
  obtain ⟨nm, q, Nn, bs, bm, sn, sub, ab, col, dd, k0, k1, k2, k3, k5, hC, hbm⟩ := O.cls
  have KX : K.In s.heap := I.kIn
  obtain ⟨t1, ho⟩ := exo_at I.hok ha
  obtain ⟨mb, hb1, hb2⟩ := I.mod.blt
  refine ks_wpAt_MethodCall (pl := pl) ?_ he
  refine ks_wpAt_super_base hks hkc rfl rfl (KX _ _ lk) rfl hp rfl (KX _ _ hcode) rfl hvs hfile SK.top ?_
  refine ks_loadName_global hk hks (Calls.loadGlobal_builtin (I.mod.glob.keeps I.bk) SK.sup (hb1.keeps I.bk) ((hb2 "super" (by decide)).trans PyProof.Rows.Boot.«super») ⟨rfl, ?_⟩)
  refine wpAny_loadName_free hk hkc (by show F.cl.lookup _ = some cc; rw [hcl]; rfl) ⟨_, KX _ _ hcell, rfl⟩ ?_
  refine wpAny_loadName_local hk hka hns hv ?_
  obtain ⟨hp', g, d, tk, os⟩ := s
  refine ks_wpAny_isType_cls (KX _ _ hC) rfl ⟨rfl, ?_⟩
  refine ks_wpAny_call_super (KX _ _ hC) rfl ho rfl (fun c z => nomatch z) (looks_mroIn KX SK.sub) fun h1 hso k => ?_
  have I1 : L2.Inv (ncx CX P w K mg base N F f A outer s0 H0 E0) pins σ H ⟨h1, g, d, tk, os⟩ := I.kept (t' := tk) k
  have KX1 : K.In h1 := I1.kIn
  have ho1 := k _ _ ho
  have hsup := SK.ini
  unfold ks_superIn at hsup
  cases hcl' : clsIn K C with
  | none => rw [hcl'] at hsup; cases hsup
  | some cd =>
    rw [hcl'] at hsup
    have hI : Looks (model P w) h1 (isInstance (.ref a) (.type "ValueError")) true := by
      have IA : InstAt h1 a _ C none := ⟨ho1, rfl, rfl, trivial⟩
      exact IA.type.andThen (looks_subIn KX1 SK.ve)
    refine kxs_getMethod kxs_ValueError hso (looks_opaque KX1 SK.oq) (l₀ := cd.mro) ?_ rfl KX1 hsup hI ?_ rfl ?_
    · exact fun A' Q' E' s' k' q' => wpAny_bind ((looks_clsIn KX1 hcl') A' _ E' s' k' (wpAny_pure q'))
    · exact ks_ne KX1 (⟨ho1, rfl, rfl, trivial⟩ : InstAt h1 a _ C none) hcl'
    · have hu : (h1.push (kxs_mw "ValueError.__init__" a)).get? h1.objs.size = some (kxs_mw "ValueError.__init__" a) := Heap.get?_push_size _ rfl
      have I2 : L2.Inv (ncx CX P w K mg base N F f A outer s0 H0 E0) pins σ H ⟨h1.push (kxs_mw "ValueError.__init__" a), g, d, tk + 1, os⟩ := I1.kept (t' := tk + 1) fun b o z => Heap.get?_push_of_some _ z
      refine kxs_callWith (i := "ValueError.__init__") (x := a) rfl (Calls.evalArgs_plain (PyProof.Rows.args_cons (Calls.Constant_str (PyProof.Rows.args_nil ⟨hu, ?_⟩)) rfl))
      exact bound_init (X := ncx CX P w K mg base N F f A outer s0 H0 E0) O (I2.tok _) ha hu (by show 1 ≤ sizeLine; decide) h
/-- an own exception's __init__: super().__init__(text), then the rest -/
theorem fn_super {P : Program} {w : World} {K : Fr} {mg : Str → Option Value} {base : Heap} {CX : CXT} {N ps : List Str} {F : NF} {f C cc : Addr} {k : Nat} {sp : Sp} {oc : Value} {od an : Option Addr} {osl : Array (Option Value)} {dV kV doc pm ct : Value}
    {p0 p1 p2 p3 p4 p5 : Pos} {kk : Nat} {x : Str} {rest : List Stmt} {ar : Arg} {pl : Sem Bool}
    (lk : K.lookup f = some ⟨oc, od, .func (fnX F.name F.qual F.params F.body F.scope F.cl dV kV doc pm an (.ref F.c) ct), osl⟩) (hcd : codeIn K (.ref F.c) F.qual = true) (hbd : F.body = .Expr (.Call (.Attribute (.Call (.Name "super" p0) [] [] p1) "__init__" p2) [.Constant (.str x) kk p3] [] p4) p5 :: rest)
    (S : NScope N ps ["__class__"] F.scope) (hp : (F.params.posonlyargs ++ F.params.args).head? = some ar) (hp0 : ps[0]? = some ar.arg) (hcl : F.cl = [(("__class__" : Str), cc)]) (SK : SupK P K mg C cc F.c) (O : OexC K C)
    (hks : F.scope.names.lookup ("super" : Str) = some .globalImplicit)
    (he : ∀ L : Addr, eval (.Call (.Attribute (.Call (.Name "super" p0) [] [] p1) "__init__" p2) [.Constant (.str x) kk p3] [] p4) (envF F f L) = (do
      let ov ← attributeBase (.Call (.Name "super" p0) [] [] p1) "__init__" (envF F f L) (eval (.Call (.Name "super" p0) [] [] p1) (envF F f L))
      standAt p2.atName
      let (f', first) ← holding [ov] (getMethod ov "__init__" pl)
      callWith p4 f' first (backTo p4 (starEach [.Constant (.str x) kk p3] (envF F f L))) []))
    (hsw : ∀ L : Addr, swapsWith (.Call (.Attribute (.Call (.Name "super" p0) [] [] p1) "__init__" p2) [.Constant (.str x) kk p3] [] p4) none p5.line (envF F f L) = pure false)
    (len : ∀ vs H Q E, sp vs H Q E → vs.length = ps.length) (fst : ∀ vs H Q E, sp vs H Q E → ∃ a ws, vs = .ref a :: ws ∧ H a = some (exo a C none))
    (hbody : ∀ (A : Around) (outer : List PySem.Env) (s : Shared) (H : Hp) (vs : List V) (Q : VK) (E : XK), Room k (A.deeper (envF F f s.heap.objs.size)) → sp vs H Q E →
      ∃ t, PSs (ncx CX P w K mg base N F f A outer s H E) rest t ∧ t { nx := fun _ H' => Q .non H', rt := Q } (startF N vs [none]) H) :
    FnOk P w K mg base CX (k + 1) f (fnX F.name F.qual F.params F.body F.scope F.cl dV kV doc pm an (.ref F.c) ct) ps sp := by
  refine ⟨len, fun A outer s H args us vs Q E hr e0 hb r hsp => ?_⟩
  have hl := len _ _ _ _ hsp
  obtain ⟨a, ws, rfl, ha⟩ := fst _ _ _ _ hsp
  have KX : K.In s.heap := e0.mod.kin.keeps fun b o e => (e0.bs b o e).1
  have lim : s.heap.NoLimit := e0.mod.nolimit.keeps fun b o e => (e0.bs b o e).1
  obtain ⟨cl, cld, csl, hcell⟩ := SK.cell
  have hkc : F.scope.names.lookup ("__class__" : Str) = some .free := S.frk _ List.mem_cons_self
  have hka : F.scope.names.lookup ar.arg = some .local := S.par _ (List.mem_of_getElem? hp0)
  have C1 : CellsAt F.cl ["__class__"] [none] s.heap H := by
    refine ⟨rfl, fun y c e => ?_, fun x1 y c e1 e2 => ?_, fun i y hi => ?_⟩
    · rw [hcl] at e
      have : c = cc := by
        by_cases q : y = "__class__"
        · subst q; rw [List.lookup_cons_self] at e; cases e; rfl
        · have : (y == ("__class__" : Str)) = false := by simpa using q
          rw [List.lookup, this] at e; cases e
      subst this
      exact ⟨(e0.bs _ _ (e0.mod.kin _ _ hcell)).2, _, _, KX _ _ hcell, rfl⟩
    · have key : ∀ {z : Str}, F.cl.lookup z = some c → z = "__class__" := fun {z} e => by
        rw [hcl] at e
        by_cases q : z = "__class__"
        · exact q
        · have : (z == ("__class__" : Str)) = false := by simpa using q
          rw [List.lookup, this] at e; cases e
      rw [key e1, key e2]
    · cases i with
      | zero =>
        cases hi
        exact ⟨cc, by rw [hcl, List.lookup_cons_self], fun v z => by cases z⟩
      | succ i => cases hi
  refine codeAny_call_function hr.depth (KX _ _ lk) rfl S.co S.gen rfl (codeRec_of KX hcd) (hb _ _ _ _ ?_)
  refine wpAny_newFunctionEnv S.nocell (fun ⟨n, _⟩ hy => S.par n (List.of_mem_zip hy).1) (fun h₁ hns hsb => ⟨lim.fresh _ hsb, ?_⟩) S.kind
  show codeAny _ _ (.func F.body (envF F f s.heap.objs.size)) _ _
  refine ks_codeAny_funcAt ?_
  have kp : ∀ b o, s.heap.get? b = some o → h₁.get? b = some o := fun b o e => hsb.extBut b o (Nat.ne_of_lt (Heap.lt_size e)) (Heap.get?_push_of_some _ e)
  obtain ⟨t, ht, hq⟩ := hbody A outer s H _ Q E (hr.deeper _) hsp
  have I : L2.Inv (ncx CX P w K mg base N F f A outer s H E) [] (startF N (.ref a :: ws) [none]) H { s with heap := h₁, toks := s.toks + (ps.zip us).length } := inv_startN S hr.hd e0 hl r C1 hns kp
  have hv : (fun y => (ps.zip us).reverse.lookup y) ar.arg = some (.ref a) := by
    cases r with
    | @cons _ u _ us' ra rr =>
      cases ra
      refine NdefX.zip_look (i := 0) ?_ hp0 rfl
      have q := S.nd.sublist (List.take_sublist (ps.length + (["__class__"] : List Str).length) N)
      rw [S.pre] at q
      exact (List.nodup_append.mp q).1
  have fin : ∀ {σ' : L2.St} {H' : Hp} {v : V} {u : Value} {s' : Shared}, L2.Inv (ncx CX P w K mg base N F f A outer s H E) [] σ' H' s' → L2.RelV v u → Q v H' → CE outer P w H s Q u s' := fun {σ' H' v u s'} J rv q => ⟨v, H', J.os, J.bare, J.base, J.hok, rv, q⟩
  have hex : execs F.body (envF F f s.heap.objs.size) = execs (.Expr (.Call (.Attribute (.Call (.Name "super" p0) [] [] p1) "__init__" p2) [.Constant (.str x) kk p3] [] p4) p5 :: rest) (envF F f s.heap.objs.size) := by rw [hbd]
  rw [hex]
  refine ks_wpAt_execs_cons (ks_wpAt_Expr_any (super_call (base := base) (CX := CX) (N := N) (outer := outer) (s0 := s) (H0 := H) (E0 := E) (A := A) lk hp hcl SK O hks hkc hka S.kind I hns hv ha (he _) fun s' J => ?_) (by
    unfold interactive
    rw [show (envF F f s.heap.objs.size).scope = F.scope from rfl, S.kind]
    rfl) (hsw _))
  refine wpAt_of_wpAny (wpAny_mono (ht.run [] s' (startF N (.ref a :: ws) [none]) H _ J hq) (fun fl s' hs => ?_) fun e s' hs => hs)
  cases fl with
  | ret u =>
    obtain ⟨v, σ', H', J, rv, q⟩ := hs
    exact fin J rv q
  | next =>
    obtain ⟨σ', H', J, q⟩ := hs
    exact fin (v := V.non) (u := Value.none) J rfl q
  | brk =>
    obtain ⟨_, _, _, q⟩ := hs
    exact False.elim q
  | cont =>
    obtain ⟨_, _, _, q⟩ := hs
    exact False.elim q
end DL

set_option Elab.async false
set_option linter.all false
set_option maxRecDepth 100000
set_option maxHeartbeats 2000000
/-! DX2: except X as n, several of them; nothing else may come out of the body. -/
namespace DL
open PySem L2 PySem.W
abbrev Cl := Value × Nat × (Addr → Value → Option Addr → TS)
/-- behind a suite: its name is gone -/
abbrev Gone (i : Nat) (D : Ends) : Ends := { nx := fun σ H => D.nx (σ.set i none) H, rt := D.rt, bk := fun σ H => D.bk (σ.set i none) H, ct := fun σ H => D.ct (σ.set i none) H }
def wMas (K : Fr) (D : Ends) : List Cl → WX
  | [] => fun _ _ _ _ => False
  | (c, i, ts) :: r => fun cls d σ H => ∃ b, exmOne K cls c = some b ∧ (b = true → ∀ a, H a = none → ts a cls d (Gone i D) (σ.set i (some (.ref a))) H) ∧ (b = false → wMas K D r cls d σ H)
inductive ClsOk (X : Cx) : List ExceptHandler → List Cl → Prop
  | nil : ClsOk X [] []
  | cons {x n : Str} {c : Value} {i : Nat} {ts : Addr → Value → Option Addr → TS} {st : Stmt} {sts : List Stmt} {np q : Pos} {hds : List ExceptHandler} {l : List Cl} (hc : Names X x c) (hi : X.N[i]? = some n) (hl : X.env.kindOf n = some .local)
      (su : ∀ (a : Addr) (oe : Obj) (cls : Value) (d : Option Addr) (pn : List (Addr × Obj)), Zc cls d oe → (∃ vs, oe.data = .fields vs) → PSs (X.suite a ((a, oe) :: pn)) (st :: sts) (ts a cls d)) (r : ClsOk X hds l) :
      ClsOk X (.ExceptHandler (some (.Name x np)) (some n) (st :: sts) q :: hds) ((c, i, ts) :: l)
section
variable {X : Cx} {body : List Stmt} {h0 : ExceptHandler} {hds : List ExceptHandler} {l : List Cl} {pos : Pos} {tb : WX → TS}
theorem frame_no {B h : Heap} {fs : List PySem.Env} {a : Addr} {o : Obj} {vs : Array Value} (ff : h.FunFrames B fs) (e : h.get? a = some o) (dd : o.data = .fields vs) : a ∉ frs fs := fun hm => by
  obtain ⟨_, o', e', hn⟩ := ff.mem hm
  rw [e] at e'
  cases e'
  exact hn _ dd
theorem clauses_ok {pins : List (Addr × Obj)} {σ : L2.St} {H : Hp} {D : Ends} {a : Addr} {B : Heap} {sI s : Shared} {cls : Value} {d : Option Addr} {hds' : List ExceptHandler} {l' : List Cl} (ok : X.Ok) (hf : X.env.frame = some X.env.locals) (hs : X.stack = X.env :: X.outer) (nd : X.N.Nodup)
    (J : L2.Inv X pins σ H sI) (nb : ∀ b o, sI.heap.get? b = some o → b ∉ frs X.stack → B.get? b = some o) (up : sI.heap.UpToSlots s.heap) (fl : HandSPX.FlyingZ B (X.env :: X.outer) a (Zc cls d) s.heap) (na : H a = none) (os : s.os = sI.os) (ag : PyProof.Rows.AllBare s.gens) (hk : ClsOk X hds' l') (w : wMas X.K D l' cls d σ H) :
    wpAny (model X.prog X.w) X.A (handleBy (.ref a) X.env hds') (SP X pins D) X.xe s := by
  induction hk with
  | nil => exact w.elim
  | @cons x n c i ts st sts np q hds l hc hi hl su r ih =>
    obtain ⟨b, hb, yes, no⟩ := w
    have J1 : L2.Inv X pins σ H s := J.landed nb fl.1 up os ag
    obtain ⟨oe, vs, he, hz, hd⟩ := fl.there
    have nf := frame_no fl.2.2.1 he hd
    have nL : a ≠ X.env.locals := fun z => nf (List.mem_filterMap.mpr ⟨X.env, List.mem_cons_self, by rw [hf, z]⟩)
    have nF : a ∉ X.fs := fun hm => by
      obtain ⟨e, he', q'⟩ := List.mem_filterMap.mp hm
      exact nf (List.mem_filterMap.mpr ⟨e, List.mem_cons_of_mem _ he', q'⟩)
    have S1 := J1.suite he hd na nL nF
    refine wpAny_handleBy_cons (codeAny_handlers_test ?_) (by intro z; cases z)
    have LT : Looks (model X.prog X.w) s.heap (typeOf (.ref a)) cls := fun A Q E s' k z => wpAny_typeOf_ref (k _ _ he) (by rw [hz.1]; exact z)
    have LM := exm_one (M := model X.prog X.w) (J1.kIn) LT hb
    have name : ∀ {Q : Value → Shared → Prop} {E : Value → Shared → Prop}, Q c s → wpAny (model X.prog X.w) (X.A.mark (some (.ref a))) (eval (.Name x np) X.env) Q E s := fun {Q E} z => by
      obtain ⟨hg, hdb, hm | ⟨hm, hv, hn⟩⟩ := hc
      · exact ld_glob (X := X.suite a ((a, oe) :: (X.pn ++ pins))) S1 hg hm z hdb
      · exact ld_blt (X := X.suite a ((a, oe) :: (X.pn ++ pins))) S1 hg hm hv z hn hdb
    refine name (LM.here ?_)
    cases b with
    | false => exact ih (no rfl)
    | true =>
      refine codeAny_handlers_suite_as (HandSPX.lands_againZ fl fun h4 fl4 up4 => ?_)
      have J4 : L2.Inv X pins σ H { s with heap := h4 } := J.landed nb fl4.1 (up.trans up4) os ag
      obtain ⟨oe4, vs4, he4, hz4, hd4⟩ := fl4.there
      refine store_ok (X := X.suite a ((a, oe4) :: (X.pn ++ pins))) (v := .ref a) (J4.suite he4 hd4 na nL nF) nd hi (.inl hl) rfl (fun s5 S5 => ?_) (.inr hl)
      refine wpAny_mono ((su a oe4 cls d (X.pn ++ pins) hz4 ⟨_, hd4⟩).run [] s5 _ H _ S5 (yes rfl a na)) (fun f s6 hsp => ?_) (fun _ _ z => z.elim)
      cases f with
      | next => obtain ⟨σ6, H6, S6, q6⟩ := hsp; exact gone_ok (S6.unsuite ok) nd hi hl fun s7 J7 => ⟨_, _, J7, q6⟩
      | brk => obtain ⟨σ6, H6, S6, q6⟩ := hsp; exact gone_ok (S6.unsuite ok) nd hi hl fun s7 J7 => ⟨_, _, J7, q6⟩
      | cont => obtain ⟨σ6, H6, S6, q6⟩ := hsp; exact gone_ok (S6.unsuite ok) nd hi hl fun s7 J7 => ⟨_, _, J7, q6⟩
      | ret u => obtain ⟨v6, σ6, H6, S6, r6, q6⟩ := hsp; exact gone_ok (S6.unsuite ok) nd hi hl fun s7 J7 => ⟨_, _, _, J7, r6, q6⟩
theorem ps_tryAs (hs : X.stack = X.env :: X.outer) (hf : X.env.frame = some X.env.locals) (nd : X.N.Nodup)
    (hb : ∀ (W : WX) (pn : List (Addr × Obj)) (xe : Value → Shared → Prop), Takes (X.tr pn xe) W → PassesOwn (model X.prog X.w) X.A X.env xe → PSs (X.tr pn xe) body (tb W))
    (hh : ClsOk X (h0 :: hds) l) : PS X (.Try body (h0 :: hds) [] [] pos) (fun D σ H => tb (wMas X.K D l) D σ H) := by
  constructor
  intro pins s σ H D I h
  have ok := I.ok
  have hfr : X.A.frames = some (X.env :: X.outer) := by rw [ok.frames, hs]
  refine wpAny_Try_except (wpAny_mono ((hb (wMas X.K D l) (X.pn ++ pins) (fun e s1 => wpAny (model X.prog X.w) X.A (noteFrame e X.env) (fun _ s2 => wpAny (model X.prog X.w) X.A (setFlight e none) (fun _ s3 => wpAny (model X.prog X.w) X.A (handleBy e X.env (h0 :: hds)) (SP X pins D) X.xe s3) X.xe s2) X.xe s1)
    (fun u s' z => ?_) PassesOwn.looking).run [] s σ H D (I.toTry _) h) (fun f s1 z => ?_) fun e s1 z => z)
  · obtain ⟨a, B, sI, pins', σ', H', cls, d, e, J', nb, up, sky, na, os, ag, w⟩ := z
    subst e
    rw [show (X.tr (X.pn ++ pins) _).stack = X.env :: X.outer from hs] at sky
    refine Sky.land Zc.steady hfr hf sky fun h3 fl3 up3 => ?_
    exact clauses_ok (s := { s' with heap := h3 }) ok hf hs nd (J'.ofTry ok) nb (up.trans up3) fl3 na os ag hh w
  · cases f with
    | next => obtain ⟨σ', H', J', q⟩ := z; exact wpAny_execs_nil ⟨σ', H', J'.ofTry ok, q⟩
    | brk => obtain ⟨σ', H', J', q⟩ := z; exact ⟨σ', H', J'.ofTry ok, q⟩
    | cont => obtain ⟨σ', H', J', q⟩ := z; exact ⟨σ', H', J'.ofTry ok, q⟩
    | ret u => obtain ⟨v, σ', H', J', r, q⟩ := z; exact ⟨v, σ', H', J'.ofTry ok, r, q⟩
end
end DL

set_option Elab.async false
set_option linter.all false
set_option maxRecDepth 100000
set_option maxHeartbeats 2000000
/-! DX3: raise, and defs that may raise, by data. -/
namespace DL
open PySem L2 PySem.W
open NdefX (NF NScope CellsAt ncx startF inv_startN envF)
/-- C.__init__(self, v): self.f = v -/
def spI1 (C : Addr) (f : Str) : Sp := fun vs H Q _ => ∃ a v, vs = [.ref a, v] ∧ H a = some (exo a C none) ∧ ∀ d, H d = none → d ≠ a → Q .non (upd (upd H d (exd d [(f, v)])) a (exo a C (some d)))
theorem ost1 {K : Fr} {C : Addr} {f : Str} {N : List Str} {vs : List V} {H : Hp} {Q : VK} {E : XK} (O : OexC K C) (hf : findIn K (.ref C) f = some none) (h : spI1 C f vs H Q E) : tOst K f (tVar 0) (tVar 1) { nx := fun _ H' => Q .non H', rt := Q } (startF N vs [none]) H := by
  obtain ⟨a, v, rfl, ha, q⟩ := h
  exact ⟨v, rfl, .ref a, rfl, a, C, rfl, O, hf, Or.inl ⟨ha, q⟩⟩
/-- the class x of an own exception, made by its __init__ -/
structure HasE (P : Program) (w : World) (K : Fr) (mg : Str → Option Value) (base : Heap) (x : Str) (C : Addr) (k : Nat) (sp : Sp) : Prop where
  ex : ∃ f fd ps, OexC K C ∧ findIn K (.ref C) "__init__" = some (some (.ref f)) ∧ typeIn K (.ref f) = some (.type "function") ∧ FnOk P w K mg base CX0 k f fd ps sp ∧ Binds K fd ps [] ∧ mg x = some (.ref C)
theorem pmk_H {X : Cx} {x : Str} {C : Addr} {k j : Nat} {sp : Sp} {p pos : Pos} {e : Expr} {es : List Expr} {ta : TA} (G : HasE X.prog X.w X.K X.mg X.base x C k sp) (hr : Room j X.A) (hj : k + 1 ≤ j) (hg : Gl X x) (ha : PA X (e :: es) ta)
    (hdb : (x == ("__debug__" : Str)) = false := by decide) (he : starEach (e :: es) X.env = (false, eval e X.env) :: starEach es X.env := by rfl) (hpl : (backTo pos (starEach es X.env)).any (·.1) = false := by rfl) :
    PMk X (.Call (.Name x p) (e :: es) [] pos) (tMkO C sp [] ta) := by
  obtain ⟨f, fd, ps, O, iC, tI, F, hb, hm⟩ := G.ex
  exact pmk_oex O iC tI F (hr.mono hj) hb .nil pass0 hg hm ha hdb he hpl
/-- an outcome of a def that may raise: the entry is known -/
structure SX (K : Fr) (S0 H0 : Hp) (t : TS) (ρ : Env) (P : Out → Prop) : Prop where
  run : ∀ {S H : Hp} {σ : L2.St} (Dn : Ends), StOk K S0 H0 S H σ ρ → Fits K S0 H0 S Dn P → t Dn σ H
section
variable {K : Fr} {S0 H0 : Hp} {ρ ρ' : Env} {te : TE} {t u : TS} {P : Out → Prop} {d : D}
theorem sx_of (h : SD K t ρ P) : SX K S0 H0 t ρ P := ⟨fun Dn k f => h Dn k f⟩
def ThenX (K : Fr) (S0 H0 : Hp) (u : TS) (P : Out → Prop) : Out → Prop
  | .nx ρ => SX K S0 H0 u ρ P
  | o => P o
theorem sx_seq (h : SX K S0 H0 t ρ (ThenX K S0 H0 u P)) : SX K S0 H0 (tSeq t u) ρ P := .mk fun Dn k f =>
  h.run { Dn with nx := u Dn } k ⟨fun ρ σ S' H' (p : SX K S0 H0 u ρ P) e k' => p.run Dn k' (f.later e), fun ρ σ S' H' p => f.bk ρ σ S' H' p, fun ρ σ S' H' p => f.ct ρ σ S' H' p, fun d v S' H' p => f.rt d v S' H' p⟩
theorem sx_if {c : TT} {b : Bool} (h : EvB K c ρ b) (h1 : b = true → SX K S0 H0 t ρ P) (h2 : b = false → SX K S0 H0 u ρ P) : SX K S0 H0 (tIfS c t u) ρ P := .mk fun Dn k f => h k _ fun S1 H1 g1 => by
  cases b with
  | true => exact (h1 rfl).run Dn (k.grow g1) (f.later g1.ss)
  | false => exact (h2 rfl).run Dn (k.grow g1) (f.later g1.ss)
theorem sx_raise {C : Addr} {f : Str} {ta : TA} {x : D} {E : XK} (h : EvA K ta ρ [x]) (hE : ∀ d v S' H', Gr S0 H0 S' H' → H' d = some (.xd [(f, v)]) → Rp K S' v x → E (.ref C) (some d) H') :
    SX K S0 H0 (fun _ σ H => tMkO C (spI1 C f) [] ta σ H fun cls d H' => E cls d H') ρ P := .mk fun Dn k _ => h k _ fun vs S1 H1 g1 r1 => by
  cases r1 with
  | @cons v _ _ _ a b =>
    cases b
    refine ⟨by show 1 ≤ 1000; omega, fun p hp => ⟨p, v, rfl, upd_same, fun d hd hne => ⟨rfl, d, [(f, v)], upd_same, ?_, ?_, ?_⟩⟩⟩
    · rw [upd_ne hne, upd_same]
    · rw [upd_ne hne] at hd; exact hd
    · have hd' : H1 d = none := by rw [upd_ne hne] at hd; exact hd
      have e : upd (del (upd (upd (upd H1 p (exo p C none)) d (exd d [(f, v)])) p (exo p C (some d))) p) d (.xd [(f, v)]) = upd H1 d (.xd [(f, v)]) := by
        funext b
        by_cases hb : b = d
        · subst hb; rw [upd_same, upd_same]
        · rw [upd_ne hb, upd_ne hb]
          by_cases hp' : b = p
          · subst hp'; rw [del_same, hp]
          · rw [del_ne hp', upd_ne hp', upd_ne hb, upd_ne hp']
      rw [e]
      have g := g1.trans (Gr.lay (o := .xd [(f, v)]) g1.sh hd')
      exact hE d v S1 _ (k.gr.trans g) upd_same a
end
/-- the promise of a def that may raise an exception of one field -/
def spX (K : Fr) (rel : List D → D → Prop) (rex : List D → Addr → Str → D → Prop) : Sp := fun vs H Q E => ∃ S ds, Ex S H ∧ RpA K S vs ds ∧ ((∃ d, rel ds d ∧ ∀ v S' H', Gr S H S' H' → Rp K S' v d → Q v H') ∨ (∃ C f x, rex ds C f x ∧ ∀ d v S' H', Gr S H S' H' → H' d = some (.xd [(f, v)]) → Rp K S' v x → E (.ref C) (some d) H'))
theorem ok_HX {P : Program} {w : World} {K : Fr} {mg : Str → Option Value} {base : Heap} {x : Str} {st : Stmt} {N ps : List Str} {k : Nat} {rel : List D → D → Prop} {rex : List D → Addr → Str → D → Prop}
    (T : At K mg x st ps) (S : FnScope N ps (defScope st)) (hl : ∀ ds d, rel ds d → ds.length = ps.length) (hl2 : ∀ ds C f y, rex ds C f y → ds.length = ps.length)
    (hbody : ∀ (f : Addr) (cdv : Value) (A : Around) (outer : List PySem.Env) (s : Shared) (H : Hp) (E : XK), Room k (A.deeper (PyProof.Rows.envOfC x (defScope st) s.heap.objs.size f cdv)) →
      ∃ t, PSs (cxOf (L2.CX P w) P w K mg base N x (defScope st) f cdv A outer s H E) (defBody st) t ∧ ∀ S0 ds,
        (∀ d, rel ds d → SX K S0 H t (init N ds) (fun o => o = .rt d ∨ (d = .non ∧ ∃ ρ, o = .nx ρ))) ∧
        (∀ C fl y, rex ds C fl y → (∀ d v S' H', Gr S0 H S' H' → H' d = some (.xd [(fl, v)]) → Rp K S' v y → E (.ref C) (some d) H') → SX K S0 H t (init N ds) (fun _ => False))) :
    Has P w K mg base (L2.CX P w) x (k + 1) ps (spX K rel rex) := by
  obtain ⟨f, fd, F, hm, hb⟩ := T.ex
  refine ⟨f, fd, F.okX S (fun vs H Q E h => ?_) (fun cdv A outer s H vs Q E hr h => ?_), hm, F.kp, hb⟩
  · obtain ⟨S', ds, _, r, h⟩ := h
    rw [r.length]
    rcases h with ⟨d, h, _⟩ | ⟨C, f, x, h, _⟩
    · exact hl _ _ h
    · exact hl2 _ _ _ _ h
  · obtain ⟨S', ds, e, r, h⟩ := h
    obtain ⟨t, ht, hsx⟩ := hbody f cdv A outer s H E hr
    refine ⟨t, ht, ?_⟩
    rcases h with ⟨d, h, q⟩ | ⟨C, f, x, h, q⟩
    · refine ((hsx S' ds).1 d h).run _ (init_ok e N r) ⟨fun ρ σ S2 H2 p _ k => ?_, fun ρ σ S2 H2 p _ k => ?_, fun ρ σ S2 H2 p _ k => ?_, fun d' v S2 H2 p g r => ?_⟩
      · rcases p with p | ⟨p, _⟩
        · cases p
        · subst p
          exact q _ _ _ k.gr .non
      · rcases p with p | ⟨_, ρ', p⟩ <;> cases p
      · rcases p with p | ⟨_, ρ', p⟩ <;> cases p
      · rcases p with p | ⟨_, ρ', p⟩
        · cases p
          exact q _ _ _ g r
        · cases p
    · exact ((hsx S' ds).2 C f x h q).run _ (init_ok e N r) ⟨fun ρ σ S2 H2 p _ k => p.elim, fun ρ σ S2 H2 p _ k => p.elim, fun ρ σ S2 H2 p _ k => p.elim, fun d' v S2 H2 p g r => p.elim⟩
/-! ### the call within try, the clauses -/
theorem pe_callHX {X : Cx} {x : Str} {k j : Nat} {ps : List Str} {sp : Sp} {p pos : Pos} {e : Expr} {es : List Expr} {t : TA} {W : WX} (tk : Takes X W) (G : Has X.prog X.w X.K X.mg X.base (L2.CX X.prog X.w) x k ps sp) (hr : Room j X.A) (hkj : k ≤ j) (hg : Gl X x) (ha : PA X (e :: es) t)
    (hdb : (x == ("__debug__" : Str)) = false := by decide) (he : starEach (e :: es) X.env = (false, eval e X.env) :: starEach es X.env := by rfl) (hpl : (PySem.backTo pos (starEach es X.env)).any (·.1) = false := by rfl) :
    PE X (.Call (.Name x p) (e :: es) [] pos) (tCallSD sp [] (fun σ cls d H => W cls d σ H) t) := by
  obtain ⟨f, fd, F, hm, hk, hb⟩ := G.ex
  exact pe_callSD F (hr.mono hkj) hg hm hk hb .nil (fun σ pins H s e s' I c => tk _ _ (XE.of_call (E := fun cls d H => W cls d σ H) I (fun _ _ _ h => h) c)) ha hdb he hpl
section
variable {K : Fr} {ρ : Env} {t : TA} {P : Out → Prop} {d : D} {ds : List D} {l : List Cl} {rel : List D → D → Prop} {rex : List D → Addr → Str → D → Prop}
theorem sd_try_ok (h : EvA K t ρ ds) (hr : rel ds d) (p : P (.nx ρ)) : SD K (fun D σ H => tDrop (tCallSD (spX K rel rex) [] (fun σ cls d H => wMas K D l cls d σ H) t) D σ H) ρ P := .mk fun Dn k f =>
  h k _ fun vs S1 H1 g1 r1 => ⟨S1, ds, g1.sh, by rw [List.append_nil]; exact r1, Or.inl ⟨d, hr, fun v S2 H2 g2 r2 => f.nx _ _ _ _ p (g1.trans g2).ss ((k.grow g1).grow g2)⟩⟩
theorem sd_try_ex {C : Addr} {fl : Str} {x : D} (h : EvA K t ρ ds) (hr : rex ds C fl x)
    (hw : ∀ {S0 H0 S H : Hp} {σ : L2.St} (Dn : Ends) (d : Addr) (v : V), StOk K S0 H0 S H σ ρ → Fits K S0 H0 S Dn P → H d = some (.xd [(fl, v)]) → Rp K S v x → wMas K Dn l (.ref C) (some d) σ H) :
    SD K (fun D σ H => tDrop (tCallSD (spX K rel rex) [] (fun σ cls d H => wMas K D l cls d σ H) t) D σ H) ρ P := .mk fun Dn k f =>
  h k _ fun vs S1 H1 g1 r1 => ⟨S1, ds, g1.sh, by rw [List.append_nil]; exact r1, Or.inr ⟨C, fl, x, hr, fun d v S2 H2 g2 hd rx => hw Dn d v ((k.grow g1).grow g2) (f.later (g1.trans g2).ss) hd rx⟩⟩
/-- return (text, n.field) -/
theorem cl_ret {S0 H0 S H : Hp} {σ : L2.St} {Dn : Ends} {i : Nat} {a C dd : Addr} {fl z : Str} {v : V} {x : D} (k : StOk K S0 H0 S H σ ρ) (f : Fits K S0 H0 S Dn P) (hi : i < ρ.length) (hd : H dd = some (.xd [(fl, v)])) (rx : Rp K S v x) (p : P (.rt (.tup [.str z, x]))) :
    tRet (tTup (tCons (tC (.str z)) (tCons (tXf a (.ref C) (some dd) C fl (tVar i)) tNil))) (Gone i Dn) (σ.set i (some (.ref a))) H := by
  refine ⟨.ref a, by rw [List.getElem?_set_self (by rw [k.len]; exact hi)], rfl, rfl, dd, [(fl, v)], v, rfl, hd, List.lookup_cons_self, (by decide : 2 ≤ sizeLine), fun q hq => ?_⟩
  have g := Gr.add (o := .tup [.str z, v]) k.ex hq
  exact f.rt _ _ _ _ p (k.gr.trans g) (.tup upd_same (.cons (.str z) (.cons (rx.mono g.ss) .nil)))
end
end DL

set_option Elab.async false
set_option linter.all false
set_option maxRecDepth 100000
set_option maxHeartbeats 2000000
/-! DL13: own classes by data. -/
namespace DL
open PySem L2
def putFD (f : Str) (d : D) : List (Str × D) → List (Str × D)
  | [] => [(f, d)]
  | (g, e) :: r => if g = f then (g, d) :: r else (g, e) :: putFD f d r
theorem rpf_put {K : Fr} {S : Hp} {f : Str} {v : V} {d : D} (r : Rp K S v d) : ∀ {gs : List (Str × V)} {fs : List (Str × D)}, RpF K S gs fs → RpF K S (putF f v gs) (putFD f d fs)
  | [], [], .nil => .cons r .nil
  | (g, w) :: gs, (_, e) :: fs, .cons a b => by
    show RpF K S (if g = f then (g, v) :: gs else (g, w) :: putF f v gs) (if g = f then (g, d) :: fs else (g, e) :: putFD f d fs)
    by_cases h : g = f
    · rw [if_pos h, if_pos h]; exact .cons r b
    · rw [if_neg h, if_neg h]; exact .cons a (rpf_put r b)
/-- the promise of __init__: rel tells the arguments and the fields -/
def spI (K : Fr) (C : Addr) (rel : List D → List (Str × D) → Prop) : Sp := fun vs H Q _ => ∃ a dx Hp0 S ws ds fs, vs = .ref a :: ws ∧ Hp0 a = none ∧ Hp0 dx = none ∧ dx ≠ a ∧ H = upd (upd Hp0 dx (.own a)) a (.ins C dx []) ∧ Ex S Hp0 ∧ RpA K S ws ds ∧ rel ds fs ∧
  ∀ S' H' dx' gs, Gr S Hp0 S' H' → S' a = none → H' a = some (.ins C dx' gs) → RpF K S' gs fs → Q .non H'
/-- the class x is made so -/
structure HasI (P : Program) (w : World) (K : Fr) (mg : Str → Option Value) (base : Heap) (x : Str) (C : Addr) (k : Nat) (ps : List Str) (sp : Sp) : Prop where
  ex : ∃ f fd, FnOk P w K mg base CX0 k f fd ps sp ∧ Mk K C f ∧ mg x = some (.ref C) ∧ Binds K fd ps []
structure AtI (K : Fr) (mg : Str → Option Value) (x qual : Str) (C : Addr) (st : Stmt) (ps : List Str) : Prop where
  ex : ∃ f fd, Fun K "__init__" qual st f fd ∧ Mk K C f ∧ mg x = some (.ref C) ∧ Binds K fd ps []
def initO (a C : Addr) (N : List Str) (ds : List D) : Env := .mo a C [] :: (ds.map Ent.im ++ List.replicate (N.length - (ds.length + 1)) .un)
theorem initO_ok {K : Fr} {S Hp0 : Hp} {a dx C : Addr} (e : Ex S Hp0) (h1 : Hp0 a = none) (h2 : Hp0 dx = none) (ne : dx ≠ a) {ws : List V} {ds : List D} (N : List Str) (r : RpA K S ws ds) :
    StOk K S Hp0 S (upd (upd Hp0 dx (.own a)) a (.ins C dx [])) (L2.start N (.ref a :: ws)) (initO a C N ds) := by
  have g : Gr S Hp0 S (upd (upd Hp0 dx (.own a)) a (.ins C dx [])) := by
    have g1 := Gr.lay (o := .own a) e h2
    exact g1.trans (Gr.lay g1.sh (by rw [upd_ne (Ne.symm ne)]; exact h1))
  have k := init_ok (K := K) e N r
  have hl := r.length
  refine ⟨g, ?_, fun i x h => ?_, fun i j x y p m1 m2 q1 q2 _ _ => ?_⟩
  · unfold L2.start initO
    simp [hl]
  · cases i with
    | zero =>
      cases h
      exact ⟨dx, [], rfl, h1, e.none h1, upd_same, .nil⟩
    | succ i =>
      have h' : (ds.map Ent.im ++ List.replicate (N.length - (ds.length + 1)) Ent.un)[i]? = some x := h
      rw [List.getElem?_append, List.length_map] at h'
      by_cases c : i < ds.length
      · rw [if_pos c, List.getElem?_map] at h'
        cases hd : ds[i]? with
        | none => rw [hd] at h'; cases h'
        | some d =>
          rw [hd] at h'
          cases h'
          obtain ⟨v, hv, rv⟩ := r.get hd
          refine ⟨v, ?_, rv⟩
          show (L2.start N (.ref a :: ws))[i + 1]? = _
          unfold L2.start
          rw [List.map_cons, List.cons_append, List.getElem?_cons_succ, List.getElem?_append, if_pos (by rw [List.length_map, hl]; exact c), List.getElem?_map, hv]
          rfl
      · rw [if_neg c] at h'
        rw [List.eq_of_mem_replicate (List.mem_of_getElem? h')]
        trivial
  · have nm : ∀ {i : Nat} {x : Ent}, (initO a C N ds)[i]? = some x → x.mut = true → i = 0 := by
      intro i x h m
      cases i with
      | zero => rfl
      | succ i =>
        have h' : (ds.map Ent.im ++ List.replicate (N.length - (ds.length + 1)) Ent.un)[i]? = some x := h
        rcases List.mem_append.mp (List.mem_of_getElem? h') with q | q
        · obtain ⟨d, _, rfl⟩ := List.mem_map.mp q
          cases m
        · rw [List.eq_of_mem_replicate q] at m
          cases m
    rw [nm m1 q1, nm m2 q2]
theorem ok_I {P : Program} {w : World} {K : Fr} {mg : Str → Option Value} {base : Heap} {x qual : Str} {C : Addr} {st : Stmt} {N ps : List Str} {k : Nat} {rel : List D → List (Str × D) → Prop}
    (T : AtI K mg x qual C st ps) (S : FnScope N ps (defScope st)) (hl : ∀ ds fs, rel ds fs → ds.length + 1 = ps.length)
    (hbody : ∀ (f : Addr) (cdv : Value) (A : Around) (outer : List PySem.Env) (s : Shared) (H : Hp) (E : XK), Room k (A.deeper (PyProof.Rows.envOfC qual (defScope st) s.heap.objs.size f cdv)) →
      ∃ t, PSs (cxOf CX0 P w K mg base N qual (defScope st) f cdv A outer s H E).nox (defBody st) t ∧ ∀ a ds fs, rel ds fs → SD K t (initO a C N ds) (fun o => ∃ ρ', o = .nx ρ' ∧ ρ'[0]? = some (.mo a C fs))) :
    HasI P w K mg base x C (k + 1) ps (spI K C rel) := by
  obtain ⟨f, fd, F, M, hm, hb⟩ := T.ex
  refine ⟨f, fd, F.ok S (fun vs H Q E h => ?_) (fun cdv A outer s H vs Q E hr h => ?_), M, hm, hb⟩
  · obtain ⟨a, dx, H0, S', ws, ds, fs, rfl, _, _, _, _, _, r, hrel, _⟩ := h
    rw [List.length_cons, r.length]
    exact hl _ _ hrel
  · obtain ⟨a, dx, H0, S', ws, ds, fs, rfl, h1, h2, ne, rfl, e, r, hrel, q⟩ := h
    obtain ⟨t, ht, hsd⟩ := hbody f cdv A outer s _ E hr
    refine ⟨t, ht, hsd a ds fs hrel _ (initO_ok e h1 h2 ne N r) ⟨fun ρ σ S2 H2 p ex k => ?_, fun ρ σ S2 H2 p _ k => ?_, fun ρ σ S2 H2 p _ k => ?_, fun d' v S2 H2 p g r => ?_⟩⟩
    · obtain ⟨ρ', hp, hm⟩ := p
      cases hp
      obtain ⟨dx', gs, _, z2, z3, z4, z5⟩ := k.at_ 0 _ hm
      exact q S2 H2 dx' gs k.gr z3 z4 z5
    · obtain ⟨_, p, _⟩ := p; cases p
    · obtain ⟨_, p, _⟩ := p; cases p
    · obtain ⟨_, p, _⟩ := p; cases p
theorem pe_makeH {X : Cx} {x : Str} {C : Addr} {k j : Nat} {ps : List Str} {sp : Sp} {p pos : Pos} {e : Expr} {es : List Expr} {t : TA} (G : HasI X.prog X.w X.K X.mg X.base x C k ps sp) (hr : Room j X.A) (hkj : k + 1 ≤ j) (hg : Gl X x) (ha : PA X (e :: es) t)
    (hdb : (x == ("__debug__" : Str)) = false := by decide) (he : starEach (e :: es) X.env = (false, eval e X.env) :: starEach es X.env := by rfl) (hpl : (PySem.backTo pos (starEach es X.env)).any (·.1) = false := by rfl) :
    PE X (.Call (.Name x p) (e :: es) [] pos) (tMake C sp [] E0 t) := by
  obtain ⟨f, fd, F, M, hm, hb⟩ := G.ex
  exact pe_make M F (hr.mono hkj) hg hm hb .nil pass0 ha hdb he hpl
section
variable {K : Fr} {ρ : Env} {te tv : TE} {t : TA} {d : D} {ds : List D} {C : Addr} {fs : List (Str × D)} {P : Out → Prop}
theorem evd_make {rel : List D → List (Str × D) → Prop} {E : XK} (h : EvA K t ρ ds) (hr : rel ds fs) : EvD K (tMake C (spI K C rel) [] E t) ρ (.obj C fs) := .mk fun k Q q => h k _ fun vs S1 H1 g1 r1 x dx hx hdx ne =>
  ⟨x, dx, H1, S1, vs, ds, fs, by rw [List.append_nil], hx, hdx, ne, rfl, g1.sh, r1, hr, fun S' H' dx' gs g hs ha hf => ⟨rfl, by
    have g2 := g.set hx ha hs
    exact q _ _ _ (g1.trans g2) (.obj upd_same (hf.mono fun a u e => by rw [upd_ne (ne_of_none e hs)]; exact e))⟩⟩
/-- self.f = e in __init__ -/
theorem sd_fld {i : Nat} {a : Addr} {f : Str} (hi : ρ[i]? = some (.mo a C fs)) (h : EvD K tv ρ d) (cl : Cls K C) (na : NoAttr K C f) (hl : fs.length < 900) (p : P (.nx (ρ.set i (.mo a C (putFD f d fs))))) : SD K (sFld K (tVar i) tv f) ρ P := .mk fun Dn k ft =>
  h k _ fun y S1 H1 g1 r1 => by
    have k1 := k.grow g1
    obtain ⟨dx, gs, hs, h0, hS, hH, rf⟩ := k1.at_ i _ hi
    refine ⟨.ref a, hs, a, C, dx, gs, rfl, hH, cl, na, by rw [rf.length]; omega, ft.nx _ _ _ _ p g1.ss (k1.mutate hi rfl rfl hs h0 hS ⟨dx, _, rfl, h0, hS, upd_same, rpf_put r1 rf⟩)⟩
/-- C.f, a constant -/
theorem evd_cval {C' : Addr} {mc u : Value} {f : Str} {i : Int} (rd : ClX.CRead K C' mc) (cv : ClX.CVal K C' mc f (.int i) u) : EvD K (ClX.tCVal K (tC (.ref C')) f) ρ (.int i) := .mk fun k Q q => ⟨C', mc, .int i, u, rfl, rd, cv, q _ _ _ (Gr.refl k.ex) (.int i)⟩
/-! ### methods -/
theorem evd_meth {m : Str} {rel : List D → D → Prop} {E : XK} (ho : EvD K te ρ (.obj C fs)) (ha : EvA K t ρ ds) (hm : fs.lookup m = none) (hr : rel (.obj C fs :: ds) d) : EvD K (tMeth C m (spD K rel) [] E te t) ρ d := .mk fun k Q q => ho k _ fun v S1 H1 g1 r1 => by
  have r1' := r1
  cases r1 with
  | @obj a _ dx gs _ hs rf =>
    refine ⟨a, dx, gs, rfl, g1.sh _ _ hs, ?_, ha (k.grow g1) _ fun vs S2 H2 g2 r2 => ⟨S2, _, d, g2.sh, by rw [List.append_nil]; exact .cons (r1'.mono g2.ss) r2, hr, fun v S3 H3 g3 r3 => q _ _ _ ((g1.trans g2).trans g3) r3⟩⟩
    have key : ∀ {gs : List (Str × V)} {fs : List (Str × D)}, RpF K S1 gs fs → fs.lookup m = none → gs.lookup m = none := by
      intro gs fs h
      refine RpF.rec (motive_1 := fun _ _ _ => True) (motive_2 := fun _ _ _ => True) (motive_3 := fun gs fs _ => fs.lookup m = none → gs.lookup m = none) (motive_4 := fun _ _ _ => True) trivial (fun _ => trivial) (fun _ => trivial) (fun _ => trivial) (fun _ _ _ => trivial) (fun _ _ _ => trivial) (fun _ _ _ => trivial) (fun _ _ _ => trivial) (fun _ _ _ => trivial) (fun _ _ _ => trivial) (fun _ _ _ _ => trivial) trivial (fun _ _ _ _ => trivial) (fun _ => rfl) ?_ trivial (fun _ _ _ _ => trivial) h
      intro f v vs d ds _ _ _ ih hl
      rw [List.lookup] at hl ⊢
      by_cases c : (m == f) = true
      · rw [c] at hl; cases hl
      · have c' : (m == f) = false := by simpa using c
        rw [c'] at hl ⊢
        exact ih hl
    exact key rf hm
theorem evd_prop {rel : List D → D → Prop} {E : XK} (ho : EvD K te ρ (.obj C fs)) (hr : rel [.obj C fs] d) : EvD K (tProp C (spD K rel) [] E te) ρ d := .mk fun k Q q => ho k _ fun v S1 H1 g1 r1 => by
  have r1' := r1
  cases r1 with
  | @obj a _ dx gs _ hs rf => exact ⟨a, dx, gs, rfl, g1.sh _ _ hs, S1, _, d, g1.sh, .cons r1' .nil, hr, fun v S3 H3 g3 r3 => q _ _ _ (g1.trans g3) r3⟩
end
end DL

set_option Elab.async false
set_option linter.all false
set_option maxRecDepth 100000
set_option maxHeartbeats 2000000
/-! DL14: len(o), abs(o), o == o', isinstance. -/
namespace DL
open PySem L2
open PyProof.Rows (Call_ callWith_builtin1 args_cons args_nil)
/-- a def of the class C for a special name -/
structure HasS (P : Program) (w : World) (K : Fr) (mg : Str → Option Value) (base : Heap) (C : Addr) (nm : Str) (k : Nat) (sp : Sp) : Prop where
  ex : ∃ f fd ps, FnOk P w K mg base CX0 k f fd ps sp ∧ PySem.W.findIn K (.ref C) nm = some (some (.ref f)) ∧ PySem.W.isFn K (.ref f) = true ∧ Binds K fd ps []
section
variable {X : Cx} {pins : List (Addr × Obj)} {σ : St} {H : Hp} {s : Shared}
theorem run_spec {a f : Addr} {k : Nat} {fd : FuncData} {ps : List Str} {sp : Sp} {Q : VK} {A : Around} (F : FnOk X.prog X.w X.K X.mg X.base CX0 k f fd ps sp) (hb : Binds X.K fd ps []) (hr : Room k A) (e0 : Env0 X.prog X.w X.K X.mg X.base A X.stack s H) (I : Inv X pins σ H s) (h : sp [.ref a] H Q E0) :
    wpAny (model X.prog X.w) A (call (.ref f) [.ref a]) (EP X pins σ Q) X.xe s := by
  have hl := F.len _ _ _ _ h
  have hb' := hb s [.ref a] I.kIn (by simpa using hl)
  refine wpAny_call (codeAny_mono (F.run A X.stack s H ⟨[.ref a], []⟩ [.ref a] [.ref a] Q E0 hr e0 (by simpa using hb') (.cons rfl .nil) h) fun r s' hq => ?_)
  cases r with
  | error er => exact pass0 pins σ H s er s' I hq
  | ok fl =>
    cases fl with
    | ret u => exact I.after hq
    | next => exact False.elim hq
    | brk => exact False.elim hq
    | cont => exact False.elim hq
end
theorem abs_own {prog : Program} {w : World} {A : Around} {E : Value → Shared → Prop} {s : Shared} {K : Fr} {x C f : Addr} {ox : Obj} {od : Option Obj} {Q : Value → Shared → Prop} (X₀ : K.In s.heap) (I : PySem.W.InstAt s.heap x ox C od) (hs : PySem.W.findIn K (.ref C) "__abs__" = some (some (.ref f))) (hf : PySem.W.isFn K (.ref f) = true)
    (h : wpAny (model prog w) A.in1 (call (.ref f) [.ref x]) Q E s) : wpAny (model prog w) A (call (.builtin "abs") [.ref x]) Q E s := by
  refine Calls.call_function_entry PyProof.Rows.kind_abs PyProof.Rows.plain_abs PyProof.Rows.entry_abs (PyProof.Rows.args_abs _) ?_
  unfold Builtin.«abs»
  refine wpAny_bind (m := oneArg "abs" _) (wpAny_pure ?_)
  exact wpAny_bind (m := callSpecial? (.ref x) (Str.ofString "__abs__")) (PySem.W.special_fn X₀ I hs (beq_iff_eq.mp hf) (wpAny_mono h (fun r s' hr => wpAny_pure ⟨_, rfl, hr⟩) fun _ _ y => y))
/-- len(e), abs(e) of an own instance -/
def tSpc (C : Addr) (sp : Sp) (lim : Bool) (ta : TE) : TE := fun σ H Q => ta σ H fun x H1 => ∃ a dx fs, x = .ref a ∧ H1 a = some (.ins C dx fs) ∧ sp [.ref a] H1 (fun v H2 => ∃ n : Int, v = .int n ∧ (lim = true → 0 ≤ n ∧ n < 2 ^ 62) ∧ Q (.int n) H2) E0
theorem pe_lenO {X : Cx} {e : Expr} {ta : TE} {p pos : Pos} {C : Addr} {k j : Nat} {sp : Sp} (G : HasS X.prog X.w X.K X.mg X.base C "__len__" k sp) (hr : Room j X.A) (hj : k + 1 ≤ j) (hg : Gl X "len") (hm : X.mg "len" = none) (he : PE X e ta)
    (na : starEach [e] X.env = (false, eval e X.env) :: starEach [] X.env := by rfl) : PE X (.Call (.Name "len" p) [e] [] pos) (tSpc C sp true ta) := by
  constructor
  intro pins s σ H Q I h
  obtain ⟨f, fd, ps, F, hs, hf, hb⟩ := G.ex
  refine Call_ (ld_blt I hg hm boot_len (callWith_builtin1 (args_cons (thn (he.run pins s σ H _ I h) fun v s1 z => args_nil ?_) na) na rfl))
  obtain ⟨x, H1, I1, r1, a, dx, fs, rfl, ha, q⟩ := z
  cases r1
  obtain ⟨mA, J, _⟩ := ins_get I1.hok ha
  obtain ⟨od, J, _⟩ := J.look
  obtain ⟨m, hF⟩ := I1.fr
  refine PySem.W.len_K hF I1.ok.mod.kin J hs hf (wpAny_mono (run_spec F hb ((hr.mono hj).in1) I1.env0.in1 I1 q) (fun u s' z => ?_) fun _ _ z => z)
  obtain ⟨v, H2, I2, rv, n, rfl, hn, q2⟩ := z
  obtain ⟨t, rfl⟩ := rv
  have h2 := hn rfl
  exact ⟨⟨h2.1, by omega⟩, ⟨.int n, H2, I2.tok _, ⟨_, rfl⟩, q2⟩⟩
theorem pe_absO {X : Cx} {e : Expr} {ta : TE} {p pos : Pos} {C : Addr} {k j : Nat} {sp : Sp} (G : HasS X.prog X.w X.K X.mg X.base C "__abs__" k sp) (hr : Room j X.A) (hj : k + 1 ≤ j) (hg : Gl X "abs") (hm : X.mg "abs" = none) (he : PE X e ta)
    (na : starEach [e] X.env = (false, eval e X.env) :: starEach [] X.env := by rfl) : PE X (.Call (.Name "abs" p) [e] [] pos) (tSpc C sp false ta) := by
  constructor
  intro pins s σ H Q I h
  obtain ⟨f, fd, ps, F, hs, hf, hb⟩ := G.ex
  refine Call_ (ld_blt I hg hm PyProof.Rows.boot_abs (callWith_builtin1 (args_cons (thn (he.run pins s σ H _ I h) fun v s1 z => args_nil ?_) na) na rfl))
  obtain ⟨x, H1, I1, r1, a, dx, fs, rfl, ha, q⟩ := z
  cases r1
  obtain ⟨mA, J, _⟩ := ins_get I1.hok ha
  obtain ⟨od, J, _⟩ := J.look
  refine abs_own I1.kIn J hs hf (wpAny_mono (run_spec F hb ((hr.mono hj).in1) I1.env0.in1 I1 q) (fun u s' z => ?_) fun _ _ z => z)
  obtain ⟨v, H2, I2, rv, n, rfl, hn, q2⟩ := z
  exact ⟨.int n, H2, I2, rv, q2⟩
section
variable {K : Fr} {ρ : Env} {te : TE} {C : Addr} {fs gs : List (Str × D)}
theorem evd_spc {rel : List D → D → Prop} {lim : Bool} {n : Int} (ho : EvD K te ρ (.obj C fs)) (hr : rel [.obj C fs] (.int n)) (hn : lim = true → 0 ≤ n ∧ n < 2 ^ 62) : EvD K (tSpc C (spD K rel) lim te) ρ (.int n) := .mk fun k Q q => ho k _ fun v S1 H1 g1 r1 => by
  have r1' := r1
  cases r1 with
  | @obj a _ dx gs _ hs rf => exact ⟨a, dx, gs, rfl, g1.sh _ _ hs, S1, _, _, g1.sh, .cons r1' .nil, hr, fun v S3 H3 g3 r3 => by
      cases r3
      exact ⟨n, rfl, hn, q _ _ _ (g1.trans g3) (.int n)⟩⟩
/-- two instances that their own == calls equal -/
def REq (K : Fr) (C : Addr) (rel : List D → D → Prop) : Addr → Addr → Hp → Prop := fun a b H => ∃ S fs gs, Ex S H ∧ Rp K S (.ref a) (.obj C fs) ∧ Rp K S (.ref b) (.obj C gs) ∧ rel [.obj C fs, .obj C gs] (.bl true)
theorem sp_eq {rel : List D → D → Prop} {vs : List V} {H : Hp} {Q : VK} {E : XK} (h : spEq (REq K C rel) vs H Q E) : spD K rel vs H Q E := by
  obtain ⟨a, b, rfl, ⟨S, fs, gs, e, ra, rb, hr⟩, q⟩ := h
  exact ⟨S, _, _, e, .cons ra (.cons rb .nil), hr, fun v S' H' g r => by cases r; exact q H' g.hh⟩
theorem op_eqO {X : Cx} {k j : Nat} {rel : List D → D → Prop} (G : HasS X.prog X.w X.K X.mg X.base C "__eq__" k (spD K rel)) (hr : Room j X.A) (hj : k ≤ j) : OpR X (compareOp .Eq) (rEqG (DIns C (REq K C rel))) := by
  obtain ⟨f, fd, ps, F, hs, hf, hb⟩ := G.ex
  exact op_eqG (rcG_ins (F.imp fun _ _ _ _ h => sp_eq h) hs hf hb pass0) (hr.mono hj)
theorem rv_eqO {rel : List D → D → Prop} (hr : rel [.obj C fs, .obj C gs] (.bl true)) : RvD K (rEqG (DIns C (REq K C rel))) (.obj C fs) (.obj C gs) (.bl true) := .mk fun {S H v1 v2} e r1 r2 Q q => by
  have r1' := r1
  have r2' := r2
  cases r1 with
  | obj h1 f1 =>
    cases r2 with
    | obj h2 f2 => exact ⟨⟨_, _, _, _, _, _, rfl, rfl, e _ _ h1, e _ _ h2, S, fs, gs, e, r1', r2', hr⟩, fun H' x => q _ S H' ⟨.refl S, e.trans x, x, fun _ _ h _ _ => h⟩ (.bl true)⟩
end
/-! ### isinstance -/
/-- what isinstance asks of an own class's instance -/
structure IsiC (K : Fr) (C : Addr) : Prop where
  cl : Cls K C
  ha : PySem.W.findIn K (.ref C) "__class__" = some (some (.builtin "object.__class__"))
  hn : PySem.W.specialIn K (.builtin "object.__class__") "__get__" = some (some (.builtin "getset_descriptor.__get__"))
  htk : PySem.W.takesIn K (.builtin "object.__class__") = some true
  hm : PySem.W.mroIn K C (.type "object") = some true
def D.ty : D → Option String
  | .non => some "NoneType"
  | .bl _ => some "bool"
  | .int _ => some "int"
  | .str _ => some "str"
  | .lst _ => some "list"
  | .tup _ => some "tuple"
  | .ftu _ => some "tuple"
  | _ => none
section
variable {K : Fr} {ρ : Env} {te : TE} {d : D} {C : Addr} {fs : List (Str × D)}
theorem tyx_of {S H : Hp} (e : Ex S H) {v : V} {t : String} (r : Rp K S v d) (h : d.ty = some t) : TyX K H v (.type t) := by
  cases r with
  | non => cases h; exact .base .non
  | bl b => cases h; exact .base (.bl b)
  | int i => cases h; exact .base (.int i)
  | str x => cases h; exact .base (.str x)
  | lst hs _ => cases h; exact .base (.lst (e _ _ hs))
  | tup hs _ => cases h; exact .base (.tup (e _ _ hs))
  | ftu hs _ _ => cases h; exact .fTuple (e _ _ hs)
  | frz _ _ => cases h
  | obj _ _ => cases h
  | dct _ _ => cases h
  | dcl _ _ => cases h
theorem evd_isi {t n : String} {b : Bool} (h : EvD K te ρ d) (ht : d.ty = some t) (hb : kitB t n = some b) : EvD K (tCB (rIsi K) (tCons te (tCons (tC (.ty n)) tNil))) ρ (.bl b) := .mk fun k Q q => h k _ fun v S1 H1 g1 r1 =>
  ⟨v, .ty n, .type t, .type n, b, rfl, .ty n, tyx_of g1.sh r1 ht, kit_ty hb, q _ _ _ g1 (.bl b)⟩
theorem evd_isiO {C' : Addr} {b : Bool} (h : EvD K te ρ (.obj C fs)) (I : IsiC K C) (hb : PySem.W.kitOne K (.ref C) (.ref C') = some b) : EvD K (tCB (rIsi K) (tCons te (tCons (tC (.ref C')) tNil))) ρ (.bl b) := .mk fun k Q q => h k _ fun v S1 H1 g1 r1 => by
  cases r1 with
  | obj hs _ => exact ⟨_, .ref C', .ref C, .ref C', b, rfl, .own C', .base (.ins (g1.sh _ _ hs) I.cl I.ha I.hn I.htk I.hm), hb, q _ _ _ g1 (.bl b)⟩
theorem cl_isi (K : Fr) {X : Cx} (hK : X.K = K := by rfl) : CallR X (.builtin "isinstance") (rIsi K) := by subst hK; exact call_isi
end
end DL

set_option Elab.async false
set_option linter.all false
set_option maxRecDepth 100000
set_option maxHeartbeats 2000000
/-! DL15: dicts by rows as lists of pairs; wrappers. -/
namespace DL
open PySem L2
section
variable {β : Type}
def putA (l : List (List Int × β)) (r : List Int) (v : β) : List (List Int × β) := if (l.any fun kv => decide (kv.1 = r)) = true then l.map (fun kv => if kv.1 = r then (kv.1, v) else kv) else l ++ [(r, v)]
def getA (l : List (List Int × β)) (r : List Int) : Option β := (l.find? fun kv => decide (kv.1 = r)).map (·.2)
def emb (f : β → D) (l : List (List Int × β)) : List (Ks × D) := l.map fun kv => (keyR kv.1, f kv.2)
theorem keyR_inj {a b : List Int} : keyR a = keyR b ↔ a = b := by
  constructor
  · intro h
    unfold keyR at h
    induction a generalizing b with
    | nil => cases b with
      | nil => rfl
      | cons => cases h
    | cons x a ih => cases b with
      | nil => cases h
      | cons y b =>
        rw [List.map_cons, List.map_cons] at h
        injection h with h1 h2
        injection h1 with h1
        rw [h1, ih h2]
  · intro h; rw [h]
theorem valD_emb (f : β → D) (l : List (List Int × β)) (r : List Int) : valD (emb f l) (keyR r) = (getA l r).map f := by
  induction l with
  | nil => rfl
  | cons kv l ih =>
    show valD ((keyR kv.1, f kv.2) :: emb f l) (keyR r) = (getA (kv :: l) r).map f
    unfold valD getA at ih ⊢
    by_cases h : kv.1 = r
    · rw [List.find?_cons_of_pos (by simp [h]), List.find?_cons_of_pos (by simp [h])]
      rfl
    · rw [List.find?_cons_of_neg (by simp [keyR_inj, h]), List.find?_cons_of_neg (by simp [h])]
      exact ih
theorem putD_emb (f : β → D) (l : List (List Int × β)) (r : List Int) (v : β) : putD (emb f l) (keyR r) (f v) = emb f (putA l r v) := by
  unfold putD putA
  have e1 : ((emb f l).any fun kv => decide (kv.1 = keyR r)) = (l.any fun kv => decide (kv.1 = r)) := by
    unfold emb
    rw [List.any_map]
    congr 1
    funext kv
    simp [keyR_inj]
  rw [e1]
  split
  · unfold emb
    rw [List.map_map, List.map_map]
    refine List.map_congr_left fun kv _ => ?_
    show (if keyR kv.1 = keyR r then (keyR kv.1, f v) else (keyR kv.1, f kv.2)) = (keyR (if kv.1 = r then (kv.1, v) else kv).1, f (if kv.1 = r then (kv.1, v) else kv).2)
    by_cases h : kv.1 = r
    · rw [if_pos (by rw [h]), if_pos h]
    · rw [if_neg (by rw [keyR_inj]; exact h), if_neg h]
  · unfold emb
    rw [List.map_append]
    rfl
theorem emb_keys (f : β → D) (l : List (List Int × β)) : (emb f l).map (·.1) = (l.map (·.1)).map keyR := by
  unfold emb
  rw [List.map_map, List.map_map]
  rfl
theorem emb_len (f : β → D) (l : List (List Int × β)) : (emb f l).length = l.length := List.length_map _
theorem len_putA (l : List (List Int × β)) (r : List Int) (v : β) : (putA l r v).length ≤ l.length + 1 := by
  unfold putA
  split
  · rw [List.length_map]; exact Nat.le_succ _
  · rw [List.length_append]; exact Nat.le_refl _
theorem getA_putA (l : List (List Int × β)) (r q : List Int) (v : β) : getA (putA l r v) q = if q = r then some v else getA l q := by
  unfold putA
  split
  · rename_i h
    induction l with
    | nil => cases h
    | cons kv l ih =>
      unfold getA at ih ⊢
      rw [List.map_cons]
      by_cases hk : kv.1 = r
      · rw [if_pos hk]
        by_cases hq : q = r
        · rw [List.find?_cons_of_pos (by simp [hk, hq]), if_pos hq]; rfl
        · rw [List.find?_cons_of_neg (by simp [hk]; exact fun z => hq z.symm), if_neg hq, List.find?_cons_of_neg (by simp [hk]; exact fun z => hq z.symm)]
          by_cases ha : (l.any fun kv => decide (kv.1 = r)) = true
          · rw [ih ha, if_neg hq]
          · have : l.map (fun kv => if kv.1 = r then (kv.1, v) else kv) = l := by
              rw [Bool.not_eq_true, List.any_eq_false] at ha
              calc l.map (fun kv => if kv.1 = r then (kv.1, v) else kv) = l.map id := List.map_congr_left fun kv hkv => by
                    have := ha kv hkv
                    rw [if_neg (by simpa using this)]; rfl
                _ = l := List.map_id l
            rw [this]
      · rw [if_neg hk]
        have ha : (l.any fun kv => decide (kv.1 = r)) = true := by
          rw [List.any_cons] at h
          simpa [hk] using h
        by_cases hq : kv.1 = q
        · rw [List.find?_cons_of_pos (by simp [hq]), List.find?_cons_of_pos (by simp [hq]), if_neg (fun z => hk (hq.trans z))]
        · rw [List.find?_cons_of_neg (by simp [hq]), List.find?_cons_of_neg (by simp [hq])]
          exact ih ha
  · rename_i h
    unfold getA
    rw [List.find?_append]
    by_cases hq : q = r
    · subst hq
      rw [if_pos rfl]
      have : (l.find? fun kv => decide (kv.1 = q)) = none := by
        rw [List.find?_eq_none]
        intro kv hkv z
        exact h (List.any_eq_true.mpr ⟨kv, hkv, z⟩)
      rw [this]
      simp
    · rw [if_neg hq]
      cases z : l.find? fun kv => decide (kv.1 = q) with
      | none =>
        rw [Option.none_or, List.find?_cons_of_neg (by simp; exact fun z => hq z.symm)]
        rfl
      | some kv => rfl
end
section
variable {X : Cx} {e o : Expr} {te to : TE} {pos apos cpos : Pos} {t : TA} {name : Str} {T id : String} {r : V → List V → Hp → VK → Prop}
theorem pe_bmK (K : Fr) (pa : PlainAttrs T) (slot : Slot T name id) (hty : typeOf (.builtin id) = pure (.type "method_descriptor")) (hm : MtR X id r) (ho : PE X o to) (ha : PA X [e] t)
    (hbase : attributeBase o name X.env (eval o X.env) = eval o X.env := by rfl)
    (hfew : ((backTo cpos (starEach [e] X.env)).all (fun x => !x.1) && (backToKw cpos (keywordEach [] X.env)).all (fun x => x.1.isSome) && decide (([e] : List Expr).length + ([] : List Keyword).length + (if ([] : List Keyword).isEmpty then 0 else 1) < 30)) = true := by rfl)
    (hline : (apos.endLine == cpos.line) = true := by rfl) (hs : starEach [e] X.env = (false, eval e X.env) :: starEach [] X.env := by rfl) (hplain : (backTo cpos (starEach [] X.env)).any (·.1) = false := by rfl) (hK : X.K = K := by rfl) :
    PE X (.Call (.Attribute o name apos) [e] [] cpos) (tBM K T r to t) := by subst hK; exact pe_bm pa slot hty hm ho ha hbase hfew hline hs hplain
theorem pe_cvalK (K : Fr) {f : Str} (he : PE X e te) (hb : attributeBase e f X.env (eval e X.env) = eval e X.env := by rfl) (hK : X.K = K := by rfl) : PE X (.Attribute e f pos) (ClX.tCVal K te f) := by subst hK; exact ClX.pe_cval he hb
/-- a method of the class C -/
structure HasM (P : Program) (w : World) (K : Fr) (mg : Str → Option Value) (base : Heap) (C : Addr) (m : Str) (k : Nat) (sp : Sp) : Prop where
  ex : ∃ f fd ps, FnOk P w K mg base CX0 k f fd ps sp ∧ Meth K C m f ∧ Cls K C ∧ Binds K fd ps []
theorem pe_methH {C : Addr} {m : Str} {k j : Nat} {sp : Sp} {pl : Sem Bool} (G : HasM X.prog X.w X.K X.mg X.base C m k sp) (hr : Room j X.A) (hj : k ≤ j) (he : PE X o to)
    (ht : eval (.Call (.Attribute o m apos) [] [] pos) X.env = (do
      let ov ← eval o X.env
      standAt apos.atName
      let (f, first) ← holding [ov] (getMethod ov m pl)
      callWith pos f first (backTo pos (starEach [] X.env)) (backToKw pos (keywordEach [] X.env))) := by rfl) :
    PE X (.Call (.Attribute o m apos) [] [] pos) (tMeth C m sp [] E0 to tNil) := by
  obtain ⟨f, fd, ps, F, M, c, hb⟩ := G.ex
  exact pe_meth0 he c M F (hr.mono hj) hb .nil pass0 ht
structure HasP (P : Program) (w : World) (K : Fr) (mg : Str → Option Value) (base : Heap) (C : Addr) (m : Str) (k : Nat) (sp : Sp) : Prop where
  ex : ∃ p g fd ps, FnOk P w K mg base CX0 k g fd ps sp ∧ PropOf K C m p g ∧ Cls K C ∧ Binds K fd ps []
theorem pe_propH {C : Addr} {m : Str} {k j : Nat} {sp : Sp} (G : HasP X.prog X.w X.K X.mg X.base C m k sp) (hr : Room j X.A) (hj : k + 1 ≤ j) (he : PE X e te) (hb : attributeBase e m X.env (eval e X.env) = eval e X.env := by rfl) :
    PE X (.Attribute e m pos) (tProp C sp [] E0 te) := by
  obtain ⟨p, g, fd, ps, F, M, c, hb'⟩ := G.ex
  exact pe_prop he c M F (hr.mono hj) hb' .nil pass0 hb
end
/-- a method's def, by its object -/
structure AtM (K : Fr) (nm qual : Str) (f : Addr) (st : Stmt) (ps : List Str) : Prop where
  ex : ∃ fd, Fun K nm qual st f fd ∧ Binds K fd ps []
theorem ok_M {P : Program} {w : World} {K : Fr} {mg : Str → Option Value} {base : Heap} {nm qual : Str} {f : Addr} {st : Stmt} {N ps : List Str} {k : Nat} {rel : List D → D → Prop}
    (T : AtM K nm qual f st ps) (S : FnScope N ps (defScope st)) (hl : ∀ ds d, rel ds d → ds.length = ps.length)
    (hbody : ∀ (cdv : Value) (A : Around) (outer : List PySem.Env) (s : Shared) (H : Hp) (E : XK), Room k (A.deeper (PyProof.Rows.envOfC qual (defScope st) s.heap.objs.size f cdv)) →
      ∃ t, PSs (cxOf CX0 P w K mg base N qual (defScope st) f cdv A outer s H E).nox (defBody st) t ∧ ∀ ds d, rel ds d → SD K t (init N ds) (fun o => o = .rt d ∨ (d = .non ∧ ∃ ρ, o = .nx ρ))) :
    ∃ fd, FnOk P w K mg base CX0 (k + 1) f fd ps (spD K rel) ∧ Binds K fd ps [] := by
  obtain ⟨fd, F, hb⟩ := T.ex
  exact ⟨fd, ok_D F S hl hbody, hb⟩
section
variable {K : Fr} {ρ : Env} {ty tx tv : TE} {β : Type} {f : β → D} {l : List (List Int × β)} {r : List Int} {i : Nat} {n : Int} {b : β}
theorem evd_get2I {l : List (List Int × Int)} (hi : ρ[i]? = some (.md (emb D.int l))) (h : EvD K ty ρ (dR r)) (h0 : EvD K tx ρ (.int n)) : EvD K (tDGet2 (tVar i) ty tx) ρ (.int ((getA l r).getD n)) := (evd_get2M hi h h0).is (by rw [valD_emb]; cases getA l r <;> rfl)
theorem evd_get2R {l : List (List Int × List (List Int))} (hi : ρ[i]? = some (.md (emb dRs l))) (h : EvD K ty ρ (dR r)) (h0 : EvD K tx ρ (.lst [])) : EvD K (tDGet2 (tVar i) ty tx) ρ (dRs ((getA l r).getD [])) := (evd_get2M hi h h0).is (by rw [valD_emb]; cases getA l r <;> rfl)
theorem evd_inME (hi : ρ[i]? = some (.md (emb f l))) (h : EvD K ty ρ (dR r)) : EvD K (tDIn ty (tVar i)) ρ (.bl (getA l r).isSome) := (evd_inM hi h).is (by rw [valD_emb]; cases getA l r <;> rfl)
theorem evd_getDE (hd : EvD K tv ρ (.dct (emb f l))) (h : EvD K ty ρ (dR r)) (hv : getA l r = some b) : EvD K (tDGet tv ty) ρ (f b) := evd_getD hd h (by rw [valD_emb, hv]; rfl)
theorem evd_getLE (hd : EvD K tv ρ (.dcl (emb f l))) (h : EvD K ty ρ (dR r)) (hv : getA l r = some b) : EvD K (tDGet tv ty) ρ (f b) := evd_getL hd h (by rw [valD_emb, hv]; rfl)
theorem evd_getME (hi : ρ[i]? = some (.md (emb f l))) (h : EvD K ty ρ (dR r)) (hv : getA l r = some b) : EvD K (tDGet (tVar i) ty) ρ (f b) := evd_getM hi h (by rw [valD_emb, hv]; rfl)
theorem sd_dputE {P : Out → Prop} {d : D} (hi : ρ[i]? = some (.md (emb f l))) (hv : EvD K tv ρ d) (hd : d = f b) (hk : EvD K ty ρ (dR r)) (hz : l.length < 1000000) (p : P (.nx (ρ.set i (.md (emb f (putA l r b)))))) : SD K (sDPut (tVar i) ty tv) ρ P := by
  subst hd
  exact sd_dput hi hv hk (by rw [emb_len]; exact hz) (by rw [putD_emb]; exact p)
theorem evn_keysE {ρ : Env} {g : TG} {tt : TT} {te : TE} {vs : List Nat} {F : List Int → Env} {p : List Int → Bool} {h : List Int → D} (hi : ρ[i]? = some (.im (.dct (emb f l)))) (hn : ∀ b, (f b).nd = true)
    (hg : ∀ r ∈ l.map (·.1), GdD K g (dR r) (wipE (lockE ρ i (emb f l)) vs) (F r) vs) (ht : ∀ r ∈ l.map (·.1), EvB K tt (F r) (p r)) (he : ∀ r ∈ l.map (·.1), p r = true → EvD K te (F r) (h r)) (hh : ∀ r ∈ l.map (·.1), (h r).nd = true) (hz : l.length ≤ 1000000) :
    EvN K (tLockE (tLc (iKeys (tVar i)) g tt te vs)) ρ (((l.map (·.1)).filter p).map h) :=
  evn_lcKeys hi (emb_keys f l) (fun q hq => by
    unfold emb at hq
    obtain ⟨kv, _, rfl⟩ := List.mem_map.mp hq
    exact hn _) hg ht he hh (by rw [List.length_map]; exact hz)
theorem rn_srtDE (hne : 2 ≤ l.length → ∀ r ∈ l.map (·.1), r ≠ []) : RcN K (rSrtD K) [.dct (emb f l)] ((sortR (l.map (·.1))).map dR) := rn_srtD (emb_keys f l) (by rw [List.length_map]; exact hne)
end
/-- every face of the rooms, once -/
theorem keys_putA {β : Type} (l : List (List Int × β)) (r : List Int) (v : β) : (putA l r v).map (·.1) = if r ∈ l.map (·.1) then l.map (·.1) else l.map (·.1) ++ [r] := by
  unfold putA
  have e : (l.any fun kv => decide (kv.1 = r)) = decide (r ∈ l.map (·.1)) := by
    rw [Bool.eq_iff_iff, List.any_eq_true, decide_eq_true_iff, List.mem_map]
    constructor
    · rintro ⟨kv, h1, h2⟩
      exact ⟨kv, h1, of_decide_eq_true h2⟩
    · rintro ⟨kv, h1, h2⟩
      exact ⟨kv, h1, decide_eq_true h2⟩
  rw [e]
  by_cases h : r ∈ l.map (·.1)
  · rw [if_pos h, if_pos (decide_eq_true h), List.map_map]
    refine List.map_congr_left fun kv _ => ?_
    show (if kv.1 = r then (kv.1, v) else kv).1 = kv.1
    split <;> rfl
  · rw [if_neg h, if_neg (by simpa using h), List.map_append]
    rfl
theorem getA_some {β : Type} {l : List (List Int × β)} {r : List Int} : r ∈ l.map (·.1) ↔ ∃ b, getA l r = some b := by
  induction l with
  | nil => exact ⟨fun h => (by cases h), fun ⟨b, h⟩ => (by cases h)⟩
  | cons kv l ih =>
    unfold getA at ih ⊢
    by_cases h : kv.1 = r
    · rw [List.find?_cons_of_pos (by simp [h])]
      exact ⟨fun _ => ⟨kv.2, rfl⟩, fun _ => by rw [List.map_cons, h]; exact List.mem_cons_self⟩
    · rw [List.find?_cons_of_neg (by simp [h]), List.map_cons, List.mem_cons, ← ih]
      exact ⟨fun z => z.resolve_left fun q => h q.symm, Or.inr⟩
theorem evd_getDI {K : Fr} {ρ : Env} {ty tv : TE} {l : List (List Int × Int)} {r : List Int} (hd : EvD K tv ρ (.dct (emb D.int l))) (h : EvD K ty ρ (dR r)) (hm : r ∈ l.map (·.1)) : EvD K (tDGet tv ty) ρ (.int ((getA l r).getD 0)) := by
  obtain ⟨b, hb⟩ := getA_some.mp hm
  rw [hb]
  exact evd_getDE hd h hb
theorem evd_getLI {K : Fr} {ρ : Env} {ty tv : TE} {l : List (List Int × Int)} {r : List Int} (hd : EvD K tv ρ (.dcl (emb D.int l))) (h : EvD K ty ρ (dR r)) (hm : r ∈ l.map (·.1)) : EvD K (tDGet tv ty) ρ (.int ((getA l r).getD 0)) := by
  obtain ⟨b, hb⟩ := getA_some.mp hm
  rw [hb]
  exact evd_getLE hd h hb
theorem evd_getDR {K : Fr} {ρ : Env} {ty tv : TE} {l : List (List Int × List (List Int))} {r : List Int} (hd : EvD K tv ρ (.dct (emb dRs l))) (h : EvD K ty ρ (dR r)) (hm : r ∈ l.map (·.1)) : EvD K (tDGet tv ty) ρ (dRs ((getA l r).getD [])) := by
  obtain ⟨b, hb⟩ := getA_some.mp hm
  rw [hb]
  exact evd_getDE hd h hb
theorem sd_appE {K : Fr} {ρ : Env} {te : TE} {P : Out → Prop} {d : D} {α : Type} {f : α → D} {l : List α} {b : α} {i : Nat} (hx : ρ[i]? = some (.ml (l.map f))) (h : EvD K te ρ d) (hd : d = f b) (hz : l.length < 1000000) (p : P (.nx (ρ.set i (.ml ((l ++ [b]).map f))))) : SD K (tDrop (tBM K "list" rAppend (tVar i) (tCons te tNil))) ρ P := by
  subst hd
  refine sd_app hx h (by rw [List.length_map]; exact hz) ?_
  rw [List.map_append] at p
  exact p
/-- xs.append(ys.pop(i)) -/
theorem sd_appPop {K : Fr} {ρ : Env} {te : TE} {P : Out → Prop} {i j m : Nat} {xs ys : List Int} (hij : i ≠ j) (hx : ρ[i]? = some (.ml (xs.map D.int))) (hy : ρ[j]? = some (.ml (ys.map D.int))) (h : EvD K te ρ (.int (m : Nat))) (hm : m < ys.length) (hz : xs.length < 1000000) (hz2 : ys.length < 1000000)
    (p : P (.nx ((ρ.set j (.ml ((ys.eraseIdx m).map D.int))).set i (.ml ((xs ++ [ys.getD m 0]).map D.int))))) : SD K (tDrop (tBM K "list" rAppend (tVar i) (tCons (tBM K "list" rPopAt (tVar j) (tCons te tNil)) tNil))) ρ P := .mk fun Dn k f => by
  obtain ⟨l, vs, hv, h0, hs, hl, r⟩ := k.at_ i _ hx
  refine ⟨_, hv, Or.inl ⟨rfl, _, SqL.of hl⟩, ?_⟩
  obtain ⟨l2, vs2, hv2, h02, hs2, hl2, r2⟩ := k.at_ j _ hy
  refine ⟨_, hv2, Or.inl ⟨rfl, _, SqL.of hl2⟩, h k _ fun w S1 H1 g1 r1 => ?_⟩
  have k1 := k.grow g1
  obtain ⟨l', vs', hv', h0', hs', hl', r'⟩ := k1.at_ i _ hx
  rw [hv] at hv'
  cases hv'
  obtain ⟨l2', vs2', hv2', h02', hs2', hl2', r2'⟩ := k1.at_ j _ hy
  rw [hv2] at hv2'
  cases hv2'
  cases r1
  have e1 := r'.ints
  have e2 := r2'.ints
  subst e1 e2
  have ne : l ≠ l2 := fun e => by
    subst e
    exact hij (k1.dis i j _ _ _ hx hy rfl rfl hv hv2)
  have hseq : seqIndex? (m : Int) (ys.map V.int).length = some m := by
    rw [List.length_map]
    exact (ixN_seq (i := (m : Int)) (n := ys.length) (j := m) (by unfold ixN; rw [if_pos (by omega), if_pos (by omega)]; simp)).1
  have hget : (ys.map V.int)[m]? = some (.int (ys.getD m 0)) := by rw [List.getElem?_map, List.getElem?_eq_getElem hm, List.getD_eq_getElem?_getD, List.getElem?_eq_getElem hm]; rfl
  refine ⟨l2, ys.map V.int, (m : Int), m, _, rfl, rfl, hl2', by omega, by omega, hseq, hget, ?_⟩
  have hl3 : upd H1 l2 (.lst ((ys.map V.int).eraseIdx m)) l = some (.lst (xs.map V.int)) := by rw [upd_ne ne]; exact hl'
  have hxz : (xs.map V.int).length < sizeLine := by
    rw [List.length_map]
    have h4 : (1000000 : Nat) < sizeLine := by decide
    omega
  refine ⟨l, xs.map V.int, _, rfl, rfl, hl3, hxz, ?_⟩
  have ee : (ys.map V.int).eraseIdx m = (ys.eraseIdx m).map V.int := by
    rw [List.eraseIdx_eq_take_drop_succ, List.eraseIdx_eq_take_drop_succ, List.map_append, List.map_take, List.map_drop]
  rw [ee] at hl3 ⊢
  have k2 := k1.mutate hy rfl (e' := .ml ((ys.eraseIdx m).map D.int)) rfl hv2 h02' hs2' ⟨l2, _, rfl, h02', hs2', upd_same, RpA.of_ints _⟩
  have hx2 : (ρ.set j (.ml ((ys.eraseIdx m).map D.int)))[i]? = some (.ml (xs.map D.int)) := by rw [List.getElem?_set_ne (Ne.symm hij)]; exact hx
  obtain ⟨l3, vs3, hv3, h03, hs3, hl3', r3⟩ := k2.at_ i _ hx2
  rw [hv] at hv3
  cases hv3
  refine f.nx _ _ _ _ p g1.ss (k2.mutate hx2 rfl (e' := .ml ((xs ++ [ys.getD m 0]).map D.int)) rfl hv h03 hs3 ⟨l, _, rfl, h03, hs3, upd_same, ?_⟩)
  rw [List.map_append]
  exact (RpA.of_ints xs).snoc (.int _)
theorem rpa_set {K : Fr} {S : Hp} : ∀ {vs : List V} {ds : List D} (k : Nat) {v : V} {d : D}, RpA K S vs ds → Rp K S v d → RpA K S (vs.set k v) (ds.set k d)
  | [], [], _, _, _, .nil, _ => .nil
  | _ :: _, _ :: _, 0, _, _, .cons _ b, r => .cons r b
  | _ :: _, _ :: _, k + 1, _, _, .cons a b, r => .cons a (rpa_set k b r)
/-- xs[k] = e -/
theorem sd_setIt {K : Fr} {ρ : Env} {te ti : TE} {P : Out → Prop} {d : D} {α : Type} {f : α → D} {l : List α} {b : α} {i k : Nat} (hx : ρ[i]? = some (.ml (l.map f))) (h : EvD K te ρ d) (hd : d = f b) (hi : EvD K ti ρ (.int (k : Nat))) (hk : k < l.length) (p : P (.nx (ρ.set i (.ml ((l.set k b).map f))))) : SD K (tAsg te (gSub (tVar i) ti rSetL)) ρ P := .mk fun Dn kk ft =>
  h kk _ fun v S1 H1 g1 r1 => by
    have k1 := kk.grow g1
    obtain ⟨q, vs, hs, _, hS, hH, _⟩ := k1.at_ i _ hx
    refine ⟨.ref q, hs, hi k1 _ fun w S2 H2 g2 r2 => ?_⟩
    have k2 := k1.grow g2
    obtain ⟨q', vs', hs', h0', hS', hH', ra⟩ := k2.at_ i _ hx
    rw [hs] at hs'
    cases hs'
    cases r2
    subst hd
    have hl := ra.length
    rw [List.length_map] at hl
    refine ⟨q, vs', (k : Int), k, rfl, rfl, hH', by unfold ixN; rw [if_pos (by omega), if_pos (by omega), Int.toNat_natCast], ft.nx _ _ _ _ p (g1.trans g2).ss (k2.mutate hx rfl (e' := .ml ((l.set k b).map f)) rfl hs h0' hS' ⟨q, _, rfl, h0', hS', upd_same, ?_⟩)⟩
    rw [List.map_set]
    exact rpa_set k ra (r1.mono g2.ss)
theorem rv_pow {K : Fr} {i j : Int} (c : CPow i j) : RvD K (rI CPow fun i j => .int (i ^ j.toNat)) (.int i) (.int j) (.int (i ^ j.toNat)) := rv_i c fun _ => .int _
theorem sd_seqQ {K : Fr} {ρ : Env} {t u : TS} {P : Out → Prop} (Q : Out → Prop) (h : SD K t ρ Q) (hn : ∀ ρ', Q (.nx ρ') → SD K u ρ' P) (hr : ∀ d, Q (.rt d) → P (.rt d)) (hb : ∀ ρ', Q (.bk ρ') → P (.bk ρ')) (hc : ∀ ρ', Q (.ct ρ') → P (.ct ρ')) : SD K (tSeq t u) ρ P :=
  sd_seq (sd_imp h fun o q => match o, q with
    | .nx ρ', q => hn ρ' q
    | .rt d, q => hr d q
    | .bk ρ', q => hb ρ' q
    | .ct ρ', q => hc ρ' q)
end DL

set_option Elab.async false
set_option linter.all false
set_option maxRecDepth 100000
set_option maxHeartbeats 4000000
namespace DL
open PySem L2
local macro_rules | `(tactic| walk_at "evd") => `(tactic| first
  | with_reducible exact evd_int
  | with_reducible exact evd_str
  | with_reducible exact evd_bl
  | with_reducible exact evd_non
  | ((with_reducible apply evd_var); rfl)
  | walk_at "evn"
  | ((with_reducible apply EvN.ev); walk_at "evn")
  | ((with_reducible apply evd_op) <;> (try walk_at "evd"))
  | ((with_reducible apply evd_un) <;> (try walk_at "evd"))
  | ((with_reducible apply evb_test) <;> (try walk_at "evd"))
  | ((with_reducible apply evb_B) <;> (try walk_at "evd"))
  | with_reducible exact evb_yes
  | ((with_reducible apply evb_not) <;> (try walk_at "evd"))
  | ((with_reducible apply evb_and) <;> (try walk_at "evd"))
  | ((with_reducible apply evb_or) <;> (try walk_at "evd"))
  | ((with_reducible apply evd_andV) <;> (try walk_at "evd"))
  | ((with_reducible apply evd_orV) <;> (try walk_at "evd"))
  | ((with_reducible apply evd_notV) <;> (try walk_at "evd"))
  | ((with_reducible apply evd_chain) <;> (try walk_at "evd"))
  | walk_at "evd2")
local macro_rules | `(tactic| walk_at "evn") => `(tactic| first
  | ((with_reducible apply evn_cat) <;> (try walk_at "evd"))
  | ((with_reducible apply evn_lst) <;> (try walk_at "evd"))
  | ((with_reducible apply evn_slL) <;> (try walk_at "evd"))
  | ((with_reducible apply evn_lc) <;> (try walk_at "evd"))
  | ((with_reducible apply evn_listRg) <;> (try walk_at "evd"))
  | ((with_reducible apply evn_revL) <;> (try walk_at "evd"))
  | focus ((with_reducible apply evn_keysE); (rfl); (all_goals (try walk_at "evd")))
  | focus ((with_reducible apply evn_cb (r := rSrtI _)); (focus walk_at "evd"); (all_goals (try walk_at "rc")))
  | focus ((with_reducible apply evn_cb (r := rSrtR _)); (focus walk_at "evd"); (all_goals (try walk_at "rc")))
  | focus ((with_reducible apply evn_cb (r := rSrtP _)); (focus walk_at "evd"); (all_goals (try walk_at "rc")))
  | focus ((with_reducible apply evn_cb (r := rSrtD _)); (focus walk_at "evd"); (all_goals (try walk_at "rc")))
  | focus ((with_reducible apply evn_cb (r := rListOf _)); (focus walk_at "evd"); (all_goals (try walk_at "rc"))))
local macro_rules | `(tactic| walk_at "evd2") => `(tactic| first
  | ((with_reducible apply evd_tupL) <;> (try walk_at "evd"))
  | ((with_reducible apply evd_tupF) <;> (try walk_at "evd"))
  | ((with_reducible apply evd_tup) <;> (try walk_at "evd"))
  | with_reducible exact eva_nil
  | ((with_reducible apply eva_cons) <;> (try walk_at "evd"))
  | with_reducible exact evp_none
  | ((with_reducible apply evp_some) <;> (try walk_at "evd"))
  | focus ((with_reducible apply evd_slT); (focus walk_at "evd"); (all_goals (try walk_at "evd")))
  | focus ((with_reducible apply evd_slU); (focus walk_at "evd"); (all_goals (try walk_at "evd")))
  | exact gd_name
  | exact gd_two
  | ((with_reducible apply iv_list) <;> (try walk_at "evd"))
  | focus ((with_reducible apply iv_tup); walk_at "evd")
  | focus ((with_reducible apply iv_ftu); walk_at "evd")
  | ((with_reducible apply iv_enumQ) <;> (try walk_at "evd"))
  | ((with_reducible apply iv_rng1) <;> (try walk_at "evd"))
  | ((with_reducible apply iv_rng2) <;> (try walk_at "evd"))
  | ((with_reducible apply iv_enum) <;> (try walk_at "evd"))
  | ((with_reducible apply evd_tupRg) <;> (try walk_at "evd"))
  | ((with_reducible apply evr_1) <;> (try walk_at "evd"))
  | ((with_reducible apply evr_2) <;> (try walk_at "evd"))
  | focus ((with_reducible apply evd_call); (focus walk_at "evd"); (all_goals (try walk_at "rel")))
  | ((with_reducible apply evd_lenSet) <;> (try walk_at "evd"))
  | walk_at "evd3"
  | ((with_reducible apply evd_tix) <;> (try walk_at "evd"))
  | focus ((with_reducible apply evd_bmL); (focus walk_at "evd"); (all_goals (try walk_at "evd")))
  | focus ((with_reducible apply evd_cb); (focus walk_at "evd"); (all_goals (try walk_at "rc")))
  | walk_at "rc"
  | (intro _; walk_at "evd"))
local macro_rules | `(tactic| walk_at "evd3") => `(tactic| first
  | focus ((with_reducible apply evd_fld); (focus walk_at "evd"); (all_goals (try first | rfl | assumption | walk_at "fact")))
  | focus ((with_reducible apply evd_make); (focus walk_at "evd"); (all_goals (try walk_at "rel")))
  | focus ((with_reducible apply evd_meth); (focus walk_at "evd"); (focus walk_at "evd"); (all_goals (try first | rfl | walk_at "rel")))
  | focus ((with_reducible apply evd_prop); (focus walk_at "evd"); (all_goals (try walk_at "rel")))
  | focus ((with_reducible apply evd_spc); (focus walk_at "evd"); (all_goals (try walk_at "rel")))
  | focus ((with_reducible apply evd_isiO); (focus walk_at "evd"); (all_goals (try walk_at "fact")))
  | focus ((with_reducible apply evd_isi); (focus walk_at "evd"); (all_goals (try first | rfl | decide +kernel)))
  | ((with_reducible apply evd_cval) <;> (try walk_at "fact"))
  | focus ((with_reducible apply evd_inME); (rfl); (all_goals (try walk_at "evd")))
  | focus ((with_reducible apply evd_get2I); (rfl); (all_goals (try walk_at "evd")))
  | focus ((with_reducible apply evd_get2R); (rfl); (all_goals (try walk_at "evd")))
  | focus ((with_reducible apply evd_getME); (rfl); (all_goals (try walk_at "evd")))
  | focus ((with_reducible apply evd_getLI); (focus walk_at "evd"); (all_goals (try walk_at "evd")))
  | focus ((with_reducible apply evd_getDI); (focus walk_at "evd"); (all_goals (try walk_at "evd")))
  | focus ((with_reducible apply evd_getDR); (focus walk_at "evd"); (all_goals (try walk_at "evd")))
  | focus ((with_reducible apply evd_getLE); (focus walk_at "evd"); (all_goals (try walk_at "evd")))
  | focus ((with_reducible apply evd_getDE); (focus walk_at "evd"); (all_goals (try walk_at "evd")))
  | ((with_reducible apply evm_new)))
local macro_rules | `(tactic| walk_at "rc") => `(tactic| first
  | with_reducible apply rv_add
  | with_reducible apply rv_sub
  | with_reducible apply rv_cmp
  | with_reducible apply ru_neg
  | with_reducible apply rv_eqI
  | with_reducible apply rv_neI
  | with_reducible apply rv_eqS
  | with_reducible apply rv_neS
  | with_reducible apply rv_inT
  | with_reducible apply rv_inL
  | with_reducible apply rv_notInT
  | with_reducible apply rv_notInL
  | with_reducible apply rc_lenL
  | with_reducible apply rc_lenT
  | with_reducible apply rc_lenF
  | with_reducible apply rc_lenA
  | with_reducible apply rc_lenU
  | with_reducible apply rn_srtIL
  | with_reducible apply rn_srtIT
  | with_reducible apply rn_srtIA
  | with_reducible apply rn_srtP
  | with_reducible apply rn_srtR
  | with_reducible apply rn_srtDE
  | with_reducible apply rn_listL
  | with_reducible apply rn_listT
  | with_reducible apply rn_listA
  | with_reducible apply rc_abs
  | with_reducible apply rc_sum
  | with_reducible apply rc_int
  | walk_at "rc2")
local macro_rules | `(tactic| walk_at "rc2") => `(tactic| first
  | with_reducible apply rv_ixT0I
  | with_reducible apply rv_ixTZI
  | with_reducible apply rv_ixU0I
  | with_reducible apply rv_ixUZI
  | with_reducible apply rv_ixL0I
  | with_reducible apply rv_ixLZI
  | with_reducible apply rv_ixF0I
  | with_reducible apply rv_ixFZI
  | with_reducible apply rv_ixL0R
  | with_reducible apply rv_ixTR
  | with_reducible apply rv_ixL0L
  | with_reducible apply rv_ixTL
  | with_reducible apply rv_ixL0U
  | with_reducible apply rv_ixTU
  | with_reducible apply rv_ixQ
  | with_reducible apply rv_ixQ0
  | with_reducible apply rv_ixQZ
  | with_reducible apply rv_ix20
  | with_reducible apply rv_ix21
  | with_reducible apply rv_ixTI
  | with_reducible apply rv_ixUI
  | with_reducible apply rv_ixLI
  | with_reducible apply rv_ixFI
  | with_reducible apply rv_ixLR
  | with_reducible apply rv_ixLL
  | with_reducible apply rv_ixLU
  | with_reducible apply rv_mul
  | with_reducible apply rv_fdiv
  | with_reducible apply rv_mod
  | with_reducible apply rv_pow
  | with_reducible apply rv_ixL
  | with_reducible apply rv_ixF
  | with_reducible apply rv_ixT
  | with_reducible apply rv_ixU
  | with_reducible apply rv_ixA
  | with_reducible apply rv_catT
  | with_reducible apply rv_eqTI
  | with_reducible apply rv_neTI
  | with_reducible apply rv_eqLI
  | with_reducible apply rv_neLI
  | with_reducible apply rv_eqTR
  | with_reducible apply rv_inLR
  | with_reducible apply rv_notInLR
  | with_reducible apply rm_lix
  | with_reducible apply rn_srtIL'
  | with_reducible apply rn_srtR'
  | with_reducible apply rn_srtP'
  | with_reducible apply rv_inT'
  | with_reducible apply rv_inL'
  | with_reducible apply rv_notInT'
  | with_reducible apply rv_notInL'
  | with_reducible apply rc_sum'
  | with_reducible apply rc_min'
  | with_reducible apply rm_lix')
local macro_rules | `(tactic| walk_at "bnd") => `(tactic| first
  | omega
  | exact map_snoc
  | exact map_cat
  | ((have hszl := szl); (simp only [List.length_map, List.length_range, List.length_append, List.length_cons, List.length_nil, List.length_take, List.length_drop, Int.toNat_natCast, Nat.add_zero, Nat.zero_add, Int.natCast_add, Int.natCast_one] at *); omega)
  | ((simp only [List.length_map]); (refine Nat.le_trans (Nat.add_le_add_right (List.length_filter_le _ _) _) ?_); walk_at "bnd"))

/-- what the classes' names stand for -/
structure Zs (K : Fr) (mg : Str → Option Value) (CB CC : Addr) : Prop where
  Book : mg "Book" = some (.ref CB)
  Chain : mg "Chain" = some (.ref CC)
  cB : Cls K CB
  cC : Cls K CC
  nB : ∀ f ∈ (["places", "size", "rooms"] : List Str), NoAttr K CB f
  nC : ∀ f ∈ (["places", "degree", "terms"] : List Str), NoAttr K CC f
  rd : ∃ mc, ClX.CRead K CB mc ∧ ∃ u, ClX.CVal K CB mc "MOST_PLACES" (.int 12) u
  iB : IsiC K CB
  kB : PySem.W.kitOne K (.ref CB) (.ref CB) = some true
abbrev bookF (pl : Int) (sz : Nat) (rs : List (List Int)) : List (Str × D) := [("places", .int pl), ("size", .int (sz : Nat)), ("rooms", .tup (rs.map dR))]
abbrev chainF (pl : Int) (dg : Nat) (ts : List (List Int × Int)) : List (Str × D) := [("places", .int pl), ("degree", .int (dg : Nat)), ("terms", .tup (ts.map dT))]
section
variable {P : Program} {w : World} {K : Fr} {mg : Str → Option Value} {base : Heap} {CB CC : Addr}
theorem r_faces {r : List Int} (h : r.length ≤ 100) : R_faces [.tup (r.map D.int)] (.lst ((fcs r).map fun r => .tup (r.map D.int))) := ⟨r, h, rfl, rfl⟩
theorem r_room_fault {pl : Int} {sz : Nat} {r : List Int} (h : r.length ≤ 100 ∧ r.Nodup) : R_room_fault [.int pl, .int (sz : Nat), .tup (r.map D.int)] (.str (rfault pl sz r)) := ⟨pl, sz, r, h.1, h.2, rfl, rfl⟩
theorem r_order_sign {r : List Int} (h : r.length ≤ 100) : R_order_sign [.tup (r.map D.int)] (.int (osign r)) := ⟨r, h, rfl, rfl⟩
local macro_rules | `(tactic| walk_at "rel") => `(tactic| first | with_reducible apply r_faces | with_reducible apply r_room_fault | with_reducible apply r_order_sign)
theorem take_fold {α β : Type} {f : β → α → β} {l : List α} {i : Nat} {a : α} {b : β} (h : l[i]? = some a) : (l.take (i + 1)).foldl f b = f ((l.take i).foldl f b) a := by
  rw [List.take_succ, h, Option.toList_some, List.foldl_append]
  rfl
/-- the rooms' faces, counted -/
def fcnt (rs : List (List Int)) : List (List Int × Int) := (rs.flatMap fcs).foldl (fun l f => putA l f ((getA l f).getD 0 + 1)) []
def R_face_counts (ds : List D) (d : D) : Prop := ∃ rs : List (List Int), rs.length ≤ 1000 ∧ (∀ r ∈ rs, r.length ≤ 100) ∧ ds = [.tup (rs.map dR)] ∧ d = .dct (emb D.int (fcnt rs))
theorem sc_face_counts : FnScope ["rooms", "counts", "room", "face"] ["rooms"] (defScope s_face_counts) := ⟨rfl, rfl, rfl, by decide +kernel, rfl, by decide +kernel, by decide +kernel⟩
theorem ok_face_counts (T : At K mg "face_counts" s_face_counts ["rooms"]) (B : Bi mg) (G_faces : Has P w K mg base CX0 "faces" 1 ["room"] (spD K R_faces)) : Has P w K mg base CX0 "face_counts" 2 ["rooms"] (spD K R_face_counts) := by
  refine ok_H T sc_face_counts (fun ds d h => by obtain ⟨_, _, _, rfl, _⟩ := h; rfl) (fun f cdv A outer s H E hr => ⟨_, (pss_cons (ps_set (i := 1) sc_face_counts.nd rfl (by first | exact Or.inl rfl | exact Or.inr rfl) (pe_dnewT))
        (pss_cons (ps_for PassesOwn.never rfl (pi_tK K (pv 0)) (pg_name (i := 2) sc_face_counts.nd rfl (by first | exact Or.inl rfl | exact Or.inr rfl)) (pss_one (ps_for PassesOwn.never rfl (pi_lK K (pe_callH G_faces hr (by decide) rfl (pa_cons (pv 2) pa_nil))) (pg_name (i := 3) sc_face_counts.nd rfl (by first | exact Or.inl rfl | exact Or.inr rfl)) (pss_one (ps_dput (hu_of hr) (pv 1) (pv 3) (pe_op op_add (pe_dget2 (hu_of hr) (pv 1) (pv 3) (pe_int) ⟨rfl, rfl, rfl, rfl⟩) (pe_int)) rfl)))))
        (pss_one (ps_ret (pv 1))))), ?_⟩)
  rintro ds d ⟨rs, hl, hb, rfl, rfl⟩
  apply sd_seq
  apply sd_setM
  · walk_at "evd"
  apply sd_seq
  apply sd_for (e := dR) (items := rs) (Inv := fun i ρ => ∃ l x y, ρ = [.im (.tup (rs.map dR)), .md (emb D.int l), x, y] ∧ l = ((rs.take i).flatMap fcs).foldl (fun l f => putA l f ((getA l f).getD 0 + 1)) [] ∧ l.length ≤ i * 100)
  · walk_at "evd"
  · exact ⟨[], _, _, rfl, rfl, by simp⟩
  · rintro i r ρ1 ha ⟨l, x, y, rfl, hl1, hl2⟩
    have hr := hb r (List.mem_of_getElem? ha)
    refine ⟨_, _, gd_name, ?_⟩
    apply sd_for (e := dR) (items := fcs r) (Inv := fun j ρ => ∃ l' y, ρ = [.im (.tup (rs.map dR)), .md (emb D.int l'), .im (dR r), y] ∧ l' = ((fcs r).take j).foldl (fun l f => putA l f ((getA l f).getD 0 + 1)) l ∧ l'.length ≤ i * 100 + j)
    · walk_at "evd"
      exact hr
    · exact ⟨l, _, rfl, rfl, by omega⟩
    · rintro j f ρ2 hf ⟨l', y', rfl, hl3, hl4⟩
      refine ⟨_, _, gd_name, ?_⟩
      have hi := (List.getElem?_eq_some_iff.mp ha).1
      have hj := (List.getElem?_eq_some_iff.mp hf).1
      have hj' : (fcs r).length = r.length := by unfold fcs; rw [List.length_map, List.length_range]
      apply sd_dputE
      · rfl
      · walk_at "evd"
      · rfl
      · walk_at "evd"
      · have : i * 100 + 100 ≤ 1000 * 100 := by omega
        omega
      · refine ⟨_, _, rfl, ?_, ?_⟩
        · rw [take_fold hf, ← hl3]
        · have := len_putA l' f ((getA l' f).getD 0 + 1)
          omega
    · rintro ρ2 ⟨l', y', rfl, hl3, hl4⟩
      have hj' : (fcs r).length = r.length := by unfold fcs; rw [List.length_map, List.length_range]
      refine ⟨l', _, _, rfl, ?_, by omega⟩
      rw [List.take_length] at hl3
      rw [hl3, hl1, List.take_succ, ha, Option.toList_some, List.flatMap_append, List.foldl_append]
      simp
  · rintro ρ1 ⟨l, x, y, rfl, hl1, hl2⟩
    apply sd_frz (i := 1) rfl rfl
    apply sd_retE (p := Or.inl rfl)
    · walk_at "evd"
    · rw [List.take_length] at hl1
      rw [hl1]
      rfl
theorem enD_map {α : Type} {f : α → D} (z : α) (l : List α) : enD (l.map f) = (List.range l.length).map fun i => D.tup [.int ((i : Nat) : Int), f (l.getD i z)] := by
  unfold enD
  rw [List.length_map]
  refine List.map_congr_left fun i hi => ?_
  have hi' : i < l.length := List.mem_range.mp hi
  rw [List.getD_eq_getElem?_getD, List.getElem?_map, List.getD_eq_getElem?_getD, List.getElem?_eq_getElem hi']
  rfl
theorem putFD_len (f : Str) (d : D) : ∀ fs : List (Str × D), (putFD f d fs).length ≤ fs.length + 1
  | [] => Nat.le_refl _
  | (g, e) :: r => by
    show (if g = f then (g, d) :: r else (g, e) :: putFD f d r).length ≤ r.length + 1 + 1
    split
    · exact Nat.le_succ _
    · exact Nat.succ_le_succ (putFD_len f d r)
theorem nodup_new {α β : Type} {f : α → β} {l : List α} {i : Nat} {a : α} (h : (l.map f).Nodup) (ha : l[i]? = some a) : f a ∉ (l.take i).map f := by
  intro hm
  obtain ⟨b, hb, e⟩ := List.mem_map.mp hm
  obtain ⟨j, hj⟩ := List.mem_iff_getElem?.mp hb
  have hji : j < i := by
    have := (List.getElem?_eq_some_iff.mp hj).1
    rw [List.length_take] at this
    omega
  rw [List.getElem?_take_of_lt hji] at hj
  have hil := (List.getElem?_eq_some_iff.mp ha).1
  have hjl : j < l.length := by omega
  have := (List.pairwise_iff_getElem.mp h) j i (by rw [List.length_map]; exact hjl) (by rw [List.length_map]; exact hil) hji
  apply this
  rw [List.getElem_map, List.getElem_map, (List.getElem?_eq_some_iff.mp hj).2, (List.getElem?_eq_some_iff.mp ha).2]
  exact e
theorem one_key {L : List (List Int)} {n : Nat} (nd : L.Nodup) (h : ∀ r ∈ L, r.length = n) (h2 : 2 ≤ L.length) : ∀ r ∈ L, r ≠ [] := by
  rintro r hr rfl
  have hn : n = 0 := (h [] hr).symm
  subst hn
  have := nodup_le nd (m := [[]]) fun x hx => by
    rw [List.length_eq_zero_iff.mp (h x hx)]
    exact List.mem_cons_self
  simp at this
  omega
structure Good (pl : Int) (sz : Nat) (r : List Int) : Prop where
  len : r.length = sz
  few : r.length ≤ 100
  nd : r.Nodup
  bd : ∀ p ∈ r, 0 ≤ p ∧ p < pl
theorem rfault_good {pl : Int} {sz : Nat} {r : List Int} (h : Good pl sz r) : rfault pl sz r = "" := by
  unfold rfault
  rw [if_neg (by rw [h.len]; simp), if_neg]
  rw [Bool.not_eq_true, List.any_eq_false]
  intro p hp
  have := h.bd p hp
  simp [this.1, this.2]
theorem r_face_counts {rs : List (List Int)} (h : rs.length ≤ 1000 ∧ ∀ r ∈ rs, r.length ≤ 100) : R_face_counts [.tup (rs.map fun r => .tup (r.map D.int))] (.dct (emb D.int (fcnt rs))) := ⟨rs, h.1, h.2, rfl, rfl⟩
local macro_rules | `(tactic| walk_at "rel") => `(tactic| with_reducible apply r_face_counts)
local macro_rules | `(tactic| walk_at "few") => `(tactic| first | exact (by decide : 0 < 900) | exact Nat.lt_of_le_of_lt (putFD_len _ _ _) (by decide : 0 + 1 < 900) | exact Nat.lt_of_le_of_lt (Nat.le_trans (putFD_len _ _ _) (Nat.succ_le_succ (putFD_len _ _ _))) (by decide : 0 + 1 + 1 < 900))
def R_Book_init (ds : List D) (fs : List (Str × D)) : Prop := ∃ (pl : Int) (sz : Nat) (rs : List (List Int)), 1 ≤ pl ∧ pl ≤ 12 ∧ 1 ≤ sz ∧ (sz : Int) ≤ pl ∧ rs.length ≤ 1000 ∧ (∀ r ∈ rs, Good pl sz r) ∧ (rs.map sortI).Nodup ∧ ds = [.int pl, .int (sz : Nat), dRs rs] ∧ fs = bookF pl sz (sortR (rs.map sortI))
abbrev eU (_ : Unit) : D := .bl true
theorem sc_Book___init__ : FnScope ["self", "places", "size", "rooms", "known", "at", "listed", "fault", "room"] ["self", "places", "size", "rooms"] (defScope s_Book___init__) := ⟨rfl, rfl, rfl, by decide +kernel, rfl, by decide +kernel, by decide +kernel⟩
theorem ok_Book_init (T : AtI K mg "Book" "Book.__init__" CB s_Book___init__ ["self", "places", "size", "rooms"]) (B : Bi mg) (Z : Zs K mg CB CC) (G_room_fault : Has P w K mg base CX0 "room_fault" 1 ["places", "size", "room"] (spD K R_room_fault)) : HasI P w K mg base "Book" CB 2 ["self", "places", "size", "rooms"] (spI K CB R_Book_init) := by
  refine ok_I T sc_Book___init__ (fun ds d h => by obtain ⟨_, _, _, _, _, _, _, _, _, _, rfl, _⟩ := h; rfl) (fun f cdv A outer s H E hr => ⟨_, (pss_cons (ps_if (pt_not (pt_chain op_le op_le (pe_int) (pv 1) (pe_cvalK K (pe_glob (v := .ref CB) rfl Z.Book rfl)))) (pss_one (ps_never)) (pss_nil))
        (pss_cons (ps_if (pt_not (pt_chain op_le op_le (pe_int) (pv 2) (pv 1))) (pss_one (ps_never)) (pss_nil))
        (pss_cons (ps_set (i := 4) sc_Book___init__.nd rfl (by first | exact Or.inl rfl | exact Or.inr rfl) (pe_dnewT))
        (pss_cons (ps_for PassesOwn.never rfl (pi_enumK K rfl B.enumerate (pa_cons (pv 3) pa_nil)) (pg_tupK K (n := 2) rfl (pgs_cons (pg_name (i := 5) sc_Book___init__.nd rfl (by first | exact Or.inl rfl | exact Or.inr rfl)) (pgs_cons (pg_name (i := 6) sc_Book___init__.nd rfl (by first | exact Or.inl rfl | exact Or.inr rfl)) pgs_nil))) (pss_cons (ps_set (i := 7) sc_Book___init__.nd rfl (by first | exact Or.inl rfl | exact Or.inr rfl) (pe_callH G_room_fault hr (by decide) rfl (pa_cons (pv 1) (pa_cons (pv 2) (pa_cons (pv 6) pa_nil)))))
        (pss_cons (ps_set (i := 8) sc_Book___init__.nd rfl (by first | exact Or.inl rfl | exact Or.inr rfl) (pe_tupleK K rfl B.tuple (pe_callB (cl_srtI K) rfl B.sorted (by decide +kernel) (pa_cons (pv 6) pa_nil))))
        (pss_cons (ps_if (PW.pt (pw_and (pt_cmpR op_eq (pv 7) (pe_str) (nomark _)) (pw_and1 (pt_cmp (pc_din (hu_of hr) (pv 8) (pv 4)) rfl)))) (pss_one (ps_set (i := 7) sc_Book___init__.nd rfl (by first | exact Or.inl rfl | exact Or.inr rfl) (pe_str))) (pss_nil))
        (pss_cons (ps_if (pt_cmpR op_ne (pv 7) (pe_str) (nomark _)) (pss_one (ps_never)) (pss_nil))
        (pss_one (ps_dput (hu_of hr) (pv 4) (pv 8) (pe_bl) rfl)))))))
        (pss_cons (ps_fld (pv 0) (pv 1) rfl)
        (pss_cons (ps_fld (pv 0) (pv 2) rfl)
        (pss_one (ps_fld (pv 0) (pe_tupleK K rfl B.tuple (pe_callB (cl_srtD K) rfl B.sorted (by decide +kernel) (pa_cons (pv 4) pa_nil))) rfl)))))))), ?_⟩)
  rintro a ds fs ⟨pl, sz, rs, h1, h2, h3, h4, hl, hg, hn, rfl, rfl⟩
  obtain ⟨mc, rd, u, cv⟩ := Z.rd
  apply sd_seq
  apply sd_if
  · walk_at "evd"
    · exact rd
    · exact cv
  · intro c
    simp at c
    omega
  intro _
  apply sd_next
  apply sd_seq
  apply sd_if
  · walk_at "evd"
  · intro c
    simp at c
    omega
  intro _
  apply sd_next
  apply sd_seq
  apply sd_setM
  · walk_at "evd"
  apply sd_seq
  apply sd_for (e := fun i : Nat => D.tup [.int (i : Nat), dR (rs.getD i [])]) (items := List.range rs.length) (Inv := fun i ρ => ∃ l x y z t, ρ = [.mo a CB [], .im (.int pl), .im (.int (sz : Nat)), .im (dRs rs), .md (emb eU l), x, y, z, t] ∧ l.map (·.1) = (rs.take i).map sortI)
  · rw [← enD_map]
    walk_at "evd"
  · exact ⟨[], _, _, _, _, rfl, rfl⟩
  · rintro i n ρ1 ha ⟨l, x, y, z, t, rfl, hk⟩
    obtain rfl := rng_at ha
    have hi := rng_lt ha
    have hget : rs[i]? = some (rs.getD i []) := by rw [List.getElem?_eq_getElem hi, List.getD_eq_getElem?_getD, List.getElem?_eq_getElem hi]; rfl
    have G := hg _ (List.mem_of_getElem? hget)
    have hkl : l.length = i := by
      have := congrArg List.length hk
      rw [List.length_map, List.length_map, List.length_take] at this
      omega
    have hnew : sortI (rs.getD i []) ∉ l.map (·.1) := by
      rw [hk]
      exact nodup_new hn hget
    refine ⟨_, _, gd_two, ?_⟩
    apply sd_seq
    apply sd_setE (d := .str "")
    · walk_at "evd"
      exact ⟨G.few, G.nd⟩
    · rw [rfault_good G]
    apply sd_seq
    apply sd_set
    · walk_at "evd"
    apply sd_seq
    apply sd_if
    · walk_at "evd"
    · intro c
      rw [Bool.and_eq_true] at c
      obtain ⟨u, hu⟩ := Option.isSome_iff_exists.mp c.2
      exact sd_no (hnew (getA_some.mpr ⟨u, hu⟩))
    intro _
    apply sd_next
    apply sd_seq
    apply sd_if
    · walk_at "evd"
    · intro c
      simp at c
    intro _
    apply sd_next
    apply sd_dputE (b := ())
    · rfl
    · walk_at "evd"
    · rfl
    · walk_at "evd"
    · omega
    · refine ⟨_, _, _, _, _, rfl, ?_⟩
      rw [keys_putA, if_neg hnew, hk, List.take_succ, hget, List.map_append]
      rfl
  · rintro ρ1 ⟨l, x, y, z, t, rfl, hk⟩
    rw [List.length_range, List.take_length] at hk
    apply sd_seq
    apply sd_fld
    · rfl
    · walk_at "evd"
    · exact Z.cB
    · exact Z.nB _ (by simp)
    · walk_at "few"
    apply sd_seq
    apply sd_fld
    · rfl
    · walk_at "evd"
    · exact Z.cB
    · exact Z.nB _ (by simp)
    · walk_at "few"
    apply sd_frz (i := 4) rfl rfl
    apply sd_fld
    · rfl
    · walk_at "evd"
      intro _ r hr
      rw [hk] at hr
      obtain ⟨q, hq, rfl⟩ := List.mem_map.mp hr
      have := (hg q hq).len
      intro e
      have e2 := (sortBy_perm ilt q).length_eq
      rw [show sortBy ilt q = [] from e] at e2
      simp at e2
      omega
    · exact Z.cB
    · exact Z.nB _ (by simp)
    · walk_at "few"
    · refine ⟨_, rfl, ?_⟩
      rw [hk]
      rfl
theorem osIn_abs (r : List Int) (k : Nat) (s : Int) (j : Nat) : (osIn r k s j).natAbs = s.natAbs := by
  unfold osIn
  split
  · omega
  · rfl
theorem foldl_abs {f : Int → Nat → Int} (hf : ∀ s j, (f s j).natAbs = s.natAbs) (l : List Nat) (s : Int) : (l.foldl f s).natAbs = s.natAbs := by
  induction l generalizing s with
  | nil => rfl
  | cons a l ih => rw [List.foldl_cons, ih, hf]
theorem osign_abs (r : List Int) : (osign r).natAbs = 1 := by
  unfold osign
  rw [foldl_abs]
  · rfl
  · intro s k
    unfold osOut
    exact foldl_abs (osIn_abs r k) _ _
theorem osign_mul (i : Int) (r : List Int) : CMul i (osign r) := Or.inr (by have := osign_abs r; omega)
def sumS (l : List (List Int × Int)) (t : List Int × Int) : List (List Int × Int) := putA l (sortI t.1) ((getA l (sortI t.1)).getD 0 + t.2 * osign t.1)
def sumA (ts : List (List Int × Int)) : List (List Int × Int) := ts.foldl sumS []
def chT (ts : List (List Int × Int)) : List (List Int × Int) := ((sortR ((sumA ts).map (·.1))).filter fun r => !decide ((getA (sumA ts) r).getD 0 = 0)).map fun r => (r, (getA (sumA ts) r).getD 0)
def R_Chain_init (ds : List D) (fs : List (Str × D)) : Prop := ∃ (pl : Int) (dg : Nat) (ts : List (List Int × Int)), 1 ≤ pl ∧ pl ≤ 12 ∧ ts.length ≤ 1000 ∧ (∀ t ∈ ts, Good pl dg t.1) ∧ ds = [.int pl, .int (dg : Nat), dTs ts] ∧ fs = chainF pl dg (chT ts)
theorem ne_len {r : List Int} {n : Nat} (h : r.length = n) (h1 : 1 ≤ n) : r ≠ [] := fun e => by rw [e] at h; simp at h; omega
theorem sortI_len (r : List Int) : (sortI r).length = r.length := (sortBy_perm ilt r).length_eq
theorem mem_sortR {rs : List (List Int)} {r : List Int} : r ∈ sortR rs ↔ r ∈ rs := (sortBy_perm llt rs).mem_iff
theorem sumA_keys {ts : List (List Int × Int)} {n : Nat} (h : ∀ t ∈ ts, t.1.length = n) : ∀ r ∈ (sumA ts).map (·.1), r.length = n := by
  have key : ∀ (ts : List (List Int × Int)) (l : List (List Int × Int)), (∀ t ∈ ts, t.1.length = n) → (∀ r ∈ l.map (·.1), r.length = n) → ∀ r ∈ (ts.foldl sumS l).map (·.1), r.length = n := by
    intro ts
    induction ts with
    | nil => exact fun l _ hl => hl
    | cons t ts ih =>
      intro l ht hl
      refine ih _ (fun t' h' => ht t' (List.mem_cons_of_mem _ h')) fun r hr => ?_
      unfold sumS at hr
      rw [keys_putA] at hr
      split at hr
      · exact hl r hr
      · rcases List.mem_append.mp hr with q | q
        · exact hl r q
        · rw [List.mem_singleton.mp q, sortI_len]
          exact ht t List.mem_cons_self
  exact key ts [] h fun r hr => by cases hr
theorem sumA_nd (ts : List (List Int × Int)) : ((sumA ts).map (·.1)).Nodup := by
  have key : ∀ (ts : List (List Int × Int)) (l : List (List Int × Int)), (l.map (·.1)).Nodup → ((ts.foldl sumS l).map (·.1)).Nodup := by
    intro ts
    induction ts with
    | nil => exact fun l h => h
    | cons t ts ih =>
      intro l h
      refine ih _ ?_
      unfold sumS
      rw [keys_putA]
      split
      · exact h
      · rename_i hn
        rw [List.nodup_append]
        exact ⟨h, List.nodup_cons.mpr ⟨(by simp), List.nodup_nil⟩, fun x hx y hy e => hn (by rw [← List.mem_singleton.mp hy, ← e]; exact hx)⟩
  exact key ts [] List.nodup_nil
theorem sc_Chain___init__ : FnScope ["self", "places", "degree", "terms", "sums", "at", "term", "fault", "room"] ["self", "places", "degree", "terms"] (defScope s_Chain___init__) := ⟨rfl, rfl, rfl, by decide +kernel, rfl, by decide +kernel, by decide +kernel⟩
theorem ok_Chain_init (T : AtI K mg "Chain" "Chain.__init__" CC s_Chain___init__ ["self", "places", "degree", "terms"]) (B : Bi mg) (Z : Zs K mg CB CC) (G_room_fault : Has P w K mg base CX0 "room_fault" 1 ["places", "size", "room"] (spD K R_room_fault)) (G_order_sign : Has P w K mg base CX0 "order_sign" 1 ["row"] (spD K R_order_sign)) : HasI P w K mg base "Chain" CC 2 ["self", "places", "degree", "terms"] (spI K CC R_Chain_init) := by
  refine ok_I T sc_Chain___init__ (fun ds d h => by obtain ⟨_, _, _, _, _, _, _, rfl, _⟩ := h; rfl) (fun f cdv A outer s H E hr => ⟨_, (pss_cons (ps_if (pt_not (pt_chain op_le op_le (pe_int) (pv 1) (pe_cvalK K (pe_glob (v := .ref CB) rfl Z.Book rfl)))) (pss_one (ps_never)) (pss_nil))
        (pss_cons (ps_if (pt_cmpR op_lt (pv 2) (pe_int) (nomark _)) (pss_one (ps_never)) (pss_nil))
        (pss_cons (ps_set (i := 4) sc_Chain___init__.nd rfl (by first | exact Or.inl rfl | exact Or.inr rfl) (pe_dnewT))
        (pss_cons (ps_for PassesOwn.never rfl (pi_enumK K rfl B.enumerate (pa_cons (pv 3) pa_nil)) (pg_tupK K (n := 2) rfl (pgs_cons (pg_name (i := 5) sc_Chain___init__.nd rfl (by first | exact Or.inl rfl | exact Or.inr rfl)) (pgs_cons (pg_name (i := 6) sc_Chain___init__.nd rfl (by first | exact Or.inl rfl | exact Or.inr rfl)) pgs_nil))) (pss_cons (ps_set (i := 7) sc_Chain___init__.nd rfl (by first | exact Or.inl rfl | exact Or.inr rfl) (pe_callH G_room_fault hr (by decide) rfl (pa_cons (pv 1) (pa_cons (pv 2) (pa_cons (pe_ix (ix_tK K) (pv 6) (pe_int) (fun _ _ => rfl)) pa_nil)))))
        (pss_cons (ps_if (pt_cmpR op_ne (pv 7) (pe_str) (nomark _)) (pss_one (ps_never)) (pss_nil))
        (pss_cons (ps_set (i := 8) sc_Chain___init__.nd rfl (by first | exact Or.inl rfl | exact Or.inr rfl) (pe_tupleK K rfl B.tuple (pe_callB (cl_srtI K) rfl B.sorted (by decide +kernel) (pa_cons (pe_ix (ix_tK K) (pv 6) (pe_int) (fun _ _ => rfl)) pa_nil))))
        (pss_one (ps_dput (hu_of hr) (pv 4) (pv 8) (pe_op op_add (pe_dget2 (hu_of hr) (pv 4) (pv 8) (pe_int) ⟨rfl, rfl, rfl, rfl⟩) (pe_op op_mul (pe_ix (ix_tK K) (pv 6) (pe_int) (fun _ _ => rfl)) (pe_callH G_order_sign hr (by decide) rfl (pa_cons (pe_ix (ix_tK K) (pv 6) (pe_int) (fun _ _ => rfl)) pa_nil)))) rfl))))))
        (pss_cons (ps_fld (pv 0) (pv 1) rfl)
        (pss_cons (ps_fld (pv 0) (pv 2) rfl)
        (pss_one (ps_fld (pv 0) (pe_tupleK K rfl B.tuple (pe_lc (own := [("room", 8)]) (by rfl) sc_Chain___init__.nd (pi_lK K (pe_callB (cl_srtD K) rfl B.sorted (by decide +kernel) (pa_cons (pv 4) pa_nil))) (blkOk_by (N := ["self", "places", "degree", "terms", "sums", "at", "term", "fault", "room"]) (sc := (defScope s_Chain___init__)) (by decide +kernel)) (fun _ _ _ _ _ => pg_name (i := 8) sc_Chain___init__.nd rfl (by first | exact Or.inl rfl | exact Or.inr rfl)) (fun _ _ _ _ _ => pts_one (pt_cmpR op_ne (pe_dget (hu_of hr) (pv 4) (pv 8) (fun _ _ => rfl)) (pe_int) (nomark _))) (fun _ _ _ _ _ => pe_tup (pa_cons (pv 8) (pa_cons (pe_dget (hu_of hr) (pv 4) (pv 8) (fun _ _ => rfl)) pa_nil))))) rfl)))))))), ?_⟩)
  rintro a ds fs ⟨pl, dg, ts, h1, h2, hl, hg, rfl, rfl⟩
  obtain ⟨mc, rd, u, cv⟩ := Z.rd
  apply sd_seq
  apply sd_if
  · walk_at "evd"
    · exact rd
    · exact cv
  · intro c
    simp at c
    omega
  intro _
  apply sd_next
  apply sd_seq
  apply sd_if
  · walk_at "evd"
  · intro c
    simp at c
    omega
  intro _
  apply sd_next
  apply sd_seq
  apply sd_setM
  · walk_at "evd"
  apply sd_seq
  apply sd_for (e := fun i : Nat => D.tup [.int (i : Nat), dT (ts.getD i ([], 0))]) (items := List.range ts.length) (Inv := fun i ρ => ∃ l x y z t, ρ = [.mo a CC [], .im (.int pl), .im (.int (dg : Nat)), .im (dTs ts), .md (emb D.int l), x, y, z, t] ∧ l = (ts.take i).foldl sumS [] ∧ l.length ≤ i)
  · rw [← enD_map]
    walk_at "evd"
  · exact ⟨[], _, _, _, _, rfl, rfl, Nat.le_refl _⟩
  · rintro i n ρ1 ha ⟨l, x, y, z, t, rfl, hk1, hk⟩
    obtain rfl := rng_at ha
    have hi := rng_lt ha
    have hget : ts[i]? = some (ts.getD i ([], 0)) := by rw [List.getElem?_eq_getElem hi, List.getD_eq_getElem?_getD, List.getElem?_eq_getElem hi]; rfl
    have G := hg _ (List.mem_of_getElem? hget)
    refine ⟨_, _, gd_two, ?_⟩
    apply sd_seq
    apply sd_setE (d := .str "")
    · walk_at "evd"
      exact ⟨G.few, G.nd⟩
    · rw [rfault_good G]
    apply sd_seq
    apply sd_if
    · walk_at "evd"
    · intro c
      simp at c
    intro _
    apply sd_next
    apply sd_seq
    apply sd_set
    · walk_at "evd"
    apply sd_dputE (b := (getA l (sortI (ts.getD i ([], 0)).1)).getD 0 + (ts.getD i ([], 0)).2 * osign (ts.getD i ([], 0)).1)
    · rfl
    · walk_at "evd"
      · exact G.few
      · exact osign_mul _ _
    · rfl
    · walk_at "evd"
    · omega
    · refine ⟨_, _, _, _, _, rfl, ?_, ?_⟩
      · rw [take_fold hget, ← hk1]
        rfl
      · exact Nat.le_trans (len_putA _ _ _) (Nat.succ_le_succ hk)
  · rintro ρ1 ⟨l, x, y, z, t, rfl, hk1, hk⟩
    rw [List.length_range] at hk1 hk
    rw [List.take_length] at hk1
    obtain rfl : l = sumA ts := hk1
    have hkeys := sumA_keys (n := dg) fun t ht => (hg t ht).len
    apply sd_seq
    apply sd_fld
    · rfl
    · walk_at "evd"
    · exact Z.cC
    · exact Z.nC _ (by simp)
    · walk_at "few"
    apply sd_seq
    apply sd_fld
    · rfl
    · walk_at "evd"
    · exact Z.cC
    · exact Z.nC _ (by simp)
    · walk_at "few"
    apply sd_frz (i := 4) rfl rfl
    apply sd_fld
    · rfl
    · walk_at "evd"
      · exact fun h => one_key (sumA_nd ts) hkeys (by rw [List.length_map]; exact h)
      · exact mem_sortR.mp (by assumption)
      · exact mem_sortR.mp (by assumption)
      · exact (by decide : 2 ≤ sizeLine)
      · rw [(sortBy_perm llt _).length_eq, List.length_map]
        omega
    · exact Z.cC
    · exact Z.nC _ (by simp)
    · walk_at "few"
    · refine ⟨_, rfl, ?_⟩
      show some (Ent.mo a CC [("places", .int pl), ("degree", .int (dg : Nat)), ("terms", .tup _)]) = some (Ent.mo a CC (chainF pl dg (chT ts)))
      unfold chainF chT
      rw [List.map_map]
      rfl
/-! ### methods -/
theorem r_Book_init {pl : Int} {sz : Nat} {rs : List (List Int)} (h : 1 ≤ pl ∧ pl ≤ 12 ∧ 1 ≤ sz ∧ (sz : Int) ≤ pl ∧ rs.length ≤ 1000 ∧ (∀ r ∈ rs, Good pl sz r) ∧ (rs.map sortI).Nodup) : R_Book_init [.int pl, .int ((sz : Nat) : Int), .lst (rs.map fun r => .tup (r.map D.int))] (bookF pl sz (sortR (rs.map sortI))) := ⟨pl, sz, rs, h.1, h.2.1, h.2.2.1, h.2.2.2.1, h.2.2.2.2.1, h.2.2.2.2.2.1, h.2.2.2.2.2.2, rfl, rfl⟩
theorem r_Chain_init {pl : Int} {dg : Nat} {ts : List (List Int × Int)} (h : 1 ≤ pl ∧ pl ≤ 12 ∧ ts.length ≤ 1000 ∧ ∀ t ∈ ts, Good pl dg t.1) : R_Chain_init [.int pl, .int ((dg : Nat) : Int), .lst (ts.map dT)] (chainF pl dg (chT ts)) := ⟨pl, dg, ts, h.1, h.2.1, h.2.2.1, h.2.2.2, rfl, rfl⟩
abbrev dBook (CB : Addr) (pl : Int) (sz : Nat) (rs : List (List Int)) : D := .obj CB (bookF pl sz rs)
abbrev dChain (CC : Addr) (pl : Int) (dg : Nat) (ts : List (List Int × Int)) : D := .obj CC (chainF pl dg ts)
theorem cnt_fold (L : List (List Int)) : ∀ (l : List (List Int × Int)) (f : List Int), (getA (L.foldl (fun l f => putA l f ((getA l f).getD 0 + 1)) l) f).getD 0 = (getA l f).getD 0 + (L.count f : Nat) := by
  induction L with
  | nil => intro l f; simp
  | cons a L ih =>
    intro l f
    rw [List.foldl_cons, ih, getA_putA, List.count_cons]
    by_cases h : f = a
    · subst h
      rw [if_pos rfl, if_pos (by simp)]
      simp only [Option.getD_some]
      omega
    · rw [if_neg h, if_neg (by simpa using fun z => h z.symm)]
      simp
theorem keys_fold (L : List (List Int)) : ∀ (l : List (List Int × Int)) (f : List Int), f ∈ (L.foldl (fun l f => putA l f ((getA l f).getD 0 + 1)) l).map (·.1) ↔ f ∈ l.map (·.1) ∨ f ∈ L := by
  induction L with
  | nil => intro l f; simp
  | cons a L ih =>
    intro l f
    rw [List.foldl_cons, ih, keys_putA, List.mem_cons]
    split
    · constructor
      · rintro (h | h)
        · exact Or.inl h
        · exact Or.inr (Or.inr h)
      · rintro (h | h | h)
        · exact Or.inl h
        · subst h; exact Or.inl (by assumption)
        · exact Or.inr h
    · rw [List.mem_append, List.mem_singleton]
      constructor
      · rintro ((h | h) | h)
        · exact Or.inl h
        · exact Or.inr (Or.inl h)
        · exact Or.inr (Or.inr h)
      · rintro (h | h | h)
        · exact Or.inl (Or.inl h)
        · exact Or.inl (Or.inr h)
        · exact Or.inr h
theorem nodup_fold (L : List (List Int)) : ∀ (l : List (List Int × Int)), (l.map (·.1)).Nodup → ((L.foldl (fun l f => putA l f ((getA l f).getD 0 + 1)) l).map (·.1)).Nodup := by
  induction L with
  | nil => exact fun l h => h
  | cons a L ih =>
    intro l h
    refine ih _ ?_
    rw [keys_putA]
    split
    · exact h
    · rename_i hn
      rw [List.nodup_append]
      exact ⟨h, List.nodup_cons.mpr ⟨(by simp), List.nodup_nil⟩, fun x hx y hy e => hn (by rw [← List.mem_singleton.mp hy, ← e]; exact hx)⟩
theorem fcnt_get (rs : List (List Int)) (f : List Int) : (getA (fcnt rs) f).getD 0 = ((rs.flatMap fcs).count f : Nat) := by
  unfold fcnt
  rw [cnt_fold]
  show (0 : Int) + _ = _
  omega
theorem fcnt_keys (rs : List (List Int)) (f : List Int) : f ∈ (fcnt rs).map (·.1) ↔ f ∈ rs.flatMap fcs := by
  unfold fcnt
  rw [keys_fold]
  simp
theorem fcnt_nd (rs : List (List Int)) : ((fcnt rs).map (·.1)).Nodup := nodup_fold _ [] List.nodup_nil
theorem fcnt_len {rs : List (List Int)} (h : ∀ r ∈ rs, r.length ≤ 100) : (fcnt rs).length ≤ rs.length * 100 := by
  have h1 : (fcnt rs).length ≤ (rs.flatMap fcs).length := by
    have := nodup_le (fcnt_nd rs) fun f hf => (fcnt_keys rs f).mp hf
    rwa [List.length_map] at this
  refine Nat.le_trans h1 ?_
  clear h1
  induction rs with
  | nil => simp
  | cons r rs ih =>
    rw [List.flatMap_cons, List.length_append, List.length_cons]
    have h2 : (fcs r).length ≤ 100 := by
      unfold fcs
      rw [List.length_map, List.length_range]
      exact h r List.mem_cons_self
    have := ih fun q hq => h q (List.mem_cons_of_mem _ hq)
    omega
theorem fcs_len {r f : List Int} (h : f ∈ fcs r) : f.length + 1 = r.length := by
  unfold fcs at h
  obtain ⟨k, hk, rfl⟩ := List.mem_map.mp h
  have := List.mem_range.mp hk
  rw [List.length_append, List.length_take, List.length_drop]
  omega
def R_odd_faces (CB : Addr) (ds : List D) (d : D) : Prop := ∃ (pl : Int) (sz : Nat) (rs : List (List Int)), 1 ≤ sz ∧ rs.length ≤ 1000 ∧ (∀ r ∈ rs, r.length = sz ∧ sz ≤ 100) ∧ ds = [dBook CB pl sz rs] ∧ d = dRs (sortR (((fcnt rs).map (·.1)).filter fun f => decide (((getA (fcnt rs) f).getD 0) % 2 = 1)))
theorem sc_Book_odd_faces : FnScope ["self", "counts", "face"] ["self"] (defScope s_Book_odd_faces) := ⟨rfl, rfl, rfl, by decide +kernel, rfl, by decide +kernel, by decide +kernel⟩
theorem ok_odd_faces {fO : Addr} (T : AtM K "odd_faces" "Book.odd_faces" fO s_Book_odd_faces ["self"]) (B : Bi mg) (Z : Zs K mg CB CC) (G_face_counts : Has P w K mg base CX0 "face_counts" 2 ["rooms"] (spD K R_face_counts)) : ∃ fd, FnOk P w K mg base CX0 3 fO fd ["self"] (spD K (R_odd_faces CB)) ∧ Binds K fd ["self"] [] := by
  refine ok_M T sc_Book_odd_faces (fun ds d h => by obtain ⟨_, _, _, _, _, _, rfl, _⟩ := h; rfl) (fun cdv A outer s H E hr => ⟨_, (pss_cons (ps_set (i := 1) sc_Book_odd_faces.nd rfl (by first | exact Or.inl rfl | exact Or.inr rfl) (pe_callH G_face_counts hr (by decide) rfl (pa_cons (pe_fldK K (pv 0)) pa_nil)))
        (pss_one (ps_ret (pe_callB (cl_srtR K) rfl B.sorted (by decide +kernel) (pa_cons (pe_lock (pe_lc (own := [("face", 2)]) (by rfl) sc_Book_odd_faces.nd (pi_keys (pv 1)) (blkOk_by (N := ["self", "counts", "face"]) (sc := (defScope s_Book_odd_faces)) (by decide +kernel)) (fun _ _ _ _ _ => pg_name (i := 2) sc_Book_odd_faces.nd rfl (by first | exact Or.inl rfl | exact Or.inr rfl)) (fun _ _ _ _ _ => pts_one (pt_cmpR op_eq (pe_op op_mod (pe_dget (hu_of hr) (pv 1) (pv 2) (fun _ _ => rfl)) (pe_int)) (pe_int) (nomark _))) (fun _ _ _ _ _ => pv 2))) pa_nil))))), ?_⟩)
  rintro ds d ⟨pl, sz, rs, hz, hl, hb, rfl, rfl⟩
  apply sd_seq
  apply sd_set
  · walk_at "evd"
    · exact Z.cB
    · exact Z.nB _ (by simp)
    · exact ⟨hl, fun r hr => (hb r hr).1 ▸ (hb r hr).2⟩
  have hfl : (fcnt rs).length ≤ 1000 * 100 := Nat.le_trans (fcnt_len fun r hr => (hb r hr).1 ▸ (hb r hr).2) (Nat.mul_le_mul_right _ hl)
  apply sd_retE (p := Or.inl rfl)
  · walk_at "evd"
    · exact fun b => by rw [D.nd]
    · assumption
    · decide
    · exact fun r _ => nd_R r
    · omega
    · refine fun h2 => one_key (n := sz - 1) ((fcnt_nd rs).filter _) (fun r hr => ?_) h2
      obtain ⟨q, hq, hf⟩ := List.mem_flatMap.mp ((fcnt_keys rs r).mp (List.mem_filter.mp hr).1)
      have := fcs_len hf
      have := (hb q hq).1
      omega
  · rfl
theorem r_odd_faces {pl : Int} {sz : Nat} {rs : List (List Int)} (h : 1 ≤ sz ∧ rs.length ≤ 1000 ∧ ∀ r ∈ rs, r.length = sz ∧ sz ≤ 100) : R_odd_faces CB [.obj CB (bookF pl sz rs)] (.lst ((sortR (((fcnt rs).map (·.1)).filter fun f => decide (((getA (fcnt rs) f).getD 0) % 2 = 1))).map fun r => .tup (r.map D.int))) := ⟨pl, sz, rs, h.1, h.2.1, h.2.2, rfl, rfl⟩
local macro_rules | `(tactic| walk_at "rel") => `(tactic| first | with_reducible apply r_odd_faces | with_reducible apply r_Book_init | with_reducible apply r_Chain_init)
local macro_rules | `(tactic| walk_at "fact") => `(tactic| first | exact Zs.cB (by assumption) | exact Zs.cC (by assumption) | exact Zs.nB (by assumption) _ (by simp) | exact Zs.nC (by assumption) _ (by simp))
theorem sortR_nil : sortR [] = [] := (sortBy_perm llt []).eq_nil
def R_is_even (CB : Addr) (ds : List D) (d : D) : Prop := ∃ (pl : Int) (sz : Nat) (rs : List (List Int)), 1 ≤ sz ∧ rs.length ≤ 1000 ∧ (∀ r ∈ rs, r.length = sz ∧ sz ≤ 100) ∧ (∀ f ∈ (fcnt rs).map (·.1), (getA (fcnt rs) f).getD 0 = 2) ∧ ds = [dBook CB pl sz rs] ∧ d = .bl true
theorem sc_Book_is_even : FnScope ["self"] ["self"] (defScope s_Book_is_even) := ⟨rfl, rfl, rfl, by decide +kernel, rfl, by decide +kernel, by decide +kernel⟩
theorem ok_is_even {fO : Addr} (T : AtM K "is_even" "Book.is_even" fO s_Book_is_even ["self"]) (B : Bi mg) (Z : Zs K mg CB CC) (G_Book_odd_faces : HasM P w K mg base CB "odd_faces" 3 (spD K (R_odd_faces CB))) : ∃ fd, FnOk P w K mg base CX0 4 fO fd ["self"] (spD K (R_is_even CB)) ∧ Binds K fd ["self"] [] := by
  refine ok_M T sc_Book_is_even (fun ds d h => by obtain ⟨_, _, _, _, _, _, _, rfl, _⟩ := h; rfl) (fun cdv A outer s H E hr => ⟨_, (pss_one (ps_ret (pe_cmpR op_eq (pe_callB (cl_len K) rfl B.len PySem.boot_len (pa_cons (pe_methH G_Book_odd_faces hr (by decide) (pv 0)) pa_nil)) (pe_int) (nomark _)))), ?_⟩)
  rintro ds d ⟨pl, sz, rs, hz, hl, hb, h2, rfl, rfl⟩
  apply sd_retE (p := Or.inl rfl)
  · walk_at "evd"
    exact ⟨hz, hl, hb⟩
  · have : (((fcnt rs).map (·.1)).filter fun f => decide (((getA (fcnt rs) f).getD 0) % 2 = 1)) = [] := by
      rw [List.filter_eq_nil_iff]
      intro f hf
      rw [h2 f hf]
      decide
    rw [this, sortR_nil]
    rfl
theorem sc_Book_is_two_each : FnScope ["self", "counts", "face"] ["self"] (defScope s_Book_is_two_each) := ⟨rfl, rfl, rfl, by decide +kernel, rfl, by decide +kernel, by decide +kernel⟩
theorem ok_is_two_each {fO : Addr} (T : AtM K "is_two_each" "Book.is_two_each" fO s_Book_is_two_each ["self"]) (B : Bi mg) (Z : Zs K mg CB CC) (G_face_counts : Has P w K mg base CX0 "face_counts" 2 ["rooms"] (spD K R_face_counts)) : ∃ fd, FnOk P w K mg base CX0 3 fO fd ["self"] (spD K (R_is_even CB)) ∧ Binds K fd ["self"] [] := by
  refine ok_M T sc_Book_is_two_each (fun ds d h => by obtain ⟨_, _, _, _, _, _, _, rfl, _⟩ := h; rfl) (fun cdv A outer s H E hr => ⟨_, (pss_cons (ps_set (i := 1) sc_Book_is_two_each.nd rfl (by first | exact Or.inl rfl | exact Or.inr rfl) (pe_callH G_face_counts hr (by decide) rfl (pa_cons (pe_fldK K (pv 0)) pa_nil)))
        (pss_one (ps_ret (pe_cmpR op_eq (pe_callB (cl_len K) rfl B.len PySem.boot_len (pa_cons (pe_lock (pe_lc (own := [("face", 2)]) (by rfl) sc_Book_is_two_each.nd (pi_keys (pv 1)) (blkOk_by (N := ["self", "counts", "face"]) (sc := (defScope s_Book_is_two_each)) (by decide +kernel)) (fun _ _ _ _ _ => pg_name (i := 2) sc_Book_is_two_each.nd rfl (by first | exact Or.inl rfl | exact Or.inr rfl)) (fun _ _ _ _ _ => pts_one (pt_cmpR op_ne (pe_dget (hu_of hr) (pv 1) (pv 2) (fun _ _ => rfl)) (pe_int) (nomark _))) (fun _ _ _ _ _ => pv 2))) pa_nil)) (pe_int) (nomark _))))), ?_⟩)
  rintro ds d ⟨pl, sz, rs, hz, hl, hb, h2, rfl, rfl⟩
  apply sd_seq
  apply sd_set
  · walk_at "evd"
    exact ⟨hl, fun r hr => (hb r hr).1 ▸ (hb r hr).2⟩
  have hfl : (fcnt rs).length ≤ 1000 * 100 := Nat.le_trans (fcnt_len fun r hr => (hb r hr).1 ▸ (hb r hr).2) (Nat.mul_le_mul_right _ hl)
  apply sd_retE (p := Or.inl rfl)
  · walk_at "evd"
    · exact fun b => by rw [D.nd]
    · assumption
    · exact fun r _ => nd_R r
    · omega
  · have : (((fcnt rs).map (·.1)).filter fun f => !decide (((getA (fcnt rs) f).getD 0) = 2)) = [] := by
      rw [List.filter_eq_nil_iff]
      intro f hf
      rw [h2 f hf]
      decide
    rw [this]
    rfl
def R_Book_eq (CB : Addr) (ds : List D) (d : D) : Prop := ∃ (pl : Int) (sz : Nat) (rs : List (List Int)), ds = [dBook CB pl sz rs, dBook CB pl sz rs] ∧ d = .bl true
theorem sc_Book___eq__ : FnScope ["self", "other"] ["self", "other"] (defScope s_Book___eq__) := ⟨rfl, rfl, rfl, by decide +kernel, rfl, by decide +kernel, by decide +kernel⟩
theorem ok_Book_eq {fO : Addr} (T : AtM K "__eq__" "Book.__eq__" fO s_Book___eq__ ["self", "other"]) (B : Bi mg) (Z : Zs K mg CB CC) : ∃ fd, FnOk P w K mg base CX0 1 fO fd ["self", "other"] (spD K (R_Book_eq CB)) ∧ Binds K fd ["self", "other"] [] := by
  refine ok_M T sc_Book___eq__ (fun ds d h => by obtain ⟨_, _, _, rfl, _⟩ := h; rfl) (fun cdv A outer s H E hr => ⟨_, (pss_one (ps_ret (pe_and (pe_callB (cl_isi K) rfl B.isinstance (by decide +kernel) (pa_cons (pv 1) (pa_cons (pe_glob (v := .ref CB) rfl Z.Book rfl) pa_nil))) (pe_and (pe_cmpR op_eq (pe_fldK K (pv 0)) (pe_fldK K (pv 1)) (nomark _)) (pe_and (pe_cmpR op_eq (pe_fldK K (pv 0)) (pe_fldK K (pv 1)) (nomark _)) (pe_one (pe_cmpR (op_eqK K hr) (pe_fldK K (pv 0)) (pe_fldK K (pv 1)) (nomark _)))))))), ?_⟩)
  rintro ds d ⟨pl, sz, rs, rfl, rfl⟩
  apply sd_retE (p := Or.inl rfl)
  · walk_at "evd"
    · exact Z.iB
    · exact Z.kB
  · simp
def R_Chain_len (CC : Addr) (ds : List D) (d : D) : Prop := ∃ (pl : Int) (dg : Nat) (ts : List (List Int × Int)), ds = [dChain CC pl dg ts] ∧ d = .int (ts.length : Nat)
theorem sc_Chain___len__ : FnScope ["self"] ["self"] (defScope s_Chain___len__) := ⟨rfl, rfl, rfl, by decide +kernel, rfl, by decide +kernel, by decide +kernel⟩
theorem ok_Chain_len {fO : Addr} (T : AtM K "__len__" "Chain.__len__" fO s_Chain___len__ ["self"]) (B : Bi mg) (Z : Zs K mg CB CC) : ∃ fd, FnOk P w K mg base CX0 1 fO fd ["self"] (spD K (R_Chain_len CC)) ∧ Binds K fd ["self"] [] := by
  refine ok_M T sc_Chain___len__ (fun ds d h => by obtain ⟨_, _, _, rfl, _⟩ := h; rfl) (fun cdv A outer s H E hr => ⟨_, (pss_one (ps_ret (pe_callB (cl_len K) rfl B.len PySem.boot_len (pa_cons (pe_fldK K (pv 0)) pa_nil)))), ?_⟩)
  rintro ds d ⟨pl, dg, ts, rfl, rfl⟩
  apply sd_retE (p := Or.inl rfl)
  · walk_at "evd"
  · rw [List.length_map]
def R_Chain_abs (CC : Addr) (ds : List D) (d : D) : Prop := ∃ (pl : Int) (dg : Nat) (ts : List (List Int × Int)), ts.length ≤ 1000 ∧ ds = [dChain CC pl dg ts] ∧ d = .int (ts.map fun t => if t.2 < 0 then -t.2 else t.2).sum
theorem sc_Chain___abs__ : FnScope ["self", "_", "coefficient"] ["self"] (defScope s_Chain___abs__) := ⟨rfl, rfl, rfl, by decide +kernel, rfl, by decide +kernel, by decide +kernel⟩
theorem ok_Chain_abs {fO : Addr} (T : AtM K "__abs__" "Chain.__abs__" fO s_Chain___abs__ ["self"]) (B : Bi mg) (Z : Zs K mg CB CC) : ∃ fd, FnOk P w K mg base CX0 1 fO fd ["self"] (spD K (R_Chain_abs CC)) ∧ Binds K fd ["self"] [] := by
  refine ok_M T sc_Chain___abs__ (fun ds d h => by obtain ⟨_, _, _, _, rfl, _⟩ := h; rfl) (fun cdv A outer s H E hr => ⟨_, (pss_one (ps_ret (pe_callB (cl_sum K) rfl B.sum (by decide +kernel) (pa_cons (pe_lc (own := [("_", 1), ("coefficient", 2)]) (by rfl) sc_Chain___abs__.nd (pi_tK K (pe_fldK K (pv 0))) (blkOk_by (N := ["self", "_", "coefficient"]) (sc := (defScope s_Chain___abs__)) (by decide +kernel)) (fun _ _ _ _ _ => pg_tupK K (n := 2) rfl (pgs_cons (pg_name (i := 1) sc_Chain___abs__.nd rfl (by first | exact Or.inl rfl | exact Or.inr rfl)) (pgs_cons (pg_name (i := 2) sc_Chain___abs__.nd rfl (by first | exact Or.inl rfl | exact Or.inr rfl)) pgs_nil))) (fun _ _ _ _ _ => pts_nil) (fun _ _ _ _ _ => pe_callB call_abs rfl B.abs (by decide +kernel) (pa_cons (pv 2) pa_nil))) pa_nil)))), ?_⟩)
  rintro ds d ⟨pl, dg, ts, hl, rfl, rfl⟩
  apply sd_retE (p := Or.inl rfl)
  · walk_at "evd"
    · omega
    · rw [filt_true]
      exact (List.map_map (f := fun t : List Int × Int => if t.2 < 0 then -t.2 else t.2) (g := D.int)).symm
  · rfl
/-- the terms of a boundary, as they come -/
def bdRow (t : List Int × Int) : List (List Int × Int) := (List.range t.1.length).map fun k => ((fcs t.1).getD k [], t.2 * (1 - 2 * (((k : Nat) : Int) % 2)))
def bdT (ts : List (List Int × Int)) : List (List Int × Int) := ts.flatMap bdRow
theorem fcs_length (r : List Int) : (fcs r).length = r.length := by unfold fcs; rw [List.length_map, List.length_range]
theorem fcs_mem {r : List Int} {k : Nat} (h : k < r.length) : (fcs r).getD k [] ∈ fcs r := by
  rw [List.getD_eq_getElem?_getD, List.getElem?_eq_getElem (by rw [fcs_length]; exact h)]
  exact List.getElem_mem _
theorem fcs_sub {r f : List Int} (h : f ∈ fcs r) : f.Sublist r := by
  unfold fcs at h
  obtain ⟨k, _, rfl⟩ := List.mem_map.mp h
  have e : r.take k ++ r.drop k = r := List.take_append_drop k r
  have h2 : (r.drop (k + 1)).Sublist (r.drop k) := by
    rw [← List.drop_drop]
    exact List.drop_sublist _ _
  exact (List.Sublist.append_left h2 (r.take k)).trans (by rw [e]; exact List.Sublist.refl _)
theorem Good.face {pl : Int} {n : Nat} {r f : List Int} (G : Good pl n r) (h : f ∈ fcs r) : Good pl (n - 1) f := by
  have h1 := fcs_len h
  have h2 := G.len
  have h3 := G.few
  exact ⟨by omega, by omega, (fcs_sub h).nodup G.nd, fun p hp => G.bd p ((fcs_sub h).subset hp)⟩
def R_boundary (CC : Addr) (ds : List D) (d : D) : Prop := ∃ (pl : Int) (dg : Nat) (ts : List (List Int × Int)), 1 ≤ pl ∧ pl ≤ 12 ∧ 1 ≤ dg ∧ ts.length ≤ 1000 ∧ (bdT ts).length ≤ 1000 ∧ (∀ t ∈ ts, Good pl dg t.1) ∧ ds = [dChain CC pl dg ts] ∧ d = dChain CC pl (dg - 1) (chT (bdT ts))
theorem sc_Chain_boundary : FnScope ["self", "terms", "room", "coefficient", "k", "face"] ["self"] (defScope s_Chain_boundary) := ⟨rfl, rfl, rfl, by decide +kernel, rfl, by decide +kernel, by decide +kernel⟩
theorem ok_boundary {fO : Addr} (T : AtM K "boundary" "Chain.boundary" fO s_Chain_boundary ["self"]) (B : Bi mg) (Z : Zs K mg CB CC) (G_faces : Has P w K mg base CX0 "faces" 1 ["room"] (spD K R_faces)) (G_Chain : HasI P w K mg base "Chain" CC 2 ["self", "places", "degree", "terms"] (spI K CC R_Chain_init)) : ∃ fd, FnOk P w K mg base CX0 4 fO fd ["self"] (spD K (R_boundary CC)) ∧ Binds K fd ["self"] [] := by
  refine ok_M T sc_Chain_boundary (fun ds d h => by obtain ⟨_, _, _, _, _, _, _, _, _, rfl, _⟩ := h; rfl) (fun cdv A outer s H E hr => ⟨_, (pss_cons (ps_if (pt_cmpR op_eq (pe_fldK K (pv 0)) (pe_int) (nomark _)) (pss_one (ps_never)) (pss_nil))
        (pss_cons (ps_set (i := 1) sc_Chain_boundary.nd rfl (by first | exact Or.inl rfl | exact Or.inr rfl) (pe_lst pa_nil))
        (pss_cons (ps_for PassesOwn.never rfl (pi_tK K (pe_fldK K (pv 0))) (pg_tupK K (n := 2) rfl (pgs_cons (pg_name (i := 2) sc_Chain_boundary.nd rfl (by first | exact Or.inl rfl | exact Or.inr rfl)) (pgs_cons (pg_name (i := 3) sc_Chain_boundary.nd rfl (by first | exact Or.inl rfl | exact Or.inr rfl)) pgs_nil))) (pss_one (ps_for PassesOwn.never rfl (pi_enumK K rfl B.enumerate (pa_cons (pe_callH G_faces hr (by decide) rfl (pa_cons (pv 2) pa_nil)) pa_nil)) (pg_tupK K (n := 2) rfl (pgs_cons (pg_name (i := 4) sc_Chain_boundary.nd rfl (by first | exact Or.inl rfl | exact Or.inr rfl)) (pgs_cons (pg_name (i := 5) sc_Chain_boundary.nd rfl (by first | exact Or.inl rfl | exact Or.inr rfl)) pgs_nil))) (pss_one (ps_expr (pe_appendK K (pv 1) (pa_cons (pe_tup (pa_cons (pv 5) (pa_cons (pe_op op_mul (pv 3) (pe_op op_sub (pe_int) (pe_op op_mul (pe_int) (pe_op op_mod (pv 4) (pe_int))))) pa_nil))) pa_nil)))))))
        (pss_one (ps_ret (pe_makeH G_Chain hr (by decide) rfl (pa_cons (pe_fldK K (pv 0)) (pa_cons (pe_op op_sub (pe_fldK K (pv 0)) (pe_int)) (pa_cons (pv 1) pa_nil))))))))), ?_⟩)
  rintro ds d ⟨pl, dg, ts, h1, h2, h3, hl, hbl, hg, rfl, rfl⟩
  apply sd_seq
  apply sd_if
  · walk_at "evd"
  · intro c
    simp at c
    omega
  intro _
  apply sd_next
  apply sd_seq
  apply sd_setN
  · walk_at "evn"
    all_goals walk_at "bnd"
  apply sd_seq
  apply sd_for (e := dT) (items := ts) (Inv := fun i ρ => ∃ l x y z t, ρ = [.im (dChain CC pl dg ts), .ml (l.map dT), x, y, z, t] ∧ l = (ts.take i).flatMap bdRow)
  · walk_at "evd"
  · exact ⟨[], _, _, _, _, rfl, rfl⟩
  · rintro i tm ρ1 ha ⟨l, x, y, z, t, rfl, hl1⟩
    have G := hg _ (List.mem_of_getElem? ha)
    refine ⟨_, _, gd_two, ?_⟩
    apply sd_for (e := fun k : Nat => D.tup [.int (k : Nat), dR ((fcs tm.1).getD k [])]) (items := List.range tm.1.length) (Inv := fun j ρ => ∃ l' z t, ρ = [.im (dChain CC pl dg ts), .ml (l'.map dT), .im (dR tm.1), .im (.int tm.2), z, t] ∧ l' = l ++ (bdRow tm).take j)
    · rw [← fcs_length, ← enD_map]
      walk_at "evd"
      exact G.few
    · exact ⟨l, _, _, rfl, by simp⟩
    · rintro j k ρ2 hk ⟨l', z', t', rfl, hl2⟩
      obtain rfl := rng_at hk
      have hj := rng_lt hk
      refine ⟨_, _, gd_two, ?_⟩
      apply sd_appE (b := ((fcs tm.1).getD j [], tm.2 * (1 - 2 * (((j : Nat) : Int) % 2))))
      · rfl
      · walk_at "evd"
        · decide
        · exact Or.inl (by omega)
        · exact Or.inr (by omega)
        · exact (by decide : 2 ≤ sizeLine)
      · rfl
      · rw [hl2, hl1, List.length_append, List.length_take]
        have e1 : (ts.take i).flatMap bdRow ++ (bdRow tm) = (ts.take (i + 1)).flatMap bdRow := by rw [List.take_succ, ha, Option.toList_some, List.flatMap_append]; simp
        have e2 : ((ts.take (i + 1)).flatMap bdRow).length ≤ (bdT ts).length := by
          unfold bdT
          have : ts.flatMap bdRow = (ts.take (i + 1)).flatMap bdRow ++ (ts.drop (i + 1)).flatMap bdRow := by rw [← List.flatMap_append, List.take_append_drop]
          rw [this, List.length_append]
          omega
        rw [← e1, List.length_append] at e2
        omega
      · refine ⟨_, _, _, rfl, ?_⟩
        have hb : (bdRow tm)[j]? = some ((fcs tm.1).getD j [], tm.2 * (1 - 2 * (((j : Nat) : Int) % 2))) := by
          unfold bdRow
          rw [List.getElem?_map, List.getElem?_range hj]
          rfl
        rw [hl2, List.take_succ, hb, Option.toList_some, List.append_assoc]
    · rintro ρ2 ⟨l', z', t', rfl, hl2⟩
      refine ⟨l', _, _, _, _, rfl, ?_⟩
      have e : (bdRow tm).take tm.1.length = bdRow tm := List.take_of_length_le (by unfold bdRow; rw [List.length_map, List.length_range]; exact Nat.le_refl _)
      rw [hl2, hl1, List.length_range, List.take_succ, ha, Option.toList_some, List.flatMap_append, e]
      simp
  · rintro ρ1 ⟨l, x, y, z, t, rfl, hl1⟩
    rw [List.take_length] at hl1
    obtain rfl : l = bdT ts := hl1
    apply sd_frz (i := 1) rfl rfl
    have hdg : ((dg : Nat) : Int) - 1 = ((dg - 1 : Nat) : Int) := by omega
    apply sd_retE (p := Or.inl rfl)
    · apply evd_make
      · apply eva_cons
        · walk_at "evd"
        apply eva_cons
        · apply EvD.is
          · walk_at "evd"
          · rw [hdg]
        apply eva_cons
        · walk_at "evd"
        exact eva_nil
      · refine r_Chain_init ⟨h1, h2, hbl, fun t ht => ?_⟩
        obtain ⟨q, hq, hm⟩ := List.mem_flatMap.mp ht
        unfold bdRow at hm
        obtain ⟨k, hk, rfl⟩ := List.mem_map.mp hm
        exact (hg q hq).face (fcs_mem (List.mem_range.mp hk))
    · rfl
def oddR (ts : List (List Int × Int)) : List (List Int) := (ts.filter fun t => decide (t.2 % 2 = 1)).map (·.1)
def R_odd_book (CB CC : Addr) (ds : List D) (d : D) : Prop := ∃ (pl : Int) (dg : Nat) (ts : List (List Int × Int)), 1 ≤ pl ∧ pl ≤ 12 ∧ 1 ≤ dg ∧ (dg : Int) ≤ pl ∧ ts.length ≤ 1000 ∧ (∀ t ∈ ts, Good pl dg t.1) ∧ ((oddR ts).map sortI).Nodup ∧ ds = [dChain CC pl dg ts] ∧ d = dBook CB pl dg (sortR ((oddR ts).map sortI))
theorem sc_Chain_odd_book : FnScope ["self", "room", "coefficient"] ["self"] (defScope s_Chain_odd_book) := ⟨rfl, rfl, rfl, by decide +kernel, rfl, by decide +kernel, by decide +kernel⟩
theorem ok_odd_book {fO : Addr} (T : AtM K "odd_book" "Chain.odd_book" fO s_Chain_odd_book ["self"]) (B : Bi mg) (Z : Zs K mg CB CC) (G_Book : HasI P w K mg base "Book" CB 2 ["self", "places", "size", "rooms"] (spI K CB R_Book_init)) : ∃ fd, FnOk P w K mg base CX0 4 fO fd ["self"] (spD K (R_odd_book CB CC)) ∧ Binds K fd ["self"] [] := by
  refine ok_M T sc_Chain_odd_book (fun ds d h => by obtain ⟨_, _, _, _, _, _, _, _, _, _, rfl, _⟩ := h; rfl) (fun cdv A outer s H E hr => ⟨_, (pss_one (ps_ret (pe_makeH G_Book hr (by decide) rfl (pa_cons (pe_fldK K (pv 0)) (pa_cons (pe_fldK K (pv 0)) (pa_cons (pe_lc (own := [("room", 1), ("coefficient", 2)]) (by rfl) sc_Chain_odd_book.nd (pi_tK K (pe_fldK K (pv 0))) (blkOk_by (N := ["self", "room", "coefficient"]) (sc := (defScope s_Chain_odd_book)) (by decide +kernel)) (fun _ _ _ _ _ => pg_tupK K (n := 2) rfl (pgs_cons (pg_name (i := 1) sc_Chain_odd_book.nd rfl (by first | exact Or.inl rfl | exact Or.inr rfl)) (pgs_cons (pg_name (i := 2) sc_Chain_odd_book.nd rfl (by first | exact Or.inl rfl | exact Or.inr rfl)) pgs_nil))) (fun _ _ _ _ _ => pts_one (pt_cmpR op_eq (pe_op op_mod (pv 2) (pe_int)) (pe_int) (nomark _))) (fun _ _ _ _ _ => pv 1)) pa_nil)))))), ?_⟩)
  rintro ds d ⟨pl, dg, ts, h1, h2, h3, h4, hl, hg, hn, rfl, rfl⟩
  apply sd_retE (p := Or.inl rfl)
  · apply evd_make
    · apply eva_cons
      · walk_at "evd"
      apply eva_cons
      · walk_at "evd"
      apply eva_cons
      · apply EvD.is (d2 := dRs (oddR ts))
        · walk_at "evd"
          · decide
          · omega
        · show D.lst _ = D.lst _
          unfold oddR
          rw [List.map_map]
          rfl
      exact eva_nil
    · refine r_Book_init ⟨h1, h2, h3, h4, ?_, fun r hr => ?_, hn⟩
      · unfold oddR
        rw [List.length_map]
        exact Nat.le_trans (List.length_filter_le _ _) hl
      · obtain ⟨t, ht, rfl⟩ := List.mem_map.mp hr
        exact hg t (List.mem_filter.mp ht).1
  · rfl
theorem r_boundary {pl : Int} {dg : Nat} {ts : List (List Int × Int)} (h : 1 ≤ pl ∧ pl ≤ 12 ∧ 1 ≤ dg ∧ ts.length ≤ 1000 ∧ (bdT ts).length ≤ 1000 ∧ (∀ t ∈ ts, Good pl dg t.1)) : R_boundary CC [.obj CC (chainF pl dg ts)] (.obj CC (chainF pl (dg - 1) (chT (bdT ts)))) := ⟨pl, dg, ts, h.1, h.2.1, h.2.2.1, h.2.2.2.1, h.2.2.2.2.1, h.2.2.2.2.2, rfl, rfl⟩
theorem r_odd_book {pl : Int} {dg : Nat} {ts : List (List Int × Int)} (h : 1 ≤ pl ∧ pl ≤ 12 ∧ 1 ≤ dg ∧ (dg : Int) ≤ pl ∧ ts.length ≤ 1000 ∧ (∀ t ∈ ts, Good pl dg t.1) ∧ ((oddR ts).map sortI).Nodup) : R_odd_book CB CC [.obj CC (chainF pl dg ts)] (.obj CB (bookF pl dg (sortR ((oddR ts).map sortI)))) := ⟨pl, dg, ts, h.1, h.2.1, h.2.2.1, h.2.2.2.1, h.2.2.2.2.1, h.2.2.2.2.2.1, h.2.2.2.2.2.2, rfl, rfl⟩
theorem r_is_even {pl : Int} {sz : Nat} {rs : List (List Int)} (h : 1 ≤ sz ∧ rs.length ≤ 1000 ∧ (∀ r ∈ rs, r.length = sz ∧ sz ≤ 100) ∧ ∀ f ∈ (fcnt rs).map (·.1), (getA (fcnt rs) f).getD 0 = 2) : R_is_even CB [.obj CB (bookF pl sz rs)] (.bl true) := ⟨pl, sz, rs, h.1, h.2.1, h.2.2.1, h.2.2.2, rfl, rfl⟩
theorem r_Book_eq {pl : Int} {sz : Nat} {rs : List (List Int)} : R_Book_eq CB [.obj CB (bookF pl sz rs), .obj CB (bookF pl sz rs)] (.bl true) := ⟨pl, sz, rs, rfl, rfl⟩
theorem r_Chain_len {pl : Int} {dg : Nat} {ts : List (List Int × Int)} : R_Chain_len CC [.obj CC (chainF pl dg ts)] (.int (ts.length : Nat)) := ⟨pl, dg, ts, rfl, rfl⟩
theorem r_Chain_abs {pl : Int} {dg : Nat} {ts : List (List Int × Int)} (h : ts.length ≤ 1000) : R_Chain_abs CC [.obj CC (chainF pl dg ts)] (.int (ts.map fun t => if t.2 < 0 then -t.2 else t.2).sum) := ⟨pl, dg, ts, h, rfl, rfl⟩
local macro_rules | `(tactic| walk_at "rel") => `(tactic| first | with_reducible apply r_boundary | with_reducible apply r_odd_book | with_reducible apply r_is_even | with_reducible exact r_Chain_len | with_reducible apply r_Chain_abs)
def R_is_signed (CC : Addr) (ds : List D) (d : D) : Prop := ∃ (pl : Int) (dg : Nat) (ts : List (List Int × Int)), 1 ≤ pl ∧ pl ≤ 12 ∧ 1 ≤ dg ∧ ts.length ≤ 1000 ∧ (bdT ts).length ≤ 1000 ∧ (∀ t ∈ ts, Good pl dg t.1) ∧ (ts.map fun t => if t.2 < 0 then -t.2 else t.2).sum = ts.length ∧ chT (bdT ts) = [] ∧ ds = [dChain CC pl dg ts] ∧ d = .bl true
theorem sc_is_signed : FnScope ["chain"] ["chain"] (defScope s_is_signed) := ⟨rfl, rfl, rfl, by decide +kernel, rfl, by decide +kernel, by decide +kernel⟩
theorem ok_is_signed (T : At K mg "is_signed" s_is_signed ["chain"]) (B : Bi mg) (Z : Zs K mg CB CC) (G_Chain_boundary : HasM P w K mg base CC "boundary" 4 (spD K (R_boundary CC))) (G_Chain___len__ : HasS P w K mg base CC "__len__" 1 (spD K (R_Chain_len CC))) (G_Chain___abs__ : HasS P w K mg base CC "__abs__" 1 (spD K (R_Chain_abs CC))) : Has P w K mg base CX0 "is_signed" 5 ["chain"] (spD K (R_is_signed CC)) := by
  refine ok_H T sc_is_signed (fun ds d h => by obtain ⟨_, _, _, _, _, _, _, _, _, _, _, rfl, _⟩ := h; rfl) (fun f cdv A outer s H E hr => ⟨_, (pss_one (ps_ret (pe_and (pe_cmpR op_ge (pe_fldK K (pv 0)) (pe_int) (nomark _)) (pe_and (pe_cmpR op_eq (pe_absO G_Chain___abs__ hr (by decide) rfl B.abs (pv 0)) (pe_lenO G_Chain___len__ hr (by decide) rfl B.len (pv 0)) (nomark _)) (pe_one (pe_cmpR op_eq (pe_lenO G_Chain___len__ hr (by decide) rfl B.len (pe_methH G_Chain_boundary hr (by decide) (pv 0))) (pe_int) (nomark _))))))), ?_⟩)
  rintro ds d ⟨pl, dg, ts, h1, h2, h3, hl, hbl, hg, ha, hb, rfl, rfl⟩
  apply sd_retE (p := Or.inl rfl)
  · walk_at "evd"
    · exact hl
    · intro z; cases z
    · intro _; omega
    · exact ⟨h1, h2, h3, hl, hbl, hg⟩
    · intro _
      rw [hb]
      decide
  · rw [ha, hb]
    simp
    omega
theorem r_is_signed {pl : Int} {dg : Nat} {ts : List (List Int × Int)} (h : 1 ≤ pl ∧ pl ≤ 12 ∧ 1 ≤ dg ∧ ts.length ≤ 1000 ∧ (bdT ts).length ≤ 1000 ∧ (∀ t ∈ ts, Good pl dg t.1) ∧ (ts.map fun t => if t.2 < 0 then -t.2 else t.2).sum = ts.length ∧ chT (bdT ts) = []) : R_is_signed CC [.obj CC (chainF pl dg ts)] (.bl true) := ⟨pl, dg, ts, h.1, h.2.1, h.2.2.1, h.2.2.2.1, h.2.2.2.2.1, h.2.2.2.2.2.1, h.2.2.2.2.2.2.1, h.2.2.2.2.2.2.2, rfl, rfl⟩
end
end DL

set_option Elab.async false
set_option linter.all false
set_option maxRecDepth 100000
set_option maxHeartbeats 4000000
namespace DL
open PySem L2
local macro_rules | `(tactic| walk_at "evd") => `(tactic| first
  | with_reducible exact evd_int
  | with_reducible exact evd_str
  | with_reducible exact evd_bl
  | with_reducible exact evd_non
  | ((with_reducible apply evd_var); rfl)
  | walk_at "evn"
  | ((with_reducible apply EvN.ev); walk_at "evn")
  | ((with_reducible apply evd_op) <;> (try walk_at "evd"))
  | ((with_reducible apply evd_un) <;> (try walk_at "evd"))
  | ((with_reducible apply evb_test) <;> (try walk_at "evd"))
  | ((with_reducible apply evb_B) <;> (try walk_at "evd"))
  | with_reducible exact evb_yes
  | ((with_reducible apply evb_not) <;> (try walk_at "evd"))
  | ((with_reducible apply evb_and) <;> (try walk_at "evd"))
  | ((with_reducible apply evb_or) <;> (try walk_at "evd"))
  | ((with_reducible apply evd_andV) <;> (try walk_at "evd"))
  | ((with_reducible apply evd_orV) <;> (try walk_at "evd"))
  | ((with_reducible apply evd_notV) <;> (try walk_at "evd"))
  | ((with_reducible apply evd_chain) <;> (try walk_at "evd"))
  | walk_at "evd2")
local macro_rules | `(tactic| walk_at "evn") => `(tactic| first
  | ((with_reducible apply evn_cat) <;> (try walk_at "evd"))
  | ((with_reducible apply evn_lst) <;> (try walk_at "evd"))
  | ((with_reducible apply evn_slL) <;> (try walk_at "evd"))
  | ((with_reducible apply evn_lc) <;> (try walk_at "evd"))
  | ((with_reducible apply evn_listRg) <;> (try walk_at "evd"))
  | ((with_reducible apply evn_revL) <;> (try walk_at "evd"))
  | focus ((with_reducible apply evn_keysE); (rfl); (all_goals (try walk_at "evd")))
  | focus ((with_reducible apply evn_cb (r := rSrtI _)); (focus walk_at "evd"); (all_goals (try walk_at "rc")))
  | focus ((with_reducible apply evn_cb (r := rSrtR _)); (focus walk_at "evd"); (all_goals (try walk_at "rc")))
  | focus ((with_reducible apply evn_cb (r := rSrtP _)); (focus walk_at "evd"); (all_goals (try walk_at "rc")))
  | focus ((with_reducible apply evn_cb (r := rSrtD _)); (focus walk_at "evd"); (all_goals (try walk_at "rc")))
  | focus ((with_reducible apply evn_cb (r := rListOf _)); (focus walk_at "evd"); (all_goals (try walk_at "rc"))))
local macro_rules | `(tactic| walk_at "evd2") => `(tactic| first
  | ((with_reducible apply evd_tupL) <;> (try walk_at "evd"))
  | ((with_reducible apply evd_tupF) <;> (try walk_at "evd"))
  | ((with_reducible apply evd_tup) <;> (try walk_at "evd"))
  | with_reducible exact eva_nil
  | ((with_reducible apply eva_cons) <;> (try walk_at "evd"))
  | with_reducible exact evp_none
  | ((with_reducible apply evp_some) <;> (try walk_at "evd"))
  | focus ((with_reducible apply evd_slT); (focus walk_at "evd"); (all_goals (try walk_at "evd")))
  | focus ((with_reducible apply evd_slU); (focus walk_at "evd"); (all_goals (try walk_at "evd")))
  | exact gd_name
  | exact gd_two
  | ((with_reducible apply iv_list) <;> (try walk_at "evd"))
  | focus ((with_reducible apply iv_tup); walk_at "evd")
  | focus ((with_reducible apply iv_ftu); walk_at "evd")
  | ((with_reducible apply iv_enumQ) <;> (try walk_at "evd"))
  | ((with_reducible apply iv_rng1) <;> (try walk_at "evd"))
  | ((with_reducible apply iv_rng2) <;> (try walk_at "evd"))
  | ((with_reducible apply iv_enum) <;> (try walk_at "evd"))
  | ((with_reducible apply evd_tupRg) <;> (try walk_at "evd"))
  | ((with_reducible apply evr_1) <;> (try walk_at "evd"))
  | ((with_reducible apply evr_2) <;> (try walk_at "evd"))
  | focus ((with_reducible apply evd_call); (focus walk_at "evd"); (all_goals (try walk_at "rel")))
  | ((with_reducible apply evd_lenSet) <;> (try walk_at "evd"))
  | walk_at "evd3"
  | ((with_reducible apply evd_tix) <;> (try walk_at "evd"))
  | focus ((with_reducible apply evd_bmL); (focus walk_at "evd"); (all_goals (try walk_at "evd")))
  | focus ((with_reducible apply evd_cb); (focus walk_at "evd"); (all_goals (try walk_at "rc")))
  | walk_at "rc"
  | (intro _; walk_at "evd"))
local macro_rules | `(tactic| walk_at "evd3") => `(tactic| first
  | focus ((with_reducible apply evd_fld); (focus walk_at "evd"); (all_goals (try first | rfl | assumption | walk_at "fact")))
  | focus ((with_reducible apply evd_make); (focus walk_at "evd"); (all_goals (try walk_at "rel")))
  | focus ((with_reducible apply evd_meth); (focus walk_at "evd"); (focus walk_at "evd"); (all_goals (try first | rfl | walk_at "rel")))
  | focus ((with_reducible apply evd_prop); (focus walk_at "evd"); (all_goals (try walk_at "rel")))
  | focus ((with_reducible apply evd_spc); (focus walk_at "evd"); (all_goals (try walk_at "rel")))
  | focus ((with_reducible apply evd_isiO); (focus walk_at "evd"); (all_goals (try walk_at "fact")))
  | focus ((with_reducible apply evd_isi); (focus walk_at "evd"); (all_goals (try first | rfl | decide +kernel)))
  | ((with_reducible apply evd_cval) <;> (try walk_at "fact"))
  | focus ((with_reducible apply evd_inME); (rfl); (all_goals (try walk_at "evd")))
  | focus ((with_reducible apply evd_get2I); (rfl); (all_goals (try walk_at "evd")))
  | focus ((with_reducible apply evd_get2R); (rfl); (all_goals (try walk_at "evd")))
  | focus ((with_reducible apply evd_getME); (rfl); (all_goals (try walk_at "evd")))
  | focus ((with_reducible apply evd_getLI); (focus walk_at "evd"); (all_goals (try walk_at "evd")))
  | focus ((with_reducible apply evd_getDI); (focus walk_at "evd"); (all_goals (try walk_at "evd")))
  | focus ((with_reducible apply evd_getDR); (focus walk_at "evd"); (all_goals (try walk_at "evd")))
  | focus ((with_reducible apply evd_getLE); (focus walk_at "evd"); (all_goals (try walk_at "evd")))
  | focus ((with_reducible apply evd_getDE); (focus walk_at "evd"); (all_goals (try walk_at "evd")))
  | ((with_reducible apply evm_new)))
local macro_rules | `(tactic| walk_at "rc") => `(tactic| first
  | with_reducible apply rv_add
  | with_reducible apply rv_sub
  | with_reducible apply rv_cmp
  | with_reducible apply ru_neg
  | with_reducible apply rv_eqI
  | with_reducible apply rv_neI
  | with_reducible apply rv_eqS
  | with_reducible apply rv_neS
  | with_reducible apply rv_inT
  | with_reducible apply rv_inL
  | with_reducible apply rv_notInT
  | with_reducible apply rv_notInL
  | with_reducible apply rc_lenL
  | with_reducible apply rc_lenT
  | with_reducible apply rc_lenF
  | with_reducible apply rc_lenA
  | with_reducible apply rc_lenU
  | with_reducible apply rn_srtIL
  | with_reducible apply rn_srtIT
  | with_reducible apply rn_srtIA
  | with_reducible apply rn_srtP
  | with_reducible apply rn_srtR
  | with_reducible apply rn_srtDE
  | with_reducible apply rn_listL
  | with_reducible apply rn_listT
  | with_reducible apply rn_listA
  | with_reducible apply rc_abs
  | with_reducible apply rc_sum
  | with_reducible apply rc_int
  | walk_at "rc2")
local macro_rules | `(tactic| walk_at "rc2") => `(tactic| first
  | with_reducible apply rv_ixT0I
  | with_reducible apply rv_ixTZI
  | with_reducible apply rv_ixU0I
  | with_reducible apply rv_ixUZI
  | with_reducible apply rv_ixL0I
  | with_reducible apply rv_ixLZI
  | with_reducible apply rv_ixF0I
  | with_reducible apply rv_ixFZI
  | with_reducible apply rv_ixL0R
  | with_reducible apply rv_ixTR
  | with_reducible apply rv_ixL0L
  | with_reducible apply rv_ixTL
  | with_reducible apply rv_ixL0U
  | with_reducible apply rv_ixTU
  | with_reducible apply rv_ixQ
  | with_reducible apply rv_ixQ0
  | with_reducible apply rv_ixQZ
  | with_reducible apply rv_ix20
  | with_reducible apply rv_ix21
  | with_reducible apply rv_ixTI
  | with_reducible apply rv_ixUI
  | with_reducible apply rv_ixLI
  | with_reducible apply rv_ixFI
  | with_reducible apply rv_ixLR
  | with_reducible apply rv_ixLL
  | with_reducible apply rv_ixLU
  | with_reducible apply rv_mul
  | with_reducible apply rv_fdiv
  | with_reducible apply rv_mod
  | with_reducible apply rv_pow
  | with_reducible apply rv_ixL
  | with_reducible apply rv_ixF
  | with_reducible apply rv_ixT
  | with_reducible apply rv_ixU
  | with_reducible apply rv_ixA
  | with_reducible apply rv_catT
  | with_reducible apply rv_eqTI
  | with_reducible apply rv_neTI
  | with_reducible apply rv_eqLI
  | with_reducible apply rv_neLI
  | with_reducible apply rv_eqTR
  | with_reducible apply rv_inLR
  | with_reducible apply rv_notInLR
  | with_reducible apply rm_lix
  | with_reducible apply rn_srtIL'
  | with_reducible apply rn_srtR'
  | with_reducible apply rn_srtP'
  | with_reducible apply rv_inT'
  | with_reducible apply rv_inL'
  | with_reducible apply rv_notInT'
  | with_reducible apply rv_notInL'
  | with_reducible apply rc_sum'
  | with_reducible apply rc_min'
  | with_reducible apply rm_lix')
local macro_rules | `(tactic| walk_at "bnd") => `(tactic| first
  | omega
  | exact map_snoc
  | exact map_cat
  | ((have hszl := szl); (simp only [List.length_map, List.length_range, List.length_append, List.length_cons, List.length_nil, List.length_take, List.length_drop, Int.toNat_natCast, Nat.add_zero, Nat.zero_add, Int.natCast_add, Int.natCast_one] at *); omega)
  | ((simp only [List.length_map]); (refine Nat.le_trans (Nat.add_le_add_right (List.length_filter_le _ _) _) ?_); walk_at "bnd"))

section
variable {P : Program} {w : World} {K : Fr} {mg : Str → Option Value} {base : Heap}
def ordD (b : Bool) (os : List (List Int)) : D := D.sq b (os.map fun o => D.sq b (o.map D.int))
structure Ord (os : List (List Int)) (n v : Nat) : Prop where
  len : os.length = n
  n1 : 1 ≤ n
  n4 : n ≤ 4
  v1 : 1 ≤ v
  v8 : v ≤ 8
  nv : n + v ≤ 9
  srt : ∀ o ∈ os, sortI o = rgI 0 v
theorem rgI0 (v : Nat) : rgI 0 (v : Int) = (List.range v).map fun i => ((i : Nat) : Int) := by
  unfold rgI
  rw [Int.sub_zero, Int.toNat_natCast]
  exact List.map_congr_left fun i _ => Int.zero_add _
theorem len_rgI (v : Nat) : (rgI 0 (v : Int)).length = v := by rw [rgI0, List.length_map, List.length_range]
theorem Ord.olen {os : List (List Int)} {n v : Nat} (h : Ord os n v) {o : List Int} (ho : o ∈ os) : o.length = v := by
  have := congrArg List.length (h.srt o ho)
  rwa [(sortBy_perm ilt o).length_eq, len_rgI] at this
theorem Ord.get {os : List (List Int)} {n v : Nat} (h : Ord os n v) {i : Nat} (hi : i < n) : os.getD i [] ∈ os := by
  rw [List.getD_eq_getElem?_getD, List.getElem?_eq_getElem (by rw [h.len]; exact hi)]
  exact List.getElem_mem _
structure Cs (mg : Str → Option Value) : Prop where
  MOST_ORDERS : ∃ t, mg "MOST_ORDERS" = some (.int 4 t)
  MOST_THINGS : ∃ t, mg "MOST_THINGS" = some (.int 8 t)
theorem enD_ord {b : Bool} {os : List (List Int)} {n v : Nat} (h : Ord os n v) : enD (os.map fun o => D.sq b (o.map D.int)) = (List.range n).map fun i => D.tup [.int ((i : Nat) : Int), D.sq b ((os.getD i []).map D.int)] := by
  unfold enD
  rw [List.length_map, h.len]
  refine List.map_congr_left fun i hi => ?_
  have hi' : i < os.length := by rw [h.len]; exact List.mem_range.mp hi
  rw [List.getD_eq_getElem?_getD, List.getElem?_map, List.getD_eq_getElem?_getD, List.getElem?_eq_getElem hi']
  rfl
theorem rgOk {v : Nat} (h : v ≤ 100000) : RgOk 0 (v : Int) := RgOk.of_le (by omega) (by omega) (by omega) (by omega)
theorem sc_check_orders : FnScope ["orders", "things", "at", "order"] ["orders"] (defScope s_check_orders) := ⟨rfl, rfl, rfl, by decide +kernel, rfl, by decide +kernel, by decide +kernel⟩
def R_check_orders (ds : List D) (d : D) : Prop := ∃ (b : Bool) (os : List (List Int)) (n v : Nat), Ord os n v ∧ ds = [ordD b os] ∧ d = .tup [.int (n : Nat), .int (v : Nat)]
theorem ok_check_orders (T : At K mg "check_orders" s_check_orders ["orders"]) (B : Bi mg) (C : Cs mg) : Has P w K mg base CX0 "check_orders" 1 ["orders"] (spD K R_check_orders) := by
  refine ok_H T sc_check_orders (fun ds d h => by obtain ⟨_, r, _, _, _, rfl, _⟩ := h; rfl) (fun f cdv A outer s H E hr => ⟨_, (pss_cons (ps_if (pt_not (pt_chain op_le op_le (pe_int) (pe_callB (cl_len K) rfl B.len PySem.boot_len (pa_cons (pv 0) pa_nil)) (pe_glob (v := .int 4) rfl C.MOST_ORDERS.choose_spec ⟨_, rfl⟩))) (pss_one (ps_never)) (pss_nil))
        (pss_cons (ps_set (i := 1) sc_check_orders.nd rfl (by first | exact Or.inl rfl | exact Or.inr rfl) (pe_callB (cl_len K) rfl B.len PySem.boot_len (pa_cons (pe_ix (ix_qK K) (pv 0) (pe_int) (fun _ _ => rfl)) pa_nil)))
        (pss_cons (ps_if (pt_not (pt_chain op_le op_le (pe_int) (pv 1) (pe_glob (v := .int 8) rfl C.MOST_THINGS.choose_spec ⟨_, rfl⟩))) (pss_one (ps_never)) (pss_nil))
        (pss_cons (ps_for PassesOwn.never rfl (pi_enumQK K rfl B.enumerate (pa_cons (pv 0) pa_nil)) (pg_tupK K (n := 2) rfl (pgs_cons (pg_name (i := 2) sc_check_orders.nd rfl (by first | exact Or.inl rfl | exact Or.inr rfl)) (pgs_cons (pg_name (i := 3) sc_check_orders.nd rfl (by first | exact Or.inl rfl | exact Or.inr rfl)) pgs_nil))) (pss_one (ps_if (pt_cmpR (op_neK K hr) (pe_callB (cl_srtI K) rfl B.sorted (by decide +kernel) (pa_cons (pv 3) pa_nil)) (pe_listRg rfl rfl B.list (prg_1 rfl B.range (pv 1))) (nomark _)) (pss_one (ps_never)) (pss_nil))))
        (pss_one (ps_ret (pe_tup (pa_cons (pe_callB (cl_len K) rfl B.len PySem.boot_len (pa_cons (pv 0) pa_nil)) (pa_cons (pv 1) pa_nil))))))))), ?_⟩)
  rintro ds d ⟨b, os, n, v, O, rfl, rfl⟩
  have hlen := O.len
  have h1 := O.n1
  have h4 := O.n4
  have h5 := O.v1
  have h6 := O.v8
  have ho0 := O.olen (O.get (i := 0) (by omega))
  unfold ordD
  apply sd_seq
  apply sd_if
  · walk_at "evd"
  · intro c
    rw [List.length_map] at c
    simp at c
    omega
  intro _
  apply sd_next
  apply sd_seq
  apply sd_setE (d := .int (v : Nat))
  · walk_at "evd"
    omega
  · rw [List.length_map, ho0]
  apply sd_seq
  apply sd_if
  · walk_at "evd"
  · intro c
    simp at c
    omega
  intro _
  apply sd_next
  apply sd_seq
  apply sd_for (e := fun i : Nat => D.tup [.int (i : Nat), D.sq b ((os.getD i []).map D.int)]) (items := List.range n) (Inv := fun i ρ => ∃ x y, ρ = [.im (D.sq b (os.map fun o => D.sq b (o.map D.int))), .im (.int (v : Nat)), x, y])
  · rw [← enD_ord O]
    walk_at "evd"
  · exact ⟨_, _, rfl⟩
  · rintro i a ρ1 ha ⟨x, y, rfl⟩
    obtain rfl := rng_at ha
    have hi := rng_lt ha
    refine ⟨_, _, gd_two, ?_⟩
    apply sd_if
    · walk_at "evd"
      · exact rgOk (by omega)
    · intro c
      rw [O.srt _ (O.get hi)] at c
      simp at c
    · intro c
      apply sd_next
      exact ⟨_, _, rfl⟩
  · rintro ρ1 ⟨x, y, rfl⟩
    apply sd_retE (p := Or.inl rfl)
    · walk_at "evd"
      all_goals (first | exact (by decide : (2 : Nat) ≤ sizeLine) | skip)
    · rw [List.length_map, hlen]
def others (n v i : Nat) : List Int := ((List.range n).filter fun k => !decide (k = i)).map fun k => ((v + k : Nat) : Int)
def frow (n v i : Nat) (o : List Int) : List Int := ((v + i : Nat) : Int) :: (o ++ others n v i)
def frows (os : List (List Int)) (n v : Nat) : List (List Int) := (List.range n).map fun i => frow n v i (os.getD i [])
abbrev dU (r : List Int) : D := .ftu (r.map D.int)
abbrev dUs (rs : List (List Int)) : D := .lst (rs.map dU)
def R_full_orders (ds : List D) (d : D) : Prop := ∃ (b : Bool) (os : List (List Int)) (n v : Nat), Ord os n v ∧ ds = [ordD b os] ∧ d = dUs (frows os n v)
theorem gd_nv {i j : Nat} {K : Fr} {ρ : Env} {a b : D} : GdD K (gTup K 2 (gCons (gName i) (gCons (gName j) gNil))) (.tup [a, b]) ρ ((ρ.set i (.im a)).set j (.im b)) [i, j] := gd_two
theorem r_check_orders {b : Bool} {os : List (List Int)} {n v : Nat} (O : Ord os n v) : R_check_orders [D.sq b (os.map fun o => D.sq b (o.map D.int))] (.tup [.int (n : Nat), .int (v : Nat)]) := ⟨b, os, n, v, O, rfl, rfl⟩
local macro_rules | `(tactic| walk_at "rel") => `(tactic| first | (with_reducible apply r_check_orders; assumption))
theorem sc_full_orders : FnScope ["orders", "number", "things", "rows", "at", "order", "others", "k"] ["orders"] (defScope s_full_orders) := ⟨rfl, rfl, rfl, by decide +kernel, rfl, by decide +kernel, by decide +kernel⟩
theorem ok_full_orders (T : At K mg "full_orders" s_full_orders ["orders"]) (B : Bi mg) (G_check_orders : Has P w K mg base CX0 "check_orders" 1 ["orders"] (spD K R_check_orders)) : Has P w K mg base CX0 "full_orders" 2 ["orders"] (spD K R_full_orders) := by
  refine ok_H T sc_full_orders (fun ds d h => by obtain ⟨_, r, _, _, _, rfl, _⟩ := h; rfl) (fun f cdv A outer s H E hr => ⟨_, (pss_cons (ps_asg (pe_callH G_check_orders hr (by decide) rfl (pa_cons (pv 0) pa_nil)) (pg_tupK K (n := 2) rfl (pgs_cons (pg_name (i := 1) sc_full_orders.nd rfl (by first | exact Or.inl rfl | exact Or.inr rfl)) (pgs_cons (pg_name (i := 2) sc_full_orders.nd rfl (by first | exact Or.inl rfl | exact Or.inr rfl)) pgs_nil))))
        (pss_cons (ps_set (i := 3) sc_full_orders.nd rfl (by first | exact Or.inl rfl | exact Or.inr rfl) (pe_lst pa_nil))
        (pss_cons (ps_for PassesOwn.never rfl (pi_enumQK K rfl B.enumerate (pa_cons (pv 0) pa_nil)) (pg_tupK K (n := 2) rfl (pgs_cons (pg_name (i := 4) sc_full_orders.nd rfl (by first | exact Or.inl rfl | exact Or.inr rfl)) (pgs_cons (pg_name (i := 5) sc_full_orders.nd rfl (by first | exact Or.inl rfl | exact Or.inr rfl)) pgs_nil))) (pss_cons (ps_setLc (i := 6) (own := [("k", 7)]) (by rfl) sc_full_orders.nd rfl rfl (sw_true rfl rfl rfl (by decide +kernel)) (pi_range1 rfl B.range (pa_cons (pv 1) pa_nil)) (blkOk_by (N := ["orders", "number", "things", "rows", "at", "order", "others", "k"]) (sc := (defScope s_full_orders)) (by decide +kernel)) (fun _ _ _ _ _ => pg_name (i := 7) sc_full_orders.nd rfl (by first | exact Or.inl rfl | exact Or.inr rfl)) (fun _ _ _ _ _ => pts_one (pt_cmpR op_ne (pv 7) (pv 4) (nomark _))) (fun _ _ _ _ _ => pe_op op_add (pv 2) (pv 7)))
        (pss_one (ps_expr (pe_appendK K (pv 3) (pa_cons (pe_tupF K rfl B.tuple (pe_op op_cat (pe_op op_cat (pe_lst (pa_cons (pe_op op_add (pv 2) (pv 4)) pa_nil)) (pe_callTy (cl_list K) rfl B.list (by decide +kernel) (pa_cons (pv 5) pa_nil))) (pv 6))) pa_nil))))))
        (pss_one (ps_ret (pv 3)))))), ?_⟩)
  rintro ds d ⟨b, os, n, v, O, rfl, rfl⟩
  unfold ordD
  have hlen := O.len
  have h1 := O.n1
  have h4 := O.n4
  have h5 := O.v1
  have h6 := O.v8
  apply sd_seq
  apply sd_asg
  · walk_at "evd"
  · walk_at "evd"
  apply sd_seq
  apply sd_setN
  · walk_at "evn"
    all_goals walk_at "bnd"
  apply sd_seq
  apply sd_for (e := fun i : Nat => D.tup [.int (i : Nat), D.sq b ((os.getD i []).map D.int)]) (items := List.range n) (Inv := fun i ρ => ∃ x y z t, ρ = [.im (D.sq b (os.map fun o => D.sq b (o.map D.int))), .im (.int (n : Nat)), .im (.int (v : Nat)), .ml (((List.range i).map fun i => frow n v i (os.getD i [])).map dU), x, y, z, t])
  · rw [← enD_ord O]
    walk_at "evd"
  · exact ⟨_, _, _, _, rfl⟩
  · rintro i a ρ1 ha ⟨x, y, z, t, rfl⟩
    obtain rfl := rng_at ha
    have hi := rng_lt ha
    have hol := O.olen (O.get hi)
    refine ⟨_, _, gd_two, ?_⟩
    apply sd_seq
    apply sd_setE (d := .lst ((others n v i).map D.int))
    · walk_at "evd"
      all_goals walk_at "bnd"
    · unfold others
      rw [List.map_map, Int.toNat_natCast]
      congr 2
      apply List.filter_congr
      intro k _
      simp
      omega
    have hol2 : (others n v i).length ≤ n := by
      unfold others
      rw [List.length_map]
      exact Nat.le_trans (List.length_filter_le _ _) (by rw [List.length_range]; exact Nat.le_refl _)
    apply sd_app
    · rfl
    · walk_at "evd"
      all_goals walk_at "bnd"
    · walk_at "bnd"
    · refine ⟨.im (.int (i : Nat)), .im (D.sq b ((os.getD i []).map D.int)), .im (.lst ((others n v i).map D.int)), t, ?_⟩
      rw [List.range_succ, List.map_append, List.map_append]
      rw [show ([D.int ((v : Int) + (i : Int))] ++ (os.getD i []).map D.int ++ (others n v i).map D.int) = (frow n v i (os.getD i [])).map D.int from by simp [frow]]
      rfl
  · rintro ρ1 ⟨x, y, z, t, rfl⟩
    apply sd_frz (i := 3) rfl rfl
    apply sd_retE (p := Or.inl rfl)
    · walk_at "evd"
    · rw [List.length_range]; rfl
theorem others_len (n v i : Nat) : (others n v i).length ≤ n := by
  unfold others
  rw [List.length_map]
  exact Nat.le_trans (List.length_filter_le _ _) (by rw [List.length_range]; exact Nat.le_refl _)
theorem len_rgI2 (a n : Nat) : (rgI (a : Int) ((a : Int) + n)).length = n := by
  unfold rgI
  rw [List.length_map, List.length_range]; omega
def ownP (n v : Nat) : List Int := rgI (v : Int) ((v : Int) + n)
def R_own_places (ds : List D) (d : D) : Prop := ∃ (b : Bool) (os : List (List Int)) (n v : Nat), Ord os n v ∧ ds = [ordD b os] ∧ d = dR (ownP n v)
theorem sc_own_places : FnScope ["orders", "number", "things"] ["orders"] (defScope s_own_places) := ⟨rfl, rfl, rfl, by decide +kernel, rfl, by decide +kernel, by decide +kernel⟩
theorem ok_own_places (T : At K mg "own_places" s_own_places ["orders"]) (B : Bi mg) (G_check_orders : Has P w K mg base CX0 "check_orders" 1 ["orders"] (spD K R_check_orders)) : Has P w K mg base CX0 "own_places" 2 ["orders"] (spD K R_own_places) := by
  refine ok_H T sc_own_places (fun ds d h => by obtain ⟨_, r, _, _, _, rfl, _⟩ := h; rfl) (fun f cdv A outer s H E hr => ⟨_, (pss_cons (ps_asg (pe_callH G_check_orders hr (by decide) rfl (pa_cons (pv 0) pa_nil)) (pg_tupK K (n := 2) rfl (pgs_cons (pg_name (i := 1) sc_own_places.nd rfl (by first | exact Or.inl rfl | exact Or.inr rfl)) (pgs_cons (pg_name (i := 2) sc_own_places.nd rfl (by first | exact Or.inl rfl | exact Or.inr rfl)) pgs_nil))))
        (pss_one (ps_ret (pe_tupRg rfl rfl B.tuple (prg_2 rfl B.range (pv 2) (pe_op op_add (pv 2) (pv 1))))))), ?_⟩)
  rintro ds d ⟨b, os, n, v, O, rfl, rfl⟩
  unfold ordD
  have h4 := O.n4
  have h6 := O.v8
  apply sd_seq
  apply sd_asg
  · walk_at "evd"
  · walk_at "evd"
  apply sd_retE (p := Or.inl rfl)
  · walk_at "evd"
    exact RgOk.of_le (by omega) (by omega) (by omega) (by omega)
  · rfl
def fst (row room : List Int) : Int := (row.filter fun p => decide (p ∈ room)).getD 0 0
def Meet (row room : List Int) : Prop := row.length ≤ 100 ∧ ∃ p ∈ row, p ∈ room
theorem Meet.pos {row room : List Int} (h : Meet row room) : 0 < (row.filter fun p => decide (p ∈ room)).length := by
  obtain ⟨_, p, h1, h2⟩ := h
  exact List.length_pos_of_mem (List.mem_filter.mpr ⟨h1, decide_eq_true h2⟩)
theorem Meet.fst {row room : List Int} (h : Meet row room) : fst row room ∈ row ∧ fst row room ∈ room := by
  have hp := h.pos
  have : DL.fst row room ∈ row.filter fun p => decide (p ∈ room) := by
    unfold DL.fst
    rw [List.getD_eq_getElem?_getD, List.getElem?_eq_getElem hp]
    exact List.getElem_mem _
  obtain ⟨a, b⟩ := List.mem_filter.mp this
  exact ⟨a, of_decide_eq_true b⟩
def R_first_of (ds : List D) (d : D) : Prop := ∃ (row room : List Int), Meet row room ∧ ds = [dU row, dR room] ∧ d = .int (fst row room)
theorem sc_first_of : FnScope ["row", "room", "place"] ["row", "room"] (defScope s_first_of) := ⟨rfl, rfl, rfl, by decide +kernel, rfl, by decide +kernel, by decide +kernel⟩
theorem ok_first_of (T : At K mg "first_of" s_first_of ["row", "room"]) (B : Bi mg) : Has P w K mg base CX0 "first_of" 1 ["row", "room"] (spD K R_first_of) := by
  refine ok_H T sc_first_of (fun ds d h => by obtain ⟨_, r, _, rfl, _⟩ := h; rfl) (fun f cdv A outer s H E hr => ⟨_, (pss_one (ps_ret (pe_ix (ix_lK K) (pe_lc (own := [("place", 2)]) (by rfl) sc_first_of.nd (pi_tK K (pv 0)) (blkOk_by (N := ["row", "room", "place"]) (sc := (defScope s_first_of)) (by decide +kernel)) (fun _ _ _ _ _ => pg_name (i := 2) sc_first_of.nd rfl (by first | exact Or.inl rfl | exact Or.inr rfl)) (fun _ _ _ _ _ => pts_one (pt_cmpR (op_inK K) (pv 2) (pv 1) (by rfl))) (fun _ _ _ _ _ => pv 2)) (pe_int) (fun _ _ => rfl)))), ?_⟩)
  rintro ds d ⟨row, room, M, rfl, rfl⟩
  have hl := M.1
  have hp := M.pos
  apply sd_retE (p := Or.inl rfl)
  · walk_at "evd"
    · walk_at "bnd"
    · exact hp
  · rfl
theorem r_first_of {row room : List Int} (M : Meet row room) : R_first_of [.ftu (row.map D.int), .tup (room.map D.int)] (.int (fst row room)) := ⟨row, room, M, rfl, rfl⟩
local macro_rules | `(tactic| walk_at "rel") => `(tactic| with_reducible apply r_first_of)
def pab (row room : List Int) : List Int := row.drop (ixOf (fst row room) row + 1)
def R_places_above (ds : List D) (d : D) : Prop := ∃ (row room : List Int), Meet row room ∧ ds = [dU row, dR room] ∧ d = dR (pab row room)
theorem sc_places_above : FnScope ["row", "room"] ["row", "room"] (defScope s_places_above) := ⟨rfl, rfl, rfl, by decide +kernel, rfl, by decide +kernel, by decide +kernel⟩
theorem ok_places_above (T : At K mg "places_above" s_places_above ["row", "room"]) (B : Bi mg) (G_first_of : Has P w K mg base CX0 "first_of" 1 ["row", "room"] (spD K R_first_of)) : Has P w K mg base CX0 "places_above" 2 ["row", "room"] (spD K R_places_above) := by
  refine ok_H T sc_places_above (fun ds d h => by obtain ⟨_, r, _, rfl, _⟩ := h; rfl) (fun f cdv A outer s H E hr => ⟨_, (pss_one (ps_ret (pe_slice (sl_tK K) (pv 0) (po_some (pe_op op_add (pe_bmF PySem.F.slot_tuple_index PySem.F.type_tuple_index (mt_tix K) (pv 0) (pa_cons (pe_callH G_first_of hr (by decide) rfl (pa_cons (pv 0) (pa_cons (pv 1) pa_nil))) pa_nil)) (pe_int))) po_none))), ?_⟩)
  rintro ds d ⟨row, room, M, rfl, rfl⟩
  apply sd_retE (p := Or.inl rfl)
  · walk_at "evd"
    · exact M
    · exact M.fst.1
    · intro h
      have h1 := h.1
      have h2 : ixOf (fst row room) row < row.length := ixOf_lt M.fst.1
      have e : ((ixOf (fst row room) row : Nat) : Int) + 1 = ((ixOf (fst row room) row + 1 : Nat) : Int) := by omega
      rw [e, HT.sIx_nat, List.length_map] at h1
      omega
  · rw [cut_lo1, ← List.map_drop]
    rfl
theorem r_places_above {row room : List Int} (M : Meet row room) : R_places_above [.ftu (row.map D.int), .tup (room.map D.int)] (.tup ((pab row room).map D.int)) := ⟨row, room, M, rfl, rfl⟩
local macro_rules | `(tactic| walk_at "rel") => `(tactic| with_reducible apply r_places_above)
def aia (rows : List (List Int)) (room : List Int) : List Int := (rows.drop 1).foldl (fun f row => f.filter fun p => decide (p ∈ pab row room)) (sortI (pab (rows.getD 0 []) room))
def R_above_in_all (ds : List D) (d : D) : Prop := ∃ (rows : List (List Int)) (room : List Int), rows ≠ [] ∧ rows.length ≤ 100 ∧ (∀ row ∈ rows, Meet row room) ∧ ds = [dUs rows, dR room] ∧ d = dL (aia rows room)
theorem fold_len (room : List Int) : ∀ (rows : List (List Int)) (f : List Int), (rows.foldl (fun f row => f.filter fun p => decide (p ∈ pab row room)) f).length ≤ f.length
  | [], f => Nat.le_refl _
  | r :: rows, f => Nat.le_trans (fold_len room rows _) (List.length_filter_le _ _)
theorem cut_lo_1 {α : Type} (l : List α) : cutA l (some 1) none = l.drop 1 := cut_lo l 1
theorem sc_above_in_all : FnScope ["rows", "room", "found", "row", "above", "place"] ["rows", "room"] (defScope s_above_in_all) := ⟨rfl, rfl, rfl, by decide +kernel, rfl, by decide +kernel, by decide +kernel⟩
theorem ok_above_in_all (T : At K mg "above_in_all" s_above_in_all ["rows", "room"]) (B : Bi mg) (G_places_above : Has P w K mg base CX0 "places_above" 2 ["row", "room"] (spD K R_places_above)) : Has P w K mg base CX0 "above_in_all" 3 ["rows", "room"] (spD K R_above_in_all) := by
  refine ok_H T sc_above_in_all (fun ds d h => by obtain ⟨_, r, _, _, _, rfl, _⟩ := h; rfl) (fun f cdv A outer s H E hr => ⟨_, (pss_cons (ps_set (i := 2) sc_above_in_all.nd rfl (by first | exact Or.inl rfl | exact Or.inr rfl) (pe_callB (cl_srtI K) rfl B.sorted (by decide +kernel) (pa_cons (pe_callH G_places_above hr (by decide) rfl (pa_cons (pe_ix (ix_lK K) (pv 0) (pe_int) (fun _ _ => rfl)) (pa_cons (pv 1) pa_nil))) pa_nil)))
        (pss_cons (ps_for PassesOwn.never rfl (pi_lK K (pe_slice (sl_lK K) (pv 0) (po_some (pe_int)) po_none)) (pg_name (i := 3) sc_above_in_all.nd rfl (by first | exact Or.inl rfl | exact Or.inr rfl)) (pss_cons (ps_set (i := 4) sc_above_in_all.nd rfl (by first | exact Or.inl rfl | exact Or.inr rfl) (pe_callH G_places_above hr (by decide) rfl (pa_cons (pv 3) (pa_cons (pv 1) pa_nil))))
        (pss_one (ps_setLc (i := 2) (own := [("place", 5)]) (by rfl) sc_above_in_all.nd rfl rfl (sw_true rfl rfl rfl (by decide +kernel)) (pi_lK K (pv 2)) (blkOk_by (N := ["rows", "room", "found", "row", "above", "place"]) (sc := (defScope s_above_in_all)) (by decide +kernel)) (fun _ _ _ _ _ => pg_name (i := 5) sc_above_in_all.nd rfl (by first | exact Or.inl rfl | exact Or.inr rfl)) (fun _ _ _ _ _ => pts_one (pt_cmpR (op_inK K) (pv 5) (pv 4) (by rfl))) (fun _ _ _ _ _ => pv 5)))))
        (pss_one (ps_ret (pv 2))))), ?_⟩)
  rintro ds d ⟨rows, room, hne, hrl, M, rfl, rfl⟩
  have h0 : 0 < rows.length := List.length_pos_iff.mpr hne
  have hm0 : rows.getD 0 [] ∈ rows := by
    rw [List.getD_eq_getElem?_getD, List.getElem?_eq_getElem h0]
    exact List.getElem_mem _
  have hl0 : (sortI (pab (rows.getD 0 []) room)).length ≤ 100 := by
    rw [(sortBy_perm ilt _).length_eq, pab, List.length_drop]
    have := (M _ hm0).1
    omega
  apply sd_seq
  apply sd_set
  · walk_at "evd"
    · exact h0
    · exact M _ hm0
  apply sd_seq
  apply sd_for (e := dU) (items := rows.drop 1) (Inv := fun i ρ => ∃ x y z, ρ = [.im (dUs rows), .im (dR room), .im (dL (((rows.drop 1).take i).foldl (fun f row => f.filter fun p => decide (p ∈ pab row room)) (sortI (pab (rows.getD 0 []) room)))), x, y, z])
  · rw [List.map_drop, ← cut_lo_1]
    walk_at "evd"
  · exact ⟨_, _, _, rfl⟩
  · rintro i row ρ1 ha ⟨x, y, z, rfl⟩
    have hmem : row ∈ rows := List.mem_of_mem_drop (List.mem_of_getElem? ha)
    refine ⟨_, _, gd_name, ?_⟩
    apply sd_seq
    apply sd_set
    · walk_at "evd"
      exact M _ hmem
    have hfl := fold_len room ((rows.drop 1).take i) (sortI (pab (rows.getD 0 []) room))
    apply sd_set
    · walk_at "evd"
      omega
    · refine ⟨.im (dU row), .im (dR (pab row room)), z, ?_⟩
      rw [take_fold ha]
      rfl
  · rintro ρ1 ⟨x, y, z, rfl⟩
    apply sd_retE (p := Or.inl rfl)
    · walk_at "evd"
    · rw [List.take_length]; rfl
theorem r_above_in_all {rows : List (List Int)} {room : List Int} (h : rows ≠ [] ∧ rows.length ≤ 100 ∧ ∀ row ∈ rows, Meet row room) : R_above_in_all [.lst (rows.map fun r => .ftu (r.map D.int)), .tup (room.map D.int)] (.lst ((aia rows room).map D.int)) := ⟨rows, room, h.1, h.2.1, h.2.2, rfl, rfl⟩
theorem r_full_orders {b : Bool} {os : List (List Int)} {n v : Nat} (O : Ord os n v) : R_full_orders [D.sq b (os.map fun o => D.sq b (o.map D.int))] (.lst ((frows os n v).map fun r => .ftu (r.map D.int))) := ⟨b, os, n, v, O, rfl, rfl⟩
theorem r_own_places {b : Bool} {os : List (List Int)} {n v : Nat} (O : Ord os n v) : R_own_places [D.sq b (os.map fun o => D.sq b (o.map D.int))] (.tup ((ownP n v).map D.int)) := ⟨b, os, n, v, O, rfl, rfl⟩
theorem r_subsets {q t : Nat} {l : List Int} (h : t < q ∧ t ≤ 1000 ∧ l.length ≤ 16) : R_subsets q [.tup (l.map D.int), .int ((t : Nat) : Int)] (.lst ((subs t l).map fun r => .tup (r.map D.int))) := ⟨l, t, h.1, h.2.1, h.2.2, rfl, rfl⟩
local macro_rules | `(tactic| walk_at "rel") => `(tactic| first | with_reducible apply r_above_in_all | with_reducible apply r_subsets | (with_reducible apply r_full_orders; assumption) | (with_reducible apply r_own_places; assumption))
/-! ### every row holds every place -/
theorem frow_len {os : List (List Int)} {n v : Nat} (O : Ord os n v) {row : List Int} (h : row ∈ frows os n v) : row.length ≤ 100 := by
  obtain ⟨i, hi, rfl⟩ := List.mem_map.mp h
  have h1 := O.olen (O.get (List.mem_range.mp hi))
  have h2 := others_len n v i
  have h4 := O.n4
  have h6 := O.v8
  rw [frow, List.length_cons, List.length_append]
  omega
theorem mem_others {n v i : Nat} {p : Int} : p ∈ others n v i ↔ ∃ k, k < n ∧ k ≠ i ∧ p = ((v + k : Nat) : Int) := by
  unfold others
  rw [List.mem_map]
  constructor
  · rintro ⟨k, hk, rfl⟩
    obtain ⟨a, b⟩ := List.mem_filter.mp hk
    exact ⟨k, List.mem_range.mp a, by simpa using b, rfl⟩
  · rintro ⟨k, a, b, rfl⟩
    exact ⟨k, List.mem_filter.mpr ⟨List.mem_range.mpr a, by simpa using b⟩, rfl⟩
theorem mem_rgI {a b p : Int} : p ∈ rgI a b ↔ a ≤ p ∧ p < b := by
  unfold rgI
  rw [List.mem_map]
  constructor
  · rintro ⟨k, hk, rfl⟩
    have := List.mem_range.mp hk
    omega
  · intro h
    exact ⟨(p - a).toNat, List.mem_range.mpr (by omega), by omega⟩
theorem mem_frow {os : List (List Int)} {n v : Nat} (O : Ord os n v) {row : List Int} (h : row ∈ frows os n v) (p : Int) : p ∈ row ↔ 0 ≤ p ∧ p < (n : Int) + v := by
  obtain ⟨i, hi, rfl⟩ := List.mem_map.mp h
  have hi := List.mem_range.mp hi
  have ho : ∀ p, p ∈ os.getD i [] ↔ 0 ≤ p ∧ p < (v : Int) := fun p => by
    rw [← (sortBy_perm ilt (os.getD i [])).mem_iff]
    have := O.srt _ (O.get hi)
    unfold sortI at this
    rw [this, mem_rgI]
  rw [frow, List.mem_cons, List.mem_append, ho, mem_others]
  constructor
  · rintro (h | h | ⟨k, h1, h2, rfl⟩)
    · omega
    · omega
    · omega
  · intro h
    by_cases h1 : p < v
    · exact Or.inr (Or.inl ⟨h.1, h1⟩)
    · by_cases h2 : p = ((v + i : Nat) : Int)
      · exact Or.inl h2
      · exact Or.inr (Or.inr ⟨(p - v).toNat, by omega, by omega, by omega⟩)
theorem meets {os : List (List Int)} {n v : Nat} (O : Ord os n v) {room : List Int} (hr : room ≠ []) (hb : ∀ p ∈ room, 0 ≤ p ∧ p < (n : Int) + v) : ∀ row ∈ frows os n v, Meet row room := fun row h => by
  refine ⟨frow_len O h, ?_⟩
  obtain ⟨p, hp⟩ := List.exists_mem_of_ne_nil _ hr
  exact ⟨p, (mem_frow O h p).mpr (hb p hp), hp⟩
theorem frows_len (os : List (List Int)) (n v : Nat) : (frows os n v).length = n := by rw [frows, List.length_map, List.length_range]
theorem frows_ne {os : List (List Int)} {n v : Nat} (O : Ord os n v) : frows os n v ≠ [] := fun h => by
  have := frows_len os n v
  rw [h] at this
  have := O.n1
  simp at *
  omega
/-- what the rows of a room hold -/
structure Rm (n v : Nat) (room : List Int) : Prop where
  ne : room ≠ []
  bd : ∀ p ∈ room, 0 ≤ p ∧ p < (n : Int) + v
def least (os : List (List Int)) (n v : Nat) (room : List Int) : List Int := (frows os n v).map fun row => fst row room
def R_least_row (ds : List D) (d : D) : Prop := ∃ (b : Bool) (os : List (List Int)) (n v : Nat) (room : List Int), Ord os n v ∧ Rm n v room ∧ ds = [ordD b os, dR room] ∧ d = dR (least os n v room)
theorem sc_least_row : FnScope ["orders", "room", "row"] ["orders", "room"] (defScope s_least_row) := ⟨rfl, rfl, rfl, by decide +kernel, rfl, by decide +kernel, by decide +kernel⟩
theorem ok_least_row (T : At K mg "least_row" s_least_row ["orders", "room"]) (B : Bi mg) (G_full_orders : Has P w K mg base CX0 "full_orders" 2 ["orders"] (spD K R_full_orders)) (G_first_of : Has P w K mg base CX0 "first_of" 1 ["row", "room"] (spD K R_first_of)) : Has P w K mg base CX0 "least_row" 3 ["orders", "room"] (spD K R_least_row) := by
  refine ok_H T sc_least_row (fun ds d h => by obtain ⟨_, _, _, _, _, _, _, rfl, _⟩ := h; rfl) (fun f cdv A outer s H E hr => ⟨_, (pss_one (ps_ret (pe_tupleK K rfl B.tuple (pe_lc (own := [("row", 2)]) (by rfl) sc_least_row.nd (pi_lK K (pe_callH G_full_orders hr (by decide) rfl (pa_cons (pv 0) pa_nil))) (blkOk_by (N := ["orders", "room", "row"]) (sc := (defScope s_least_row)) (by decide +kernel)) (fun _ _ _ _ _ => pg_name (i := 2) sc_least_row.nd rfl (by first | exact Or.inl rfl | exact Or.inr rfl)) (fun _ _ _ _ _ => pts_nil) (fun _ _ _ _ _ => pe_callH G_first_of hr (by decide) rfl (pa_cons (pv 2) (pa_cons (pv 1) pa_nil))))))), ?_⟩)
  rintro ds d ⟨b, os, n, v, room, O, R, rfl, rfl⟩
  unfold ordD
  apply sd_retE (p := Or.inl rfl)
  · walk_at "evd"
    · exact meets O R.ne R.bd _ (by assumption)
    · rw [frows_len]
      have := O.n4
      omega
  · show D.tup _ = D.tup _
    rw [filt_true, least, List.map_map]
    rfl
theorem r_least_row {b : Bool} {os : List (List Int)} {n v : Nat} {room : List Int} (O : Ord os n v) (R : Rm n v room) : R_least_row [D.sq b (os.map fun o => D.sq b (o.map D.int)), .tup (room.map D.int)] (.tup ((least os n v room).map D.int)) := ⟨b, os, n, v, room, O, R, rfl, rfl⟩
local macro_rules | `(tactic| walk_at "rel") => `(tactic| (with_reducible apply r_least_row; assumption))
def unb (os : List (List Int)) (n v : Nat) : List (List Int) := (subs n (rgI 0 ((v : Int) + n))).filter fun room => decide (((aia (frows os n v) room).length : Int) = 0)
def R_unbeaten_rooms (ds : List D) (d : D) : Prop := ∃ (b : Bool) (os : List (List Int)) (n v : Nat), Ord os n v ∧ ds = [ordD b os] ∧ d = dRs (unb os n v)
theorem subs_mem : ∀ {s : Nat} {l r : List Int}, r ∈ subs s l → r.length = s ∧ r.Sublist l := by
  intro s
  induction s with
  | zero =>
    intro l r h
    rw [show subs 0 l = [[]] from rfl, List.mem_singleton] at h
    rw [h]
    exact ⟨rfl, List.nil_sublist _⟩
  | succ s ih =>
    intro l r h
    rw [show subs (s + 1) l = (List.range (l.length - s)).flatMap fun k => (subs s (l.drop (k + 1))).map fun r => l.getD k 0 :: r from rfl] at h
    obtain ⟨k, hk, hq⟩ := List.mem_flatMap.mp h
    obtain ⟨q, hq', rfl⟩ := List.mem_map.mp hq
    obtain ⟨h1, h2⟩ := ih hq'
    have hk : k < l.length := by have := List.mem_range.mp hk; omega
    refine ⟨by rw [List.length_cons, h1], ?_⟩
    have e : l.drop k = l.getD k 0 :: l.drop (k + 1) := by
      rw [List.drop_eq_getElem_cons hk, List.getD_eq_getElem?_getD, List.getElem?_eq_getElem hk]
      rfl
    exact (e ▸ h2.cons_cons _ : (l.getD k 0 :: q).Sublist (l.drop k)).trans (List.drop_sublist _ _)
theorem subs_few {s : Nat} {l : List Int} (h : l.length ≤ 16) : (subs s l).length ≤ 65536 := Nat.le_trans (subs_len s l) (Nat.pow_le_pow_right (by omega) h)
theorem len_rgZ (n v : Nat) : (rgI 0 ((v : Int) + n)).length = n + v := by
  unfold rgI
  rw [List.length_map, List.length_range]; omega
theorem rm_subs {os : List (List Int)} {n v : Nat} (O : Ord os n v) {room : List Int} (h : room ∈ subs n (rgI 0 ((v : Int) + n))) : Rm n v room := by
  obtain ⟨h1, h2⟩ := subs_mem h
  refine ⟨fun e => ?_, fun p hp => ?_⟩
  · rw [e] at h1
    have := O.n1
    simp at h1
    omega
  · have := mem_rgI.mp (h2.subset hp)
    omega
theorem sc_unbeaten_rooms : FnScope ["orders", "number", "things", "rows", "room"] ["orders"] (defScope s_unbeaten_rooms) := ⟨rfl, rfl, rfl, by decide +kernel, rfl, by decide +kernel, by decide +kernel⟩
theorem ok_unbeaten_rooms (T : At K mg "unbeaten_rooms" s_unbeaten_rooms ["orders"]) (B : Bi mg) (G_check_orders : Has P w K mg base CX0 "check_orders" 1 ["orders"] (spD K R_check_orders)) (G_full_orders : Has P w K mg base CX0 "full_orders" 2 ["orders"] (spD K R_full_orders)) (G_subsets : Has P w K mg base CX0 "subsets" 6 ["items", "size"] (spD K (R_subsets 5))) (G_above_in_all : Has P w K mg base CX0 "above_in_all" 3 ["rows", "room"] (spD K R_above_in_all)) : Has P w K mg base CX0 "unbeaten_rooms" 7 ["orders"] (spD K R_unbeaten_rooms) := by
  refine ok_H T sc_unbeaten_rooms (fun ds d h => by obtain ⟨_, _, _, _, _, rfl, _⟩ := h; rfl) (fun f cdv A outer s H E hr => ⟨_, (pss_cons (ps_asg (pe_callH G_check_orders hr (by decide) rfl (pa_cons (pv 0) pa_nil)) (pg_tupK K (n := 2) rfl (pgs_cons (pg_name (i := 1) sc_unbeaten_rooms.nd rfl (by first | exact Or.inl rfl | exact Or.inr rfl)) (pgs_cons (pg_name (i := 2) sc_unbeaten_rooms.nd rfl (by first | exact Or.inl rfl | exact Or.inr rfl)) pgs_nil))))
        (pss_cons (ps_set (i := 3) sc_unbeaten_rooms.nd rfl (by first | exact Or.inl rfl | exact Or.inr rfl) (pe_callH G_full_orders hr (by decide) rfl (pa_cons (pv 0) pa_nil)))
        (pss_one (ps_ret (pe_lc (own := [("room", 4)]) (by rfl) sc_unbeaten_rooms.nd (pi_lK K (pe_callH G_subsets hr (by decide) rfl (pa_cons (pe_tupRg rfl rfl B.tuple (prg_1 rfl B.range (pe_op op_add (pv 2) (pv 1)))) (pa_cons (pv 1) pa_nil)))) (blkOk_by (N := ["orders", "number", "things", "rows", "room"]) (sc := (defScope s_unbeaten_rooms)) (by decide +kernel)) (fun _ _ _ _ _ => pg_name (i := 4) sc_unbeaten_rooms.nd rfl (by first | exact Or.inl rfl | exact Or.inr rfl)) (fun _ _ _ _ _ => pts_one (pt_cmpR op_eq (pe_callB (cl_len K) rfl B.len PySem.boot_len (pa_cons (pe_callH G_above_in_all hr (by decide) rfl (pa_cons (pv 3) (pa_cons (pv 4) pa_nil))) pa_nil)) (pe_int) (nomark _))) (fun _ _ _ _ _ => pv 4)))))), ?_⟩)
  rintro ds d ⟨b, os, n, v, O, rfl, rfl⟩
  unfold ordD
  have h1 := O.n1
  have h4 := O.n4
  have h5 := O.v1
  have h6 := O.v8
  apply sd_seq
  apply sd_asg
  · walk_at "evd"
  · walk_at "evd"
  apply sd_seq
  apply sd_set
  · walk_at "evd"
  apply sd_retE (p := Or.inl rfl)
  · walk_at "evd"
    · exact RgOk.of_le (by omega) (by omega) (by omega) (by omega)
    · exact ⟨by omega, by omega, by rw [len_rgZ]; omega⟩
    · rename_i room hroom
      have R := rm_subs O hroom
      exact ⟨frows_ne O, by rw [frows_len]; omega, meets O R.ne R.bd⟩
    · exact Nat.le_trans (subs_few (by rw [len_rgZ]; omega)) (by omega)
  · simp only [List.length_map]
    rfl
theorem r_unbeaten_rooms {b : Bool} {os : List (List Int)} {n v : Nat} (O : Ord os n v) : R_unbeaten_rooms [D.sq b (os.map fun o => D.sq b (o.map D.int))] (.lst ((unb os n v).map fun r => .tup (r.map D.int))) := ⟨b, os, n, v, O, rfl, rfl⟩
local macro_rules | `(tactic| walk_at "rel") => `(tactic| (with_reducible apply r_unbeaten_rooms; assumption))
end
end DL

set_option Elab.async false
set_option linter.all false
set_option maxRecDepth 100000
set_option maxHeartbeats 4000000
namespace DL
open PySem L2
local macro_rules | `(tactic| walk_at "evd") => `(tactic| first
  | with_reducible exact evd_int
  | with_reducible exact evd_str
  | with_reducible exact evd_bl
  | with_reducible exact evd_non
  | ((with_reducible apply evd_var); rfl)
  | walk_at "evn"
  | ((with_reducible apply EvN.ev); walk_at "evn")
  | ((with_reducible apply evd_op) <;> (try walk_at "evd"))
  | ((with_reducible apply evd_un) <;> (try walk_at "evd"))
  | ((with_reducible apply evb_test) <;> (try walk_at "evd"))
  | ((with_reducible apply evb_B) <;> (try walk_at "evd"))
  | with_reducible exact evb_yes
  | ((with_reducible apply evb_not) <;> (try walk_at "evd"))
  | ((with_reducible apply evb_and) <;> (try walk_at "evd"))
  | ((with_reducible apply evb_or) <;> (try walk_at "evd"))
  | ((with_reducible apply evd_andV) <;> (try walk_at "evd"))
  | ((with_reducible apply evd_orV) <;> (try walk_at "evd"))
  | ((with_reducible apply evd_notV) <;> (try walk_at "evd"))
  | ((with_reducible apply evd_chain) <;> (try walk_at "evd"))
  | walk_at "evd2")
local macro_rules | `(tactic| walk_at "evn") => `(tactic| first
  | ((with_reducible apply evn_cat) <;> (try walk_at "evd"))
  | ((with_reducible apply evn_lst) <;> (try walk_at "evd"))
  | ((with_reducible apply evn_slL) <;> (try walk_at "evd"))
  | ((with_reducible apply evn_lc) <;> (try walk_at "evd"))
  | ((with_reducible apply evn_listRg) <;> (try walk_at "evd"))
  | ((with_reducible apply evn_revL) <;> (try walk_at "evd"))
  | focus ((with_reducible apply evn_keysE); (rfl); (all_goals (try walk_at "evd")))
  | focus ((with_reducible apply evn_cb (r := rSrtI _)); (focus walk_at "evd"); (all_goals (try walk_at "rc")))
  | focus ((with_reducible apply evn_cb (r := rSrtR _)); (focus walk_at "evd"); (all_goals (try walk_at "rc")))
  | focus ((with_reducible apply evn_cb (r := rSrtP _)); (focus walk_at "evd"); (all_goals (try walk_at "rc")))
  | focus ((with_reducible apply evn_cb (r := rSrtD _)); (focus walk_at "evd"); (all_goals (try walk_at "rc")))
  | focus ((with_reducible apply evn_cb (r := rListOf _)); (focus walk_at "evd"); (all_goals (try walk_at "rc"))))
local macro_rules | `(tactic| walk_at "evd2") => `(tactic| first
  | ((with_reducible apply evd_tupL) <;> (try walk_at "evd"))
  | ((with_reducible apply evd_tupF) <;> (try walk_at "evd"))
  | ((with_reducible apply evd_tup) <;> (try walk_at "evd"))
  | with_reducible exact eva_nil
  | ((with_reducible apply eva_cons) <;> (try walk_at "evd"))
  | with_reducible exact evp_none
  | ((with_reducible apply evp_some) <;> (try walk_at "evd"))
  | focus ((with_reducible apply evd_slT); (focus walk_at "evd"); (all_goals (try walk_at "evd")))
  | focus ((with_reducible apply evd_slU); (focus walk_at "evd"); (all_goals (try walk_at "evd")))
  | exact gd_name
  | exact gd_two
  | ((with_reducible apply iv_list) <;> (try walk_at "evd"))
  | focus ((with_reducible apply iv_tup); walk_at "evd")
  | focus ((with_reducible apply iv_ftu); walk_at "evd")
  | ((with_reducible apply iv_enumQ) <;> (try walk_at "evd"))
  | ((with_reducible apply iv_rng1) <;> (try walk_at "evd"))
  | ((with_reducible apply iv_rng2) <;> (try walk_at "evd"))
  | ((with_reducible apply iv_enum) <;> (try walk_at "evd"))
  | ((with_reducible apply evd_tupRg) <;> (try walk_at "evd"))
  | ((with_reducible apply evr_1) <;> (try walk_at "evd"))
  | ((with_reducible apply evr_2) <;> (try walk_at "evd"))
  | focus ((with_reducible apply evd_call); (focus walk_at "evd"); (all_goals (try walk_at "rel")))
  | ((with_reducible apply evd_lenSet) <;> (try walk_at "evd"))
  | walk_at "evd3"
  | ((with_reducible apply evd_tix) <;> (try walk_at "evd"))
  | focus ((with_reducible apply evd_bmL); (focus walk_at "evd"); (all_goals (try walk_at "evd")))
  | focus ((with_reducible apply evd_cb); (focus walk_at "evd"); (all_goals (try walk_at "rc")))
  | walk_at "rc"
  | (intro _; walk_at "evd"))
local macro_rules | `(tactic| walk_at "evd3") => `(tactic| first
  | focus ((with_reducible apply evd_fld); (focus walk_at "evd"); (all_goals (try first | rfl | assumption | walk_at "fact")))
  | focus ((with_reducible apply evd_make); (focus walk_at "evd"); (all_goals (try walk_at "rel")))
  | focus ((with_reducible apply evd_meth); (focus walk_at "evd"); (focus walk_at "evd"); (all_goals (try first | rfl | walk_at "rel")))
  | focus ((with_reducible apply evd_prop); (focus walk_at "evd"); (all_goals (try walk_at "rel")))
  | focus ((with_reducible apply evd_spc); (focus walk_at "evd"); (all_goals (try walk_at "rel")))
  | focus ((with_reducible apply evd_isiO); (focus walk_at "evd"); (all_goals (try walk_at "fact")))
  | focus ((with_reducible apply evd_isi); (focus walk_at "evd"); (all_goals (try first | rfl | decide +kernel)))
  | ((with_reducible apply evd_cval) <;> (try walk_at "fact"))
  | focus ((with_reducible apply evd_inME); (rfl); (all_goals (try walk_at "evd")))
  | focus ((with_reducible apply evd_get2I); (rfl); (all_goals (try walk_at "evd")))
  | focus ((with_reducible apply evd_get2R); (rfl); (all_goals (try walk_at "evd")))
  | focus ((with_reducible apply evd_getME); (rfl); (all_goals (try walk_at "evd")))
  | focus ((with_reducible apply evd_getLI); (focus walk_at "evd"); (all_goals (try walk_at "evd")))
  | focus ((with_reducible apply evd_getDI); (focus walk_at "evd"); (all_goals (try walk_at "evd")))
  | focus ((with_reducible apply evd_getDR); (focus walk_at "evd"); (all_goals (try walk_at "evd")))
  | focus ((with_reducible apply evd_getLE); (focus walk_at "evd"); (all_goals (try walk_at "evd")))
  | focus ((with_reducible apply evd_getDE); (focus walk_at "evd"); (all_goals (try walk_at "evd")))
  | ((with_reducible apply evm_new)))
local macro_rules | `(tactic| walk_at "rc") => `(tactic| first
  | with_reducible apply rv_add
  | with_reducible apply rv_sub
  | with_reducible apply rv_cmp
  | with_reducible apply ru_neg
  | with_reducible apply rv_eqI
  | with_reducible apply rv_neI
  | with_reducible apply rv_eqS
  | with_reducible apply rv_neS
  | with_reducible apply rv_inT
  | with_reducible apply rv_inL
  | with_reducible apply rv_notInT
  | with_reducible apply rv_notInL
  | with_reducible apply rc_lenL
  | with_reducible apply rc_lenT
  | with_reducible apply rc_lenF
  | with_reducible apply rc_lenA
  | with_reducible apply rc_lenU
  | with_reducible apply rn_srtIL
  | with_reducible apply rn_srtIT
  | with_reducible apply rn_srtIA
  | with_reducible apply rn_srtP
  | with_reducible apply rn_srtR
  | with_reducible apply rn_srtDE
  | with_reducible apply rn_listL
  | with_reducible apply rn_listT
  | with_reducible apply rn_listA
  | with_reducible apply rc_abs
  | with_reducible apply rc_sum
  | with_reducible apply rc_int
  | walk_at "rc2")
local macro_rules | `(tactic| walk_at "rc2") => `(tactic| first
  | with_reducible apply rv_ixT0I
  | with_reducible apply rv_ixTZI
  | with_reducible apply rv_ixU0I
  | with_reducible apply rv_ixUZI
  | with_reducible apply rv_ixL0I
  | with_reducible apply rv_ixLZI
  | with_reducible apply rv_ixF0I
  | with_reducible apply rv_ixFZI
  | with_reducible apply rv_ixL0R
  | with_reducible apply rv_ixTR
  | with_reducible apply rv_ixL0L
  | with_reducible apply rv_ixTL
  | with_reducible apply rv_ixL0U
  | with_reducible apply rv_ixTU
  | with_reducible apply rv_ixQ
  | with_reducible apply rv_ixQ0
  | with_reducible apply rv_ixQZ
  | with_reducible apply rv_ix20
  | with_reducible apply rv_ix21
  | with_reducible apply rv_ixTI
  | with_reducible apply rv_ixUI
  | with_reducible apply rv_ixLI
  | with_reducible apply rv_ixFI
  | with_reducible apply rv_ixLR
  | with_reducible apply rv_ixLL
  | with_reducible apply rv_ixLU
  | with_reducible apply rv_mul
  | with_reducible apply rv_fdiv
  | with_reducible apply rv_mod
  | with_reducible apply rv_pow
  | with_reducible apply rv_ixL
  | with_reducible apply rv_ixF
  | with_reducible apply rv_ixT
  | with_reducible apply rv_ixU
  | with_reducible apply rv_ixA
  | with_reducible apply rv_catT
  | with_reducible apply rv_eqTI
  | with_reducible apply rv_neTI
  | with_reducible apply rv_eqLI
  | with_reducible apply rv_neLI
  | with_reducible apply rv_eqTR
  | with_reducible apply rv_inLR
  | with_reducible apply rv_notInLR
  | with_reducible apply rm_lix
  | with_reducible apply rn_srtIL'
  | with_reducible apply rn_srtR'
  | with_reducible apply rn_srtP'
  | with_reducible apply rv_inT'
  | with_reducible apply rv_inL'
  | with_reducible apply rv_notInT'
  | with_reducible apply rv_notInL'
  | with_reducible apply rc_sum'
  | with_reducible apply rc_min'
  | with_reducible apply rm_lix')
local macro_rules | `(tactic| walk_at "bnd") => `(tactic| first
  | omega
  | exact map_snoc
  | exact map_cat
  | ((have hszl := szl); (simp only [List.length_map, List.length_range, List.length_append, List.length_cons, List.length_nil, List.length_take, List.length_drop, Int.toNat_natCast, Nat.add_zero, Nat.zero_add, Int.natCast_add, Int.natCast_one] at *); omega)
  | ((simp only [List.length_map]); (refine Nat.le_trans (Nat.add_le_add_right (List.length_filter_le _ _) _) ?_); walk_at "bnd"))

section
variable {P : Program} {w : World} {K : Fr} {mg : Str → Option Value} {base : Heap} {CB CC CN CM : Addr}
theorem r_without {r : List Int} {p : Int} (h : r.length ≤ 100) : R_without [.tup (r.map D.int), .int p] (.tup ((r.filter fun q => !decide (q = p)).map D.int)) := ⟨r, p, h, rfl, rfl⟩
theorem r_exchanged {r : List Int} {p q : Int} (h : r.length ≤ 100) : R_exchanged [.tup (r.map D.int), .int p, .int q] (.tup ((sortI ((r.filter fun x => !decide (x = p)) ++ [q])).map D.int)) := ⟨r, p, q, h, rfl, rfl⟩
local macro_rules | `(tactic| walk_at "rel") => `(tactic| first | (with_reducible apply r_check_orders; assumption) | with_reducible apply r_first_of | with_reducible apply r_places_above | with_reducible apply r_above_in_all | with_reducible apply r_subsets | (with_reducible apply r_full_orders; assumption) | (with_reducible apply r_own_places; assumption) | (with_reducible apply r_least_row; assumption) | (with_reducible apply r_unbeaten_rooms; assumption) | with_reducible apply r_room_fault | with_reducible apply r_without | with_reducible apply r_exchanged | with_reducible apply r_Book_init | with_reducible apply r_Chain_init)
theorem subs_few9 {os : List (List Int)} {n v : Nat} (O : Ord os n v) : (unb os n v).length ≤ 512 := by
  unfold unb
  refine Nat.le_trans (List.length_filter_le _ _) (Nat.le_trans (subs_len _ _) ?_)
  rw [len_rgZ]
  exact Nat.pow_le_pow_right (by omega) O.nv
theorem rgI_nd (a b : Int) : (rgI a b).Nodup := by
  unfold rgI
  rw [List.Nodup, List.pairwise_map]
  refine (List.nodup_range).imp fun {x y} h e => h (by omega)
theorem subs_good {os : List (List Int)} {n v : Nat} (O : Ord os n v) {r : List Int} (h : r ∈ subs n (rgI 0 ((v : Int) + n))) : Good ((v : Int) + n) n r := by
  obtain ⟨h1, h2⟩ := subs_mem h
  have := O.n4
  exact ⟨h1, by omega, h2.nodup (rgI_nd _ _), fun p hp => by have := mem_rgI.mp (h2.subset hp); omega⟩
theorem own_good {os : List (List Int)} {n v : Nat} (O : Ord os n v) : Good ((v : Int) + n) n (ownP n v) := by
  have := O.n4
  refine ⟨len_rgI2 v n, by unfold ownP; rw [len_rgI2]; omega, rgI_nd _ _, fun p hp => ?_⟩
  have := mem_rgI.mp hp
  omega
theorem unb_sub {os : List (List Int)} {n v : Nat} {r : List Int} (h : r ∈ unb os n v) : r ∈ subs n (rgI 0 ((v : Int) + n)) := (List.mem_filter.mp h).1
def R_unbeaten_book (CB : Addr) (ds : List D) (d : D) : Prop := ∃ (b : Bool) (os : List (List Int)) (n v : Nat), Ord os n v ∧ ((unb os n v ++ [ownP n v]).map sortI).Nodup ∧ ds = [ordD b os] ∧ d = dBook CB ((v : Int) + n) n (sortR ((unb os n v ++ [ownP n v]).map sortI))
theorem sc_unbeaten_book : FnScope ["orders", "number", "things"] ["orders"] (defScope s_unbeaten_book) := ⟨rfl, rfl, rfl, by decide +kernel, rfl, by decide +kernel, by decide +kernel⟩
theorem ok_unbeaten_book (T : At K mg "unbeaten_book" s_unbeaten_book ["orders"]) (B : Bi mg) (G_check_orders : Has P w K mg base CX0 "check_orders" 1 ["orders"] (spD K R_check_orders)) (G_own_places : Has P w K mg base CX0 "own_places" 2 ["orders"] (spD K R_own_places)) (G_unbeaten_rooms : Has P w K mg base CX0 "unbeaten_rooms" 7 ["orders"] (spD K R_unbeaten_rooms)) (G_Book : HasI P w K mg base "Book" CB 2 ["self", "places", "size", "rooms"] (spI K CB R_Book_init)) : Has P w K mg base CX0 "unbeaten_book" 8 ["orders"] (spD K (R_unbeaten_book CB)) := by
  refine ok_H T sc_unbeaten_book (fun ds d h => by obtain ⟨_, _, _, _, _, _, rfl, _⟩ := h; rfl) (fun f cdv A outer s H E hr => ⟨_, (pss_cons (ps_asg (pe_callH G_check_orders hr (by decide) rfl (pa_cons (pv 0) pa_nil)) (pg_tupK K (n := 2) rfl (pgs_cons (pg_name (i := 1) sc_unbeaten_book.nd rfl (by first | exact Or.inl rfl | exact Or.inr rfl)) (pgs_cons (pg_name (i := 2) sc_unbeaten_book.nd rfl (by first | exact Or.inl rfl | exact Or.inr rfl)) pgs_nil))))
        (pss_one (ps_ret (pe_makeH G_Book hr (by decide) rfl (pa_cons (pe_op op_add (pv 2) (pv 1)) (pa_cons (pv 1) (pa_cons (pe_op op_cat (pe_callH G_unbeaten_rooms hr (by decide) rfl (pa_cons (pv 0) pa_nil)) (pe_lst (pa_cons (pe_callH G_own_places hr (by decide) rfl (pa_cons (pv 0) pa_nil)) pa_nil))) pa_nil))))))), ?_⟩)
  rintro ds d ⟨b, os, n, v, O, hnd, rfl, rfl⟩
  unfold ordD
  have h1 := O.n1
  have h4 := O.n4
  have h5 := O.v1
  have h6 := O.v8
  have hu := subs_few9 O
  apply sd_seq
  apply sd_asg
  · walk_at "evd"
  · walk_at "evd"
  apply sd_retE (p := Or.inl rfl)
  · apply evd_make
    · apply eva_cons
      · walk_at "evd"
      apply eva_cons
      · walk_at "evd"
      apply eva_cons
      · apply EvD.is (d2 := dRs (unb os n v ++ [ownP n v]))
        · walk_at "evd"
          all_goals walk_at "bnd"
        · exact congrArg D.lst (map_snoc (f := fun r : List Int => D.tup (r.map D.int)))
      exact eva_nil
    · refine r_Book_init ⟨by omega, by omega, h1, by omega, ?_, fun r hr => ?_, hnd⟩
      · rw [List.length_append, List.length_singleton]
        omega
      · rcases List.mem_append.mp hr with h | h
        · exact subs_good O (unb_sub h)
        · rw [List.mem_singleton.mp h]; exact own_good O
  · rfl
def cT (os : List (List Int)) (n v : Nat) : List (List Int × Int) := (unb os n v).map (fun r => (least os n v r, (1 : Int))) ++ [(ownP n v, -1)]
def R_unbeaten_chain (CC : Addr) (ds : List D) (d : D) : Prop := ∃ (b : Bool) (os : List (List Int)) (n v : Nat), Ord os n v ∧ (∀ r ∈ unb os n v, (least os n v r).Nodup) ∧ ds = [ordD b os] ∧ d = dChain CC ((v : Int) + n) n (chT (cT os n v))
theorem least_good {os : List (List Int)} {n v : Nat} (O : Ord os n v) {r : List Int} (h : r ∈ unb os n v) (nd : (least os n v r).Nodup) : Good ((v : Int) + n) n (least os n v r) := by
  have R := rm_subs O (unb_sub h)
  have h4 := O.n4
  have hl : (least os n v r).length = n := by unfold least; rw [List.length_map, frows_len]
  refine ⟨hl, by omega, nd, fun p hp => ?_⟩
  unfold least at hp
  obtain ⟨row, hrow, rfl⟩ := List.mem_map.mp hp
  have := R.bd _ ((meets O R.ne R.bd row hrow).fst).2
  omega
theorem sc_unbeaten_chain : FnScope ["orders", "number", "things", "terms", "room"] ["orders"] (defScope s_unbeaten_chain) := ⟨rfl, rfl, rfl, by decide +kernel, rfl, by decide +kernel, by decide +kernel⟩
theorem ok_unbeaten_chain (T : At K mg "unbeaten_chain" s_unbeaten_chain ["orders"]) (B : Bi mg) (G_check_orders : Has P w K mg base CX0 "check_orders" 1 ["orders"] (spD K R_check_orders)) (G_own_places : Has P w K mg base CX0 "own_places" 2 ["orders"] (spD K R_own_places)) (G_unbeaten_rooms : Has P w K mg base CX0 "unbeaten_rooms" 7 ["orders"] (spD K R_unbeaten_rooms)) (G_least_row : Has P w K mg base CX0 "least_row" 3 ["orders", "room"] (spD K R_least_row)) (G_Chain : HasI P w K mg base "Chain" CC 2 ["self", "places", "degree", "terms"] (spI K CC R_Chain_init)) : Has P w K mg base CX0 "unbeaten_chain" 8 ["orders"] (spD K (R_unbeaten_chain CC)) := by
  refine ok_H T sc_unbeaten_chain (fun ds d h => by obtain ⟨_, _, _, _, _, _, rfl, _⟩ := h; rfl) (fun f cdv A outer s H E hr => ⟨_, (pss_cons (ps_asg (pe_callH G_check_orders hr (by decide) rfl (pa_cons (pv 0) pa_nil)) (pg_tupK K (n := 2) rfl (pgs_cons (pg_name (i := 1) sc_unbeaten_chain.nd rfl (by first | exact Or.inl rfl | exact Or.inr rfl)) (pgs_cons (pg_name (i := 2) sc_unbeaten_chain.nd rfl (by first | exact Or.inl rfl | exact Or.inr rfl)) pgs_nil))))
        (pss_cons (ps_setLc (i := 3) (own := [("room", 4)]) (by rfl) sc_unbeaten_chain.nd rfl rfl (sw_true rfl rfl rfl (by decide +kernel)) (pi_lK K (pe_callH G_unbeaten_rooms hr (by decide) rfl (pa_cons (pv 0) pa_nil))) (blkOk_by (N := ["orders", "number", "things", "terms", "room"]) (sc := (defScope s_unbeaten_chain)) (by decide +kernel)) (fun _ _ _ _ _ => pg_name (i := 4) sc_unbeaten_chain.nd rfl (by first | exact Or.inl rfl | exact Or.inr rfl)) (fun _ _ _ _ _ => pts_nil) (fun _ _ _ _ _ => pe_tup (pa_cons (pe_callH G_least_row hr (by decide) rfl (pa_cons (pv 0) (pa_cons (pv 4) pa_nil))) (pa_cons (pe_int) pa_nil))))
        (pss_one (ps_ret (pe_makeH G_Chain hr (by decide) rfl (pa_cons (pe_op op_add (pv 2) (pv 1)) (pa_cons (pv 1) (pa_cons (pe_op op_cat (pv 3) (pe_lst (pa_cons (pe_tup (pa_cons (pe_callH G_own_places hr (by decide) rfl (pa_cons (pv 0) pa_nil)) (pa_cons (pe_un un_neg (pe_int)) pa_nil))) pa_nil))) pa_nil)))))))), ?_⟩)
  rintro ds d ⟨b, os, n, v, O, hnd, rfl, rfl⟩
  unfold ordD
  have h1 := O.n1
  have h4 := O.n4
  have h5 := O.v1
  have h6 := O.v8
  have hu := subs_few9 O
  apply sd_seq
  apply sd_asg
  · walk_at "evd"
  · walk_at "evd"
  apply sd_seq
  apply sd_setE (d := dTs ((unb os n v).map fun r => (least os n v r, (1 : Int))))
  · walk_at "evd"
    · exact rm_subs O (unb_sub (by assumption))
    all_goals walk_at "bnd"
  · rw [filt_true]
    show D.lst _ = D.lst _
    rw [List.map_map]
    rfl
  apply sd_retE (p := Or.inl rfl)
  · apply evd_make
    · apply eva_cons
      · walk_at "evd"
      apply eva_cons
      · walk_at "evd"
      apply eva_cons
      · apply EvD.is (d2 := dTs (cT os n v))
        · walk_at "evd"
          all_goals walk_at "bnd"
        · unfold cT
          exact congrArg D.lst (map_snoc (f := dT) (a := (ownP n v, -1)))
      exact eva_nil
    · refine r_Chain_init ⟨by omega, by omega, ?_, fun t ht => ?_⟩
      · unfold cT
        rw [List.length_append, List.length_singleton, List.length_map]
        omega
      · rcases List.mem_append.mp ht with h | h
        · obtain ⟨r, hr', rfl⟩ := List.mem_map.mp h
          exact least_good O hr' (hnd r hr')
        · rw [List.mem_singleton.mp h]; exact own_good O
  · rfl
/-- a room that other_unbeaten takes, and what it answers -/
structure OU (os : List (List Int)) (n v : Nat) (room : List Int) (lv : Int) (res : List Int) : Prop where
  good : Good ((v : Int) + n) n room
  srt : room = sortI room
  unb : room ≠ ownP n v → aia (frows os n v) room = []
  lvm : lv ∈ room
  own : room = ownP n v → (v : Int) ≤ lv ∧ lv < (v : Int) + n ∧ res = sortI ((room.filter fun x => !decide (x = lv)) ++ [(os.getD (lv - v).toNat []).getD (v - 1) 0])
  edge : room ≠ ownP n v → (room.filter fun x => !decide (x = lv)).filter (fun p => decide (p < (v : Int))) = [] → res = ownP n v
  in_ : room ≠ ownP n v → (room.filter fun x => !decide (x = lv)).filter (fun p => decide (p < (v : Int))) ≠ [] →
    lv ∈ least os n v room ∧ fst ((frows os n v).getD (ixOf lv (least os n v room)) []) (room.filter fun x => !decide (x = lv)) ∈ least os n v room ∧ 2 ≤ n ∧
    ∀ free, free = ixOf (fst ((frows os n v).getD (ixOf lv (least os n v room)) []) (room.filter fun x => !decide (x = lv))) (least os n v room) →
      ∀ en, en = (((frows os n v).getD free []).filter fun p => decide (p ∈ aia ((frows os n v).take free ++ (frows os n v).drop (free + 1)) (room.filter fun x => !decide (x = lv)))) → 0 < en.length ∧ res = sortI ((room.filter fun x => !decide (x = lv)) ++ [en.getD (en.length - 1) 0])
def R_ou (ds : List D) (d : D) : Prop := ∃ (b : Bool) (os : List (List Int)) (n v : Nat) (room : List Int) (lv : Int) (res : List Int), Ord os n v ∧ OU os n v room lv res ∧ ds = [ordD b os, dR room, .int lv] ∧ d = dR res
/-- .. that it refuses -/
def X_ou (CN CM : Addr) (ds : List D) (C : Addr) (f : Str) (x : D) : Prop := ∃ (b : Bool) (os : List (List Int)) (n v : Nat) (room : List Int) (lv : Int), Ord os n v ∧ room.length ≤ 100 ∧ room.Nodup ∧ ds = [ordD b os, dR room, .int lv] ∧
  ((C = CN ∧ f = "room" ∧ x = dR room ∧ (rfault ((v : Int) + n) n room ≠ "" ∨ room ≠ sortI room)) ∨
   (C = CN ∧ f = "room" ∧ x = dR room ∧ Good ((v : Int) + n) n room ∧ room = sortI room ∧ room ≠ ownP n v ∧ aia (frows os n v) room ≠ []) ∨
   (C = CM ∧ f = "fault" ∧ x = .str "leaving" ∧ Good ((v : Int) + n) n room ∧ room = sortI room ∧ (room ≠ ownP n v → aia (frows os n v) room = []) ∧ lv ∉ room))
theorem sc_other_unbeaten : FnScope ["orders", "room", "leaving", "number", "things", "rows", "own", "rest", "place", "least", "row", "twice", "free", "candidates", "entering"] ["orders", "room", "leaving"] (defScope s_other_unbeaten) := ⟨rfl, rfl, rfl, by decide +kernel, rfl, by decide +kernel, by decide +kernel⟩
theorem ok_other_unbeaten (T : At K mg "other_unbeaten" s_other_unbeaten ["orders", "room", "leaving"]) (B : Bi mg) (G_check_orders : Has P w K mg base CX0 "check_orders" 1 ["orders"] (spD K R_check_orders)) (G_full_orders : Has P w K mg base CX0 "full_orders" 2 ["orders"] (spD K R_full_orders)) (G_own_places : Has P w K mg base CX0 "own_places" 2 ["orders"] (spD K R_own_places))
    (G_room_fault : Has P w K mg base CX0 "room_fault" 1 ["places", "size", "room"] (spD K R_room_fault)) (G_above_in_all : Has P w K mg base CX0 "above_in_all" 3 ["rows", "room"] (spD K R_above_in_all)) (G_first_of : Has P w K mg base CX0 "first_of" 1 ["row", "room"] (spD K R_first_of)) (G_without : Has P w K mg base CX0 "without" 1 ["room", "place"] (spD K R_without)) (G_exchanged : Has P w K mg base CX0 "exchanged" 1 ["room", "leaving", "entering"] (spD K R_exchanged))
    (G_NotARoom : HasE P w K mg base "NotARoom" CN 1 (spI1 CN "room")) (G_Mismatch : HasE P w K mg base "Mismatch" CM 1 (spI1 CM "fault")) :
    Has P w K mg base (L2.CX P w) "other_unbeaten" 4 ["orders", "room", "leaving"] (spX K R_ou (X_ou CN CM)) := by
  refine ok_HX T sc_other_unbeaten (fun ds d h => by obtain ⟨_, _, _, _, _, _, _, _, _, rfl, _⟩ := h; rfl) (fun ds C f y h => by obtain ⟨_, _, _, _, _, _, _, _, _, rfl, _⟩ := h; rfl) (fun f cdv A outer s H E hr => ⟨_, (pss_cons (ps_asg (pe_callH G_check_orders hr (by decide) rfl (pa_cons (pv 0) pa_nil)) (pg_tupK K (n := 2) rfl (pgs_cons (pg_name (i := 3) sc_other_unbeaten.nd rfl (by first | exact Or.inl rfl | exact Or.inr rfl)) (pgs_cons (pg_name (i := 4) sc_other_unbeaten.nd rfl (by first | exact Or.inl rfl | exact Or.inr rfl)) pgs_nil))))
        (pss_cons (ps_set (i := 5) sc_other_unbeaten.nd rfl (by first | exact Or.inl rfl | exact Or.inr rfl) (pe_callH G_full_orders hr (by decide) rfl (pa_cons (pv 0) pa_nil)))
        (pss_cons (ps_set (i := 6) sc_other_unbeaten.nd rfl (by first | exact Or.inl rfl | exact Or.inr rfl) (pe_callH G_own_places hr (by decide) rfl (pa_cons (pv 0) pa_nil)))
        (pss_cons (ps_if (PW.pt (pw_or (pt_cmpR op_ne (pe_callH G_room_fault hr (by decide) rfl (pa_cons (pe_op op_add (pv 4) (pv 3)) (pa_cons (pv 3) (pa_cons (pv 1) pa_nil)))) (pe_str) (nomark _)) (pw_or1 (pt_cmpR (op_neK K hr) (pe_callTy (cl_list K) rfl B.list (by decide +kernel) (pa_cons (pv 1) pa_nil)) (pe_callB (cl_srtI K) rfl B.sorted (by decide +kernel) (pa_cons (pv 1) pa_nil)) (nomark _))))) (pss_one (ps_raise rfl (takes_of rfl rfl rfl rfl) (pmk_H G_NotARoom hr (by decide) rfl (pa_cons (pv 1) pa_nil)))) (pss_nil))
        (pss_cons (ps_if (PW.pt (pw_and (pt_cmpR (op_neK K hr) (pv 1) (pv 6) (nomark _)) (pw_and1 (pt_cmpR op_gt (pe_callB (cl_len K) rfl B.len PySem.boot_len (pa_cons (pe_callH G_above_in_all hr (by decide) rfl (pa_cons (pv 5) (pa_cons (pv 1) pa_nil))) pa_nil)) (pe_int) (nomark _))))) (pss_one (ps_raise rfl (takes_of rfl rfl rfl rfl) (pmk_H G_NotARoom hr (by decide) rfl (pa_cons (pv 1) pa_nil)))) (pss_nil))
        (pss_cons (ps_if (pt_cmpR (op_notInK K) (pv 2) (pv 1) (by rfl)) (pss_one (ps_raise rfl (takes_of rfl rfl rfl rfl) (pmk_H G_Mismatch hr (by decide) rfl (pa_cons (pe_str) pa_nil)))) (pss_nil))
        (pss_cons (ps_if (pt_cmpR (op_eqK K hr) (pv 1) (pv 6) (nomark _)) (pss_one (ps_ret (pe_callH G_exchanged hr (by decide) rfl (pa_cons (pv 1) (pa_cons (pv 2) (pa_cons (pe_ix (ix_qK K) (pe_ix (ix_qK K) (pv 0) (pe_op op_sub (pv 2) (pv 4)) (fun _ _ => rfl)) (pe_un un_neg (pe_int)) (fun _ _ => rfl)) pa_nil)))))) (pss_nil))
        (pss_cons (ps_set (i := 7) sc_other_unbeaten.nd rfl (by first | exact Or.inl rfl | exact Or.inr rfl) (pe_callH G_without hr (by decide) rfl (pa_cons (pv 1) (pa_cons (pv 2) pa_nil))))
        (pss_cons (ps_if (pt_cmpR op_eq (pe_callB (cl_len K) rfl B.len PySem.boot_len (pa_cons (pe_lc (own := [("place", 8)]) (by rfl) sc_other_unbeaten.nd (pi_tK K (pv 7)) (blkOk_by (N := ["orders", "room", "leaving", "number", "things", "rows", "own", "rest", "place", "least", "row", "twice", "free", "candidates", "entering"]) (sc := (defScope s_other_unbeaten)) (by decide +kernel)) (fun _ _ _ _ _ => pg_name (i := 8) sc_other_unbeaten.nd rfl (by first | exact Or.inl rfl | exact Or.inr rfl)) (fun _ _ _ _ _ => pts_one (pt_cmpR op_lt (pv 8) (pv 4) (nomark _))) (fun _ _ _ _ _ => pv 8)) pa_nil)) (pe_int) (nomark _)) (pss_one (ps_ret (pv 6))) (pss_nil))
        (pss_cons (ps_setLc (i := 9) (own := [("row", 10)]) (by rfl) sc_other_unbeaten.nd rfl rfl (sw_true rfl rfl rfl (by decide +kernel)) (pi_lK K (pv 5)) (blkOk_by (N := ["orders", "room", "leaving", "number", "things", "rows", "own", "rest", "place", "least", "row", "twice", "free", "candidates", "entering"]) (sc := (defScope s_other_unbeaten)) (by decide +kernel)) (fun _ _ _ _ _ => pg_name (i := 10) sc_other_unbeaten.nd rfl (by first | exact Or.inl rfl | exact Or.inr rfl)) (fun _ _ _ _ _ => pts_nil) (fun _ _ _ _ _ => pe_callH G_first_of hr (by decide) rfl (pa_cons (pv 10) (pa_cons (pv 1) pa_nil))))
        (pss_cons (ps_set (i := 11) sc_other_unbeaten.nd rfl (by first | exact Or.inl rfl | exact Or.inr rfl) (pe_callH G_first_of hr (by decide) rfl (pa_cons (pe_ix (ix_lK K) (pv 5) (pe_bmK K PySem.F.plainAttrs_list PySem.F.slot_list_index PySem.F.type_list_index (mt_lix K) (pv 9) (pa_cons (pv 2) pa_nil)) (fun _ _ => rfl)) (pa_cons (pv 7) pa_nil))))
        (pss_cons (ps_set (i := 12) sc_other_unbeaten.nd rfl (by first | exact Or.inl rfl | exact Or.inr rfl) (pe_bmK K PySem.F.plainAttrs_list PySem.F.slot_list_index PySem.F.type_list_index (mt_lix K) (pv 9) (pa_cons (pv 11) pa_nil)))
        (pss_cons (ps_set (i := 13) sc_other_unbeaten.nd rfl (by first | exact Or.inl rfl | exact Or.inr rfl) (pe_callH G_above_in_all hr (by decide) rfl (pa_cons (pe_op op_cat (pe_slice (sl_lK K) (pv 5) po_none (po_some (pv 12))) (pe_slice (sl_lK K) (pv 5) (po_some (pe_op op_add (pv 12) (pe_int))) po_none)) (pa_cons (pv 7) pa_nil))))
        (pss_cons (ps_set (i := 14) sc_other_unbeaten.nd rfl (by first | exact Or.inl rfl | exact Or.inr rfl) (pe_ix (ix_lK K) (pe_lc (own := [("place", 8)]) (by rfl) sc_other_unbeaten.nd (pi_tK K (pe_ix (ix_lK K) (pv 5) (pv 12) (fun _ _ => rfl))) (blkOk_by (N := ["orders", "room", "leaving", "number", "things", "rows", "own", "rest", "place", "least", "row", "twice", "free", "candidates", "entering"]) (sc := (defScope s_other_unbeaten)) (by decide +kernel)) (fun _ _ _ _ _ => pg_name (i := 8) sc_other_unbeaten.nd rfl (by first | exact Or.inl rfl | exact Or.inr rfl)) (fun _ _ _ _ _ => pts_one (pt_cmpR (op_inK K) (pv 8) (pv 13) (by rfl))) (fun _ _ _ _ _ => pv 8)) (pe_un un_neg (pe_int)) (fun _ _ => rfl)))
        (pss_one (ps_ret (pe_callH G_exchanged hr (by decide) rfl (pa_cons (pv 1) (pa_cons (pv 2) (pa_cons (pv 14) pa_nil)))))))))))))))))))), ?_⟩)
  intro S0 ds
  constructor
  · rintro d ⟨b, os, n, v, room, lv, res, O, U, rfl, rfl⟩
    unfold ordD
    have h1 := O.n1
    have h4 := O.n4
    have h5 := O.v1
    have h6 := O.v8
    have G := U.good
    have ne : room ≠ [] := ne_len G.len h1
    have M := meets O ne (fun p hp => by have := G.bd p hp; omega)
    apply sx_seq
    apply sx_of
    apply sd_asg
    · walk_at "evd"
    · walk_at "evd"
    apply sx_seq
    apply sx_of
    apply sd_set
    · walk_at "evd"
    apply sx_seq
    apply sx_of
    apply sd_set
    · walk_at "evd"
    apply sx_seq
    apply sx_if
    · walk_at "evd"
      exact ⟨G.few, G.nd⟩
    · intro c
      rw [rfault_good G, ← U.srt] at c
      simp at c
    intro _
    apply sx_of
    apply sd_next
    apply sx_seq
    apply sx_if
    · walk_at "evd"
      exact ⟨frows_ne O, by rw [frows_len]; omega, M⟩
    · intro c
      rw [Bool.and_eq_true] at c
      have : room ≠ ownP n v := by simpa using c.1
      rw [U.unb this] at c
      simp at c
    intro _
    apply sx_of
    apply sd_next
    apply sx_seq
    apply sx_if
    · walk_at "evd"
    · intro c
      have := U.lvm
      simp [this] at c
    intro _
    apply sx_of
    apply sd_next
    apply sx_of
    apply sd_seq
    apply sd_if
    · walk_at "evd"
    · intro c
      have hown : room = ownP n v := of_decide_eq_true c
      obtain ⟨z1, z2, z3⟩ := U.own hown
      have hk : lv - v = (((lv - v).toNat : Nat) : Int) := by omega
      have hk2 : (lv - v).toNat < n := by omega
      have hol := O.olen (O.get hk2)
      apply sd_retE (p := Or.inl rfl)
      · apply evd_call
        · apply eva_cons
          · walk_at "evd"
          apply eva_cons
          · walk_at "evd"
          apply eva_cons
          · apply evd_op (d1 := D.sq b ((os.getD (lv - v).toNat []).map D.int)) (d2 := .int (-1))
            · apply evd_op
              · walk_at "evd"
              · walk_at "evd"
              · apply rv_ixA
                rw [hk]
                exact at_map (f := fun o : List Int => D.sq b (o.map D.int)) os _ (by rw [O.len]; exact hk2)
            · walk_at "evd"
            · exact rv_ixQZ (by omega)
          exact eva_nil
        · exact r_exchanged G.few
      · rw [z3, hol]
    intro c
    have hown : room ≠ ownP n v := of_decide_eq_false c
    have hrl : (room.filter fun q => !decide (q = lv)).length ≤ room.length := List.length_filter_le _ _
    have hf := G.few
    apply sd_next
    apply sd_seq
    apply sd_set
    · walk_at "evd"
      exact G.few
    apply sd_seq
    apply sd_if
    · walk_at "evd"
      omega
    · intro c
      rw [List.length_map] at c
      apply sd_retE (p := Or.inl rfl)
      · walk_at "evd"
      · have : (room.filter fun x => !decide (x = lv)).filter (fun p => decide (p < (v : Int))) = [] := by simpa using c
        rw [U.edge hown this]
    intro c
    have hin : (room.filter fun x => !decide (x = lv)).filter (fun p => decide (p < (v : Int))) ≠ [] := by simpa using c
    obtain ⟨y1, y2, y3, y4⟩ := U.in_ hown hin
    have hrest : (room.filter fun x => !decide (x = lv)) ≠ [] := fun e => hin (by rw [e]; rfl)
    have M2 := meets O hrest (fun p hp => by have := G.bd p (List.mem_filter.mp hp).1; omega)
    apply sd_next
    apply sd_seq
    apply sd_setE (d := dL (least os n v room))
    · walk_at "evd"
      · exact M _ (by assumption)
      · rw [frows_len]; omega
    · rw [filt_true]
      show D.lst _ = D.lst _
      unfold least
      rw [List.map_map]
      rfl
    have hll : (least os n v room).length = n := by unfold least; rw [List.length_map, frows_len]
    have hlt : ixOf lv (least os n v room) < n := Nat.lt_of_lt_of_eq (ixOf_lt y1) hll
    have hmem : ∀ {i : Nat}, i < n → (frows os n v).getD i [] ∈ frows os n v := fun {i} hi => by
      rw [List.getD_eq_getElem?_getD, List.getElem?_eq_getElem (by rw [frows_len]; exact hi)]
      exact List.getElem_mem _
    apply sd_seq
    apply sd_set
    · walk_at "evd"
      · exact y1
      · rw [frows_len]; exact hlt
      · exact M2 _ (hmem hlt)
    apply sd_seq
    apply sd_set
    · walk_at "evd"
      exact y2
    have hfree := Nat.lt_of_lt_of_eq (ixOf_lt y2) hll
    have y5 := y4 _ rfl _ rfl
    generalize hfr : ixOf (fst ((frows os n v).getD (ixOf lv (least os n v room)) []) (room.filter fun x => !decide (x = lv))) (least os n v room) = free at *
    have hsub : ∀ row ∈ (frows os n v).take free ++ (frows os n v).drop (free + 1), row ∈ frows os n v := fun row h => by
      rcases List.mem_append.mp h with q | q
      · exact List.mem_of_mem_take q
      · exact List.mem_of_mem_drop q
    have hlen2 : ((frows os n v).take free ++ (frows os n v).drop (free + 1)).length = n - 1 := by
      rw [List.length_append, List.length_take, List.length_drop, frows_len]
      omega
    apply sd_seq
    apply sd_set
    · apply evd_call
      · apply eva_cons
        · apply EvD.is (d2 := dUs ((frows os n v).take free ++ (frows os n v).drop (free + 1)))
          · walk_at "evd"
            rw [cut_hi, cut_lo1, List.length_take, List.length_drop, List.length_map, frows_len]
            have := szl
            omega
          · rw [cut_hi, cut_lo1, ← List.map_take, ← List.map_drop, ← List.map_append]
        apply eva_cons
        · walk_at "evd"
        exact eva_nil
      · refine r_above_in_all ⟨fun e => ?_, by omega, fun row h => M2 row (hsub row h)⟩
        rw [e] at hlen2
        simp at hlen2
        omega
    have hrowl := (M2 _ (hmem hfree)).1
    apply sd_seq
    apply sd_set
    · apply evd_op (d1 := dL (((frows os n v).getD free []).filter fun p => decide (p ∈ aia ((frows os n v).take free ++ (frows os n v).drop (free + 1)) (room.filter fun x => !decide (x = lv))))) (d2 := .int (-1))
      · apply EvN.ev
        apply evn_lc (e := D.int) (items := (frows os n v).getD free [])
        · apply iv_ftu
          walk_at "evd"
          rw [frows_len]; exact hfree
        · walk_at "evd"
        · walk_at "evd"
        · walk_at "evd"
        · omega
      · walk_at "evd"
      · exact rv_ixLZI y5.1
    apply sd_retE (p := Or.inl rfl)
    · walk_at "evd"
      exact G.few
    · rw [y5.2]
  · rintro C fl y ⟨b, os, n, v, room, lv, O, hl, hn, rfl, h⟩ hE
    unfold ordD
    have h1 := O.n1
    have h4 := O.n4
    have h5 := O.v1
    have h6 := O.v8
    apply sx_seq
    apply sx_of
    apply sd_asg
    · walk_at "evd"
    · walk_at "evd"
    apply sx_seq
    apply sx_of
    apply sd_set
    · walk_at "evd"
    apply sx_seq
    apply sx_of
    apply sd_set
    · walk_at "evd"
    apply sx_seq
    apply sx_if
    · walk_at "evd"
      exact ⟨hl, hn⟩
    · intro c
      rcases h with ⟨rfl, rfl, rfl, h⟩ | ⟨rfl, rfl, rfl, G, hs, h⟩ | ⟨rfl, rfl, rfl, G, hs, h⟩
      · apply sx_raise
        · walk_at "evd"
        · exact hE
      · rw [rfault_good G, ← hs] at c
        simp at c
      · rw [rfault_good G, ← hs] at c
        simp at c
    intro c
    apply sx_of
    apply sd_next
    rcases h with ⟨rfl, rfl, rfl, h⟩ | ⟨rfl, rfl, rfl, G, hs, h⟩ | ⟨rfl, rfl, rfl, G, hs, h⟩
    · exfalso
      rw [Bool.or_eq_false_iff] at c
      rcases h with h | h
      · exact h (by simpa using c.1)
      · exact h (by simpa using c.2)
    · have M := meets O (ne_len G.len h1) (fun p hp => by have := G.bd p hp; omega)
      apply sx_seq
      apply sx_if
      · walk_at "evd"
        exact ⟨frows_ne O, by rw [frows_len]; omega, M⟩
      · intro c
        apply sx_raise
        · walk_at "evd"
        · exact hE
      · intro c
        exfalso
        have e1 : (!decide (room = ownP n v)) = true := by simpa using h.1
        rw [e1, Bool.true_and] at c
        have : (aia (frows os n v) room).length = 0 := by simpa using c
        exact h.2 (List.length_eq_zero_iff.mp this)
    · have M := meets O (ne_len G.len h1) (fun p hp => by have := G.bd p hp; omega)
      apply sx_seq
      apply sx_if
      · walk_at "evd"
        exact ⟨frows_ne O, by rw [frows_len]; omega, M⟩
      · intro c
        exfalso
        rw [Bool.and_eq_true] at c
        have : room ≠ ownP n v := by simpa using c.1
        rw [h.1 this] at c
        simp at c
      intro _
      apply sx_of
      apply sd_next
      apply sx_seq
      apply sx_if
      · walk_at "evd"
      · intro c
        apply sx_raise
        · walk_at "evd"
        · exact hE
      · intro c
        exfalso
        have := h.2
        simp [this] at c
end
end DL

set_option Elab.async false
set_option linter.all false
namespace DL
open PySem L2
/-- xs[j], xs an own list -/
theorem evd_ixM {K : Fr} {ρ : Env} {ti : TE} {ds : List D} {d : D} {i : Nat} {j : Int} (hx : ρ[i]? = some (.ml ds)) (hi : EvD K ti ρ (.int j)) (h : atI ds j = some d) : EvD K (tOp (rIxL K) (tVar i) ti) ρ d := .mk fun k Q q => by
  obtain ⟨p, vs, hs, _, hS, hH, _⟩ := k.at_ i _ hx
  refine ⟨.ref p, hs, hi k _ fun w S2 H2 g2 r2 => ?_⟩
  have k2 := k.grow g2
  obtain ⟨q', vs', hs', h0', hS', hH', ra⟩ := k2.at_ i _ hx
  rw [hs] at hs'
  cases hs'
  cases r2
  obtain ⟨v, a, b⟩ := atI_rel ra h
  exact ⟨_, _, j, v, rfl, rfl, SqL.of hH', a, q _ _ _ g2 b⟩
theorem evd_ixMm {K : Fr} {ρ : Env} {ti : TE} {α : Type} {f : α → D} {l : List α} {i j : Nat} {x : α} (hx : ρ[i]? = some (.ml (l.map f))) (hi : EvD K ti ρ (.int (j : Nat))) (h : j < l.length) : EvD K (tOp (rIxL K) (tVar i) ti) ρ (f (l.getD j x)) := evd_ixM hx hi (by
  unfold atI ixN
  rw [List.length_map, if_pos (by omega), if_pos (by omega), Int.toNat_natCast]
  show (l.map f)[j]? = _
  rw [List.getElem?_map, List.getElem?_eq_getElem h, List.getD_eq_getElem?_getD, List.getElem?_eq_getElem h]
  rfl)
end DL

set_option Elab.async false
set_option linter.all false
set_option maxRecDepth 100000
set_option maxHeartbeats 4000000
namespace DL
open PySem L2
local macro_rules | `(tactic| walk_at "evd") => `(tactic| first
  | with_reducible exact evd_int
  | with_reducible exact evd_str
  | with_reducible exact evd_bl
  | with_reducible exact evd_non
  | ((with_reducible apply evd_var); rfl)
  | walk_at "evn"
  | ((with_reducible apply EvN.ev); walk_at "evn")
  | ((with_reducible apply evd_op) <;> (try walk_at "evd"))
  | ((with_reducible apply evd_un) <;> (try walk_at "evd"))
  | ((with_reducible apply evb_test) <;> (try walk_at "evd"))
  | ((with_reducible apply evb_B) <;> (try walk_at "evd"))
  | with_reducible exact evb_yes
  | ((with_reducible apply evb_not) <;> (try walk_at "evd"))
  | ((with_reducible apply evb_and) <;> (try walk_at "evd"))
  | ((with_reducible apply evb_or) <;> (try walk_at "evd"))
  | ((with_reducible apply evd_andV) <;> (try walk_at "evd"))
  | ((with_reducible apply evd_orV) <;> (try walk_at "evd"))
  | ((with_reducible apply evd_notV) <;> (try walk_at "evd"))
  | ((with_reducible apply evd_chain) <;> (try walk_at "evd"))
  | walk_at "evd2")
local macro_rules | `(tactic| walk_at "evn") => `(tactic| first
  | ((with_reducible apply evn_cat) <;> (try walk_at "evd"))
  | ((with_reducible apply evn_lst) <;> (try walk_at "evd"))
  | ((with_reducible apply evn_slL) <;> (try walk_at "evd"))
  | ((with_reducible apply evn_lc) <;> (try walk_at "evd"))
  | ((with_reducible apply evn_listRg) <;> (try walk_at "evd"))
  | ((with_reducible apply evn_revL) <;> (try walk_at "evd"))
  | focus ((with_reducible apply evn_keysE); (rfl); (all_goals (try walk_at "evd")))
  | focus ((with_reducible apply evn_cb (r := rSrtI _)); (focus walk_at "evd"); (all_goals (try walk_at "rc")))
  | focus ((with_reducible apply evn_cb (r := rSrtR _)); (focus walk_at "evd"); (all_goals (try walk_at "rc")))
  | focus ((with_reducible apply evn_cb (r := rSrtP _)); (focus walk_at "evd"); (all_goals (try walk_at "rc")))
  | focus ((with_reducible apply evn_cb (r := rSrtD _)); (focus walk_at "evd"); (all_goals (try walk_at "rc")))
  | focus ((with_reducible apply evn_cb (r := rListOf _)); (focus walk_at "evd"); (all_goals (try walk_at "rc"))))
local macro_rules | `(tactic| walk_at "evd2") => `(tactic| first
  | ((with_reducible apply evd_tupL) <;> (try walk_at "evd"))
  | ((with_reducible apply evd_tupF) <;> (try walk_at "evd"))
  | ((with_reducible apply evd_tup) <;> (try walk_at "evd"))
  | with_reducible exact eva_nil
  | ((with_reducible apply eva_cons) <;> (try walk_at "evd"))
  | with_reducible exact evp_none
  | ((with_reducible apply evp_some) <;> (try walk_at "evd"))
  | focus ((with_reducible apply evd_slT); (focus walk_at "evd"); (all_goals (try walk_at "evd")))
  | focus ((with_reducible apply evd_slU); (focus walk_at "evd"); (all_goals (try walk_at "evd")))
  | exact gd_name
  | exact gd_two
  | ((with_reducible apply iv_list) <;> (try walk_at "evd"))
  | focus ((with_reducible apply iv_tup); walk_at "evd")
  | focus ((with_reducible apply iv_ftu); walk_at "evd")
  | ((with_reducible apply iv_enumQ) <;> (try walk_at "evd"))
  | ((with_reducible apply iv_rng1) <;> (try walk_at "evd"))
  | ((with_reducible apply iv_rng2) <;> (try walk_at "evd"))
  | ((with_reducible apply iv_enum) <;> (try walk_at "evd"))
  | ((with_reducible apply evd_tupRg) <;> (try walk_at "evd"))
  | ((with_reducible apply evr_1) <;> (try walk_at "evd"))
  | ((with_reducible apply evr_2) <;> (try walk_at "evd"))
  | focus ((with_reducible apply evd_call); (focus walk_at "evd"); (all_goals (try walk_at "rel")))
  | ((with_reducible apply evd_lenSet) <;> (try walk_at "evd"))
  | walk_at "evd3"
  | ((with_reducible apply evd_tix) <;> (try walk_at "evd"))
  | focus ((with_reducible apply evd_bmL); (focus walk_at "evd"); (all_goals (try walk_at "evd")))
  | focus ((with_reducible apply evd_cb); (focus walk_at "evd"); (all_goals (try walk_at "rc")))
  | walk_at "rc"
  | (intro _; walk_at "evd"))
local macro_rules | `(tactic| walk_at "evd3") => `(tactic| first
  | focus ((with_reducible apply evd_fld); (focus walk_at "evd"); (all_goals (try first | rfl | assumption | walk_at "fact")))
  | focus ((with_reducible apply evd_make); (focus walk_at "evd"); (all_goals (try walk_at "rel")))
  | focus ((with_reducible apply evd_meth); (focus walk_at "evd"); (focus walk_at "evd"); (all_goals (try first | rfl | walk_at "rel")))
  | focus ((with_reducible apply evd_prop); (focus walk_at "evd"); (all_goals (try walk_at "rel")))
  | focus ((with_reducible apply evd_spc); (focus walk_at "evd"); (all_goals (try walk_at "rel")))
  | focus ((with_reducible apply evd_isiO); (focus walk_at "evd"); (all_goals (try walk_at "fact")))
  | focus ((with_reducible apply evd_isi); (focus walk_at "evd"); (all_goals (try first | rfl | decide +kernel)))
  | ((with_reducible apply evd_cval) <;> (try walk_at "fact"))
  | focus ((with_reducible apply evd_inME); (rfl); (all_goals (try walk_at "evd")))
  | focus ((with_reducible apply evd_get2I); (rfl); (all_goals (try walk_at "evd")))
  | focus ((with_reducible apply evd_get2R); (rfl); (all_goals (try walk_at "evd")))
  | focus ((with_reducible apply evd_getME); (rfl); (all_goals (try walk_at "evd")))
  | focus ((with_reducible apply evd_getLI); (focus walk_at "evd"); (all_goals (try walk_at "evd")))
  | focus ((with_reducible apply evd_getDI); (focus walk_at "evd"); (all_goals (try walk_at "evd")))
  | focus ((with_reducible apply evd_getDR); (focus walk_at "evd"); (all_goals (try walk_at "evd")))
  | focus ((with_reducible apply evd_getLE); (focus walk_at "evd"); (all_goals (try walk_at "evd")))
  | focus ((with_reducible apply evd_getDE); (focus walk_at "evd"); (all_goals (try walk_at "evd")))
  | ((with_reducible apply evm_new)))
local macro_rules | `(tactic| walk_at "rc") => `(tactic| first
  | with_reducible apply rv_add
  | with_reducible apply rv_sub
  | with_reducible apply rv_cmp
  | with_reducible apply ru_neg
  | with_reducible apply rv_eqI
  | with_reducible apply rv_neI
  | with_reducible apply rv_eqS
  | with_reducible apply rv_neS
  | with_reducible apply rv_inT
  | with_reducible apply rv_inL
  | with_reducible apply rv_notInT
  | with_reducible apply rv_notInL
  | with_reducible apply rc_lenL
  | with_reducible apply rc_lenT
  | with_reducible apply rc_lenF
  | with_reducible apply rc_lenA
  | with_reducible apply rc_lenU
  | with_reducible apply rn_srtIL
  | with_reducible apply rn_srtIT
  | with_reducible apply rn_srtIA
  | with_reducible apply rn_srtP
  | with_reducible apply rn_srtR
  | with_reducible apply rn_srtDE
  | with_reducible apply rn_listL
  | with_reducible apply rn_listT
  | with_reducible apply rn_listA
  | with_reducible apply rc_abs
  | with_reducible apply rc_sum
  | with_reducible apply rc_int
  | walk_at "rc2")
local macro_rules | `(tactic| walk_at "rc2") => `(tactic| first
  | with_reducible apply rv_ixT0I
  | with_reducible apply rv_ixTZI
  | with_reducible apply rv_ixU0I
  | with_reducible apply rv_ixUZI
  | with_reducible apply rv_ixL0I
  | with_reducible apply rv_ixLZI
  | with_reducible apply rv_ixF0I
  | with_reducible apply rv_ixFZI
  | with_reducible apply rv_ixL0R
  | with_reducible apply rv_ixTR
  | with_reducible apply rv_ixL0L
  | with_reducible apply rv_ixTL
  | with_reducible apply rv_ixL0U
  | with_reducible apply rv_ixTU
  | with_reducible apply rv_ixQ
  | with_reducible apply rv_ixQ0
  | with_reducible apply rv_ixQZ
  | with_reducible apply rv_ix20
  | with_reducible apply rv_ix21
  | with_reducible apply rv_ixTI
  | with_reducible apply rv_ixUI
  | with_reducible apply rv_ixLI
  | with_reducible apply rv_ixFI
  | with_reducible apply rv_ixLR
  | with_reducible apply rv_ixLL
  | with_reducible apply rv_ixLU
  | with_reducible apply rv_mul
  | with_reducible apply rv_fdiv
  | with_reducible apply rv_mod
  | with_reducible apply rv_pow
  | with_reducible apply rv_ixL
  | with_reducible apply rv_ixF
  | with_reducible apply rv_ixT
  | with_reducible apply rv_ixU
  | with_reducible apply rv_ixA
  | with_reducible apply rv_catT
  | with_reducible apply rv_eqTI
  | with_reducible apply rv_neTI
  | with_reducible apply rv_eqLI
  | with_reducible apply rv_neLI
  | with_reducible apply rv_eqTR
  | with_reducible apply rv_inLR
  | with_reducible apply rv_notInLR
  | with_reducible apply rm_lix
  | with_reducible apply rn_srtIL'
  | with_reducible apply rn_srtR'
  | with_reducible apply rn_srtP'
  | with_reducible apply rv_inT'
  | with_reducible apply rv_inL'
  | with_reducible apply rv_notInT'
  | with_reducible apply rv_notInL'
  | with_reducible apply rc_sum'
  | with_reducible apply rc_min'
  | with_reducible apply rm_lix')
local macro_rules | `(tactic| walk_at "bnd") => `(tactic| first
  | omega
  | exact map_snoc
  | exact map_cat
  | ((have hszl := szl); (simp only [List.length_map, List.length_range, List.length_append, List.length_cons, List.length_nil, List.length_take, List.length_drop, Int.toNat_natCast, Nat.add_zero, Nat.zero_add, Int.natCast_add, Int.natCast_one] at *); omega)
  | ((simp only [List.length_map]); (refine Nat.le_trans (Nat.add_le_add_right (List.length_filter_le _ _) _) ?_); walk_at "bnd"))

section
variable {P : Program} {w : World} {K : Fr} {mg : Str → Option Value} {base : Heap}
/-! ### the script's cells -/
def absI (i : Int) : Int := if i < 0 then -i else i
def cell1 (xs : List Int) (k : Nat) : Int := if k < xs.length then absI (xs.getD k 0) else if 0 < xs.length then absI (xs.getD (k % xs.length) 0) + 101 * k else 17 * k + 5
def cellH (c : Int) (k : Nat) : Int := ((c * 48271 + 11 * k + 7) % 2147483647 * ((c * 48271 + 11 * k + 7) % 2147483647) + 69621 * ((c * 48271 + 11 * k + 7) % 2147483647) + k) * 1000000000039 % 2305843009213693951 / 2
def cellV (xs : List Int) (k : Nat) : Int := if k < xs.length ∧ 10 ^ 18 ≤ absI (xs.getD k 0) then absI (xs.getD k 0) - 10 ^ 18 else cellH (cell1 xs k) k
abbrev dF (xs : List Int) : D := .frz (xs.map D.int)
def R_cell (ds : List D) (d : D) : Prop := ∃ (xs : List Int) (k : Nat), xs.length ≤ 1000000 ∧ k ≤ 1000 ∧ ds = [dF xs, .int (k : Nat)] ∧ d = .int (cellV xs k)
theorem sc__law_cell : FnScope ["_law_script", "_law_k", "_law_cell_here"] ["_law_script", "_law_k"] (defScope s__law_cell) := ⟨rfl, rfl, rfl, by decide +kernel, rfl, by decide +kernel, by decide +kernel⟩
theorem ok_cell (T : At K mg "_law_cell" s__law_cell ["_law_script", "_law_k"]) (B : Bi mg) : Has P w K mg base CX0 "_law_cell" 1 ["_law_script", "_law_k"] (spD K R_cell) := by
  refine ok_H T sc__law_cell (fun ds d h => by obtain ⟨_, _, _, _, rfl, _⟩ := h; rfl) (fun f cdv A outer s H E hr => ⟨_, (pss_cons (ps_set (i := 2) sc__law_cell.nd rfl (by first | exact Or.inl rfl | exact Or.inr rfl) (pe_op op_add (pe_op op_mul (pe_int) (pv 1)) (pe_int)))
        (pss_cons (ps_if (pt_cmpR op_lt (pv 1) (pe_callB (cl_len K) rfl B.len PySem.boot_len (pa_cons (pv 0) pa_nil)) (nomark _)) (pss_cons (ps_set (i := 2) sc__law_cell.nd rfl (by first | exact Or.inl rfl | exact Or.inr rfl) (pe_callB call_abs rfl B.abs (by decide +kernel) (pa_cons (pe_ix (ix_lK K) (pv 0) (pv 1) (fun _ _ => rfl)) pa_nil)))
        (pss_one (ps_if (pt_cmpR op_ge (pv 2) (pe_op op_pow (pe_int) (pe_int)) (nomark _)) (pss_one (ps_ret (pe_op op_sub (pv 2) (pe_op op_pow (pe_int) (pe_int))))) (pss_nil)))) (pss_one (ps_if (pt_cmpR op_gt (pe_callB (cl_len K) rfl B.len PySem.boot_len (pa_cons (pv 0) pa_nil)) (pe_int) (nomark _)) (pss_one (ps_set (i := 2) sc__law_cell.nd rfl (by first | exact Or.inl rfl | exact Or.inr rfl) (pe_op op_add (pe_callB call_abs rfl B.abs (by decide +kernel) (pa_cons (pe_ix (ix_lK K) (pv 0) (pe_op op_mod (pe_callTy call_int1 rfl B.int (by decide +kernel) (pa_cons (pv 1) pa_nil)) (pe_callB (cl_len K) rfl B.len PySem.boot_len (pa_cons (pv 0) pa_nil))) (fun _ _ => rfl)) pa_nil)) (pe_op op_mul (pe_int) (pv 1))))) (pss_nil))))
        (pss_cons (ps_set (i := 2) sc__law_cell.nd rfl (by first | exact Or.inl rfl | exact Or.inr rfl) (pe_op op_mod (pe_callTy call_int1 rfl B.int (by decide +kernel) (pa_cons (pe_op op_add (pe_op op_add (pe_op op_mul (pv 2) (pe_int)) (pe_op op_mul (pe_int) (pv 1))) (pe_int)) pa_nil)) (pe_int)))
        (pss_one (ps_ret (pe_op op_fdiv (pe_op op_mod (pe_callTy call_int1 rfl B.int (by decide +kernel) (pa_cons (pe_op op_mul (pe_op op_add (pe_op op_add (pe_op op_mul (pv 2) (pv 2)) (pe_op op_mul (pe_int) (pv 2))) (pv 1)) (pe_int)) pa_nil)) (pe_int)) (pe_int))))))), ?_⟩)
  rintro ds d ⟨xs, k, hl, hk, rfl, rfl⟩
  apply sd_seq
  apply sd_set
  · walk_at "evd"
    exact Or.inl (by decide)
  apply sd_seqQ (fun o => (o = .nx [.im (dF xs), .im (.int (k : Nat)), .im (.int (cell1 xs k))] ∧ ¬ (k < xs.length ∧ 10 ^ 18 ≤ absI (xs.getD k 0))) ∨ (o = .rt (.int (absI (xs.getD k 0) - 10 ^ 18)) ∧ k < xs.length ∧ 10 ^ 18 ≤ absI (xs.getD k 0)))
  · apply sd_if
    · walk_at "evd"
    · intro c
      have hk : k < xs.length := by
        rw [List.length_map] at c
        simp at c
        exact c
      apply sd_seq
      apply sd_set
      · walk_at "evd"
        exact hk
      apply sd_if
      · walk_at "evd"
        exact ⟨by decide, by decide, by decide⟩
      · intro c2
        apply sd_retE (d := .int (absI (xs.getD k 0) - 10 ^ 18))
        · walk_at "evd"
          exact ⟨by decide, by decide, by decide⟩
        · rfl
        · exact Or.inr ⟨rfl, hk, of_decide_eq_true c2⟩
      · intro c2
        apply sd_next
        refine Or.inl ⟨?_, fun h => of_decide_eq_false c2 h.2⟩
        unfold cell1
        rw [if_pos hk]
        rfl
    · intro c
      have hk : ¬ k < xs.length := by
        rw [List.length_map] at c
        simp at c
        omega
      apply sd_if
      · walk_at "evd"
      · intro c2
        have hp : 0 < xs.length := by
          rw [List.length_map] at c2
          simp at c2
          exact c2
        apply sd_setE (d := .int (cell1 xs k))
        · apply evd_op
          · apply evd_cb
            · apply eva_cons
              · apply evd_op (d2 := .int ((k % xs.length : Nat) : Int))
                · walk_at "evd"
                · apply EvD.is
                  · walk_at "evd"
                    rw [List.length_map]
                    omega
                  · rw [List.length_map]
                    congr 1
                · exact rv_ixFI (Nat.mod_lt _ hp)
              exact eva_nil
            · exact rc_abs
          · walk_at "evd"
            exact Or.inl (by decide)
          · exact rv_add
        · unfold cell1
          rw [if_neg hk, if_pos hp]
          rfl
        · exact Or.inl ⟨rfl, fun h => hk h.1⟩
      · intro c2
        apply sd_next
        have hp : ¬ 0 < xs.length := by
          rw [List.length_map] at c2
          have := of_decide_eq_false c2
          omega
        refine Or.inl ⟨?_, fun h => hk h.1⟩
        unfold cell1
        rw [if_neg hk, if_neg hp]
        rfl
  · rintro ρ' (⟨h, hn⟩ | ⟨h, _⟩)
    · cases h
      apply sd_seq
      apply sd_set
      · walk_at "evd"
        · exact Or.inr (by decide)
        · exact Or.inl (by decide)
        · decide
      apply sd_retE (p := Or.inl rfl)
      · walk_at "evd"
        · exact Or.inr (by omega)
        · exact Or.inl (by decide)
        · exact Or.inr (by decide)
        · decide
        · exact ⟨by decide, by decide⟩
      · unfold cellV
        rw [if_neg hn]
        rfl
    · cases h
  · rintro d (⟨h, hn⟩ | ⟨h, hn⟩)
    · cases h
    · cases h
      refine Or.inl ?_
      unfold cellV
      rw [if_pos hn]
  · rintro ρ' (⟨h, _⟩ | ⟨h, _⟩) <;> cases h
  · rintro ρ' (⟨h, _⟩ | ⟨h, _⟩) <;> cases h
def ordS (n : Nat) (s : List Int × List Int × Int) (k : Nat) : List Int × List Int × Int := (s.1.eraseIdx (s.2.2 % ((n : Int) - k)).toNat, s.2.1 ++ [s.1.getD (s.2.2 % ((n : Int) - k)).toNat 0], s.2.2 / ((n : Int) - k))
def ordV (c : Int) (n : Nat) : List Int := ((List.range n).foldl (ordS n) (rgI 0 n, [], c)).2.1
def R_order (ds : List D) (d : D) : Prop := ∃ (c : Int) (n : Nat), n ≤ 100 ∧ ds = [.int c, .int (n : Nat)] ∧ d = dL (ordV c n)
theorem sc__law_order : FnScope ["_law_cell_here", "_law_n", "_law_left", "_law_row", "_law_k", "_law_size"] ["_law_cell_here", "_law_n"] (defScope s__law_order) := ⟨rfl, rfl, rfl, by decide +kernel, rfl, by decide +kernel, by decide +kernel⟩
theorem ok_order (T : At K mg "_law_order" s__law_order ["_law_cell_here", "_law_n"]) (B : Bi mg) : Has P w K mg base CX0 "_law_order" 1 ["_law_cell_here", "_law_n"] (spD K R_order) := by
  refine ok_H T sc__law_order (fun ds d h => by obtain ⟨_, _, _, rfl, _⟩ := h; rfl) (fun f cdv A outer s H E hr => ⟨_, (pss_cons (ps_set (i := 2) sc__law_order.nd rfl (by first | exact Or.inl rfl | exact Or.inr rfl) (pe_listRg rfl rfl B.list (prg_1 rfl B.range (pv 1))))
        (pss_cons (ps_set (i := 3) sc__law_order.nd rfl (by first | exact Or.inl rfl | exact Or.inr rfl) (pe_lst pa_nil))
        (pss_cons (ps_for PassesOwn.never rfl (pi_range1 rfl B.range (pa_cons (pv 1) pa_nil)) (pg_name (i := 4) sc__law_order.nd rfl (by first | exact Or.inl rfl | exact Or.inr rfl)) (pss_cons (ps_set (i := 5) sc__law_order.nd rfl (by first | exact Or.inl rfl | exact Or.inr rfl) (pe_op op_sub (pv 1) (pv 4)))
        (pss_cons (ps_expr (pe_appendK K (pv 3) (pa_cons (pe_bm PySem.F.plainAttrs_list PySem.F.slot_list_pop PySem.F.type_list_pop mt_popAt (pv 2) (pa_cons (pe_op op_mod (pe_callTy call_int1 rfl B.int (by decide +kernel) (pa_cons (pv 0) pa_nil)) (pv 5)) pa_nil)) pa_nil)))
        (pss_one (ps_set (i := 0) sc__law_order.nd rfl (by first | exact Or.inl rfl | exact Or.inr rfl) (pe_op op_fdiv (pv 0) (pv 5)))))))
        (pss_one (ps_ret (pv 3)))))), ?_⟩)
  rintro ds d ⟨c, n, hn, rfl, rfl⟩
  apply sd_seq
  apply sd_setN
  · walk_at "evn"
    exact rgOk (by omega)
  apply sd_seq
  apply sd_setN
  · walk_at "evn"
    all_goals walk_at "bnd"
  apply sd_seq
  apply sd_for (e := fun i : Nat => D.int (i : Nat)) (items := List.range n) (Inv := fun i ρ => ∃ l r c' x y, ρ = [.im (.int c'), .im (.int (n : Nat)), .ml (l.map D.int), .ml (r.map D.int), x, y] ∧ (l, r, c') = (List.range i).foldl (ordS n) (rgI 0 n, [], c) ∧ l.length + i = n ∧ r.length = i)
  · apply iv_rngN
    · walk_at "evd"
    · rfl
    · omega
  · refine ⟨rgI 0 n, [], c, _, _, rfl, rfl, ?_, rfl⟩
    rw [len_rgI]
    omega
  · rintro i n' ρ1 ha ⟨l, r, c', x, y, rfl, h1, h2, h3⟩
    obtain rfl := rng_at ha
    have hi := rng_lt ha
    refine ⟨_, _, gd_name, ?_⟩
    apply sd_seq
    apply sd_set
    · walk_at "evd"
    apply sd_seq
    apply sd_appPop (m := (c' % ((n : Int) - i)).toNat)
    · decide
    · rfl
    · rfl
    · have hp : (0 : Int) < (n : Int) - i := by omega
      have hmod := Int.emod_nonneg c' (show (n : Int) - i ≠ 0 by omega)
      apply EvD.is (d1 := .int (c' % ((n : Int) - i)))
      · walk_at "evd"
        exact hp
      · rw [Int.toNat_of_nonneg hmod]
    · have := Int.emod_lt_of_pos c' (show (0 : Int) < (n : Int) - i by omega)
      have := Int.emod_nonneg c' (show (n : Int) - i ≠ 0 by omega)
      omega
    · omega
    · omega
    apply sd_set
    · walk_at "evd"
      exact ⟨by omega, by omega⟩
    · have hlt : (c' % ((n : Int) - i)).toNat < l.length := by
        have := Int.emod_lt_of_pos c' (show (0 : Int) < (n : Int) - i by omega)
        have := Int.emod_nonneg c' (show (n : Int) - i ≠ 0 by omega)
        omega
      refine ⟨_, _, _, _, _, rfl, ?_, ?_, ?_⟩
      · rw [rng_fold, ← h1]
        rfl
      · rw [List.length_eraseIdx, if_pos hlt]
        omega
      · rw [List.length_append, h3]
        rfl
  · rintro ρ1 ⟨l, r, c', x, y, rfl, h1, h2, h3⟩
    rw [List.length_range] at h1
    apply sd_frz (i := 3) rfl rfl
    apply sd_retE (p := Or.inl rfl)
    · walk_at "evd"
    · unfold ordV
      rw [← h1]
/-! ### rooms, signs -/
def R_lrooms (q : Nat) (ds : List D) (d : D) : Prop := ∃ (l : List Int) (t : Nat), t < q ∧ t ≤ 1000 ∧ l.length ≤ 16 ∧ ds = [dR l, .int (t : Nat)] ∧ d = dRs (subs t l)
def R_lsign (ds : List D) (d : D) : Prop := ∃ r : List Int, r.length ≤ 100 ∧ ds = [dL r] ∧ d = .int (osign r)
theorem sc__law_rooms : FnScope ["_law_items", "_law_size", "_law_found", "_law_k", "_law_rest"] ["_law_items", "_law_size"] (defScope s__law_rooms) := ⟨rfl, rfl, rfl, by decide +kernel, rfl, by decide +kernel, by decide +kernel⟩
theorem ok_lrooms (T : At K mg "_law_rooms" s__law_rooms ["_law_items", "_law_size"]) (B : Bi mg) : ∀ q : Nat, Has P w K mg base CX0 "_law_rooms" (q + 1) ["_law_items", "_law_size"] (spD K (R_lrooms q))
  | 0 => (has_never T sc__law_rooms).imp fun _ _ ⟨_, _, h, _⟩ => by omega
  | q + 1 => by
    have G__law_rooms := ok_lrooms T B q
    refine ok_H T sc__law_rooms (fun ds d h => by obtain ⟨_, _, _, _, _, rfl, _⟩ := h; rfl) (fun f cdv A outer s H E hr => ⟨_, (pss_cons (ps_if (pt_cmpR op_eq (pv 1) (pe_int) (nomark _)) (pss_one (ps_ret (pe_lst (pa_cons (pe_tup pa_nil) pa_nil)))) (pss_nil))
        (pss_cons (ps_set (i := 2) sc__law_rooms.nd rfl (by first | exact Or.inl rfl | exact Or.inr rfl) (pe_lst pa_nil))
        (pss_cons (ps_for PassesOwn.never rfl (pi_range1 rfl B.range (pa_cons (pe_op op_add (pe_op op_sub (pe_callB (cl_len K) rfl B.len PySem.boot_len (pa_cons (pv 0) pa_nil)) (pv 1)) (pe_int)) pa_nil)) (pg_name (i := 3) sc__law_rooms.nd rfl (by first | exact Or.inl rfl | exact Or.inr rfl)) (pss_one (ps_for PassesOwn.never rfl (pi_lK K (pe_callH G__law_rooms hr (by omega) rfl (pa_cons (pe_slice (sl_tK K) (pv 0) (po_some (pe_op op_add (pv 3) (pe_int))) po_none) (pa_cons (pe_op op_sub (pv 1) (pe_int)) pa_nil)))) (pg_name (i := 4) sc__law_rooms.nd rfl (by first | exact Or.inl rfl | exact Or.inr rfl)) (pss_one (ps_expr (pe_appendK K (pv 2) (pa_cons (pe_op (op_catK K) (pe_tup (pa_cons (pe_ix (ix_tK K) (pv 0) (pv 3) (fun _ _ => rfl)) pa_nil)) (pv 4)) pa_nil)))))))
        (pss_one (ps_ret (pv 2)))))), ?_⟩)
    rintro ds d ⟨l, t, ht, ht2, hl, rfl, rfl⟩
    have hl2 := subs_len t l
    have hl3 : 2 ^ l.length ≤ 2 ^ 16 := Nat.pow_le_pow_right (by omega) hl
    apply sd_seq
    apply sd_if
    · walk_at "evd"
    · intro c
      have : t = 0 := by simp at c; omega
      subst this
      apply sd_retE (p := Or.inl rfl)
      · walk_at "evd"
        all_goals walk_at "bnd"
      · rfl
    intro c
    apply sd_next
    obtain ⟨t, rfl⟩ : ∃ u, t = u + 1 := ⟨t - 1, by simp at c; omega⟩
    apply sd_seq
    apply sd_setN
    · walk_at "evn"
      all_goals walk_at "bnd"
    apply sd_seq
    apply sd_for (e := fun i : Nat => D.int (i : Nat)) (items := List.range (l.length - t)) (Inv := fun i ρ => ∃ x y, ρ = [.im (dR l), .im (.int ((t + 1 : Nat) : Nat)), .ml (((List.range i).flatMap fun k => (subs t (l.drop (k + 1))).map fun r => l.getD k 0 :: r).map dR), x, y])
    · apply iv_rngT
      · walk_at "evd"
      · rfl
      all_goals (rw [List.length_map]; omega)
    · exact ⟨_, _, rfl⟩
    · rintro i a ρ1 ha ⟨x, y, rfl⟩
      obtain rfl := rng_at ha
      have hi := rng_lt ha
      refine ⟨_, _, gd_name, ?_⟩
      apply sd_for (e := dR) (items := subs t (l.drop (i + 1))) (Inv := fun j ρ => ∃ y, ρ = [.im (dR l), .im (.int ((t + 1 : Nat) : Nat)), .ml ((((List.range i).flatMap fun k => (subs t (l.drop (k + 1))).map fun r => l.getD k 0 :: r) ++ ((subs t (l.drop (i + 1))).take j).map fun r => l.getD i 0 :: r).map dR), .im (.int (i : Nat)), y])
      · walk_at "evd"
        refine ⟨l.drop (i + 1), t, by omega, by omega, by rw [List.length_drop]; omega, ?_, rfl⟩
        rw [cut_lo1, ← List.map_drop]
        congr 3
        omega
      · refine ⟨y, ?_⟩
        rw [List.take_zero, List.map_nil, List.append_nil]
        rfl
      · rintro j r ρ1 hb ⟨y, rfl⟩
        refine ⟨_, _, gd_name, ?_⟩
        have hj : j < (subs t (l.drop (i + 1))).length := (List.getElem?_eq_some_iff.mp hb).1
        have hlr := subs_size hb
        apply sd_app
        · rfl
        · walk_at "evd"
          · omega
          · walk_at "bnd"
          · walk_at "bnd"
        · have e1 := flat_mono (f := fun k => (subs t (l.drop (k + 1))).map fun r => l.getD k 0 :: r) (Nat.succ_le_of_lt hi)
          rw [flat_succ, List.length_append, List.length_map] at e1
          have e2 : (subs (t + 1) l).length = ((List.range (l.length - t)).flatMap fun k => (subs t (l.drop (k + 1))).map fun r => l.getD k 0 :: r).length := rfl
          rw [List.length_map, List.length_append, List.length_map, List.length_take]
          omega
        · refine ⟨.im (dR r), ?_⟩
          rw [List.take_succ, hb, Option.toList_some]
          simp only [List.map_append, List.append_assoc]
          rfl
      · rintro ρ1 ⟨y, rfl⟩
        refine ⟨.im (.int (i : Nat)), y, ?_⟩
        rw [List.take_length, flat_succ]
    · rintro ρ1 ⟨x, y, rfl⟩
      apply sd_frz (i := 2) rfl rfl
      apply sd_retE (p := Or.inl rfl)
      · walk_at "evd"
      · rw [List.length_range]; rfl
theorem sc__law_sign : FnScope ["_law_row", "_law_sign_here", "_law_k", "_law_j"] ["_law_row"] (defScope s__law_sign) := ⟨rfl, rfl, rfl, by decide +kernel, rfl, by decide +kernel, by decide +kernel⟩
theorem ok_lsign (T : At K mg "_law_sign" s__law_sign ["_law_row"]) (B : Bi mg) : Has P w K mg base CX0 "_law_sign" 1 ["_law_row"] (spD K R_lsign) := by
  refine ok_H T sc__law_sign (fun ds d h => by obtain ⟨r, _, rfl, _⟩ := h; rfl) (fun f cdv A outer s H E hr => ⟨_, (pss_cons (ps_set (i := 1) sc__law_sign.nd rfl (by first | exact Or.inl rfl | exact Or.inr rfl) (pe_int))
        (pss_cons (ps_for PassesOwn.never rfl (pi_range1 rfl B.range (pa_cons (pe_callB (cl_len K) rfl B.len PySem.boot_len (pa_cons (pv 0) pa_nil)) pa_nil)) (pg_name (i := 2) sc__law_sign.nd rfl (by first | exact Or.inl rfl | exact Or.inr rfl)) (pss_one (ps_for PassesOwn.never rfl (pi_range1 rfl B.range (pa_cons (pv 2) pa_nil)) (pg_name (i := 3) sc__law_sign.nd rfl (by first | exact Or.inl rfl | exact Or.inr rfl)) (pss_one (ps_if (pt_cmpR op_gt (pe_ix (ix_lK K) (pv 0) (pv 3) (fun _ _ => rfl)) (pe_ix (ix_lK K) (pv 0) (pv 2) (fun _ _ => rfl)) (nomark _)) (pss_one (ps_set (i := 1) sc__law_sign.nd rfl (by first | exact Or.inl rfl | exact Or.inr rfl) (pe_un un_neg (pv 1)))) (pss_nil))))))
        (pss_one (ps_ret (pv 1))))), ?_⟩)
  rintro ds d ⟨r, hl, rfl, rfl⟩
  apply sd_seq
  apply sd_set
  · walk_at "evd"
  apply sd_seq
  apply sd_for (e := fun i : Nat => D.int (i : Nat)) (items := List.range r.length) (Inv := fun i ρ => ∃ x y, ρ = [.im (dL r), .im (.int ((List.range i).foldl (osOut r) 1)), x, y])
  · apply iv_rngN
    · walk_at "evd"
    · rw [List.length_map]
    · omega
  · exact ⟨_, _, rfl⟩
  · rintro i a ρ1 ha ⟨x, y, rfl⟩
    obtain rfl := rng_at ha
    have hi : i < r.length := rng_lt ha
    refine ⟨_, _, gd_name, ?_⟩
    apply sd_for (e := fun i : Nat => D.int (i : Nat)) (items := List.range i) (Inv := fun j ρ => ∃ y, ρ = [.im (dL r), .im (.int ((List.range j).foldl (osIn r i) ((List.range i).foldl (osOut r) 1))), .im (.int (i : Nat)), y])
    · apply iv_rngN
      · walk_at "evd"
      · rfl
      · omega
    · exact ⟨_, rfl⟩
    · rintro j b ρ1 hb ⟨y, rfl⟩
      obtain rfl := rng_at hb
      have hj : j < i := rng_lt hb
      refine ⟨_, _, gd_name, ?_⟩
      apply sd_if
      · walk_at "evd"
        all_goals omega
      · intro c
        apply sd_set
        · walk_at "evd"
        · refine ⟨.im (.int (j : Nat)), ?_⟩
          rw [rng_fold]
          show _ = [_, Ent.im (.int (if r.getD j 0 > r.getD i 0 then _ else _)), _, _]
          rw [if_pos (of_decide_eq_true c)]
          rfl
      · intro c
        apply sd_next
        refine ⟨.im (.int (j : Nat)), ?_⟩
        rw [rng_fold]
        show _ = [_, Ent.im (.int (if r.getD j 0 > r.getD i 0 then _ else _)), _, _]
        rw [if_neg (of_decide_eq_false c)]
        rfl
    · rintro ρ1 ⟨y, rfl⟩
      refine ⟨.im (.int (i : Nat)), y, ?_⟩
      rw [List.length_range, rng_fold]
      rfl
  · rintro ρ1 ⟨x, y, rfl⟩
    apply sd_retE (p := Or.inl rfl)
    · walk_at "evd"
    · rw [List.length_range]; rfl
/-! ### orders -/
abbrev dLs (os : List (List Int)) : D := .lst (os.map dL)
def mixS (way : Int) (os : List (List Int)) (k : Nat) : List (List Int) := (if way = 2 then fun os : List (List Int) => os.set k (os.getD (k - 1) []).reverse else id) ((if way = 1 then fun os : List (List Int) => os.set k (os.getD (k - 1) []) else id) os)
def ordersV (xs : List Int) (d v : Nat) : List (List Int) := (List.range (d - 1)).foldl (fun os k => mixS (cellV xs 6 % 4) os (k + 1)) ((List.range d).map fun k => ordV (cellV xs (2 + k)) v)
theorem r_cell {xs : List Int} {k : Nat} (h : xs.length ≤ 1000000 ∧ k ≤ 1000) : R_cell [.frz (xs.map D.int), .int ((k : Nat) : Int)] (.int (cellV xs k)) := ⟨xs, k, h.1, h.2, rfl, rfl⟩
theorem r_order {c : Int} {n : Nat} (h : n ≤ 100) : R_order [.int c, .int ((n : Nat) : Int)] (.lst ((ordV c n).map D.int)) := ⟨c, n, h, rfl, rfl⟩
theorem r_lrooms {q t : Nat} {l : List Int} (h : t < q ∧ t ≤ 1000 ∧ l.length ≤ 16) : R_lrooms q [.tup (l.map D.int), .int ((t : Nat) : Int)] (.lst ((subs t l).map fun r => .tup (r.map D.int))) := ⟨l, t, h.1, h.2.1, h.2.2, rfl, rfl⟩
theorem r_lsign {r : List Int} (h : r.length ≤ 100) : R_lsign [.lst (r.map D.int)] (.int (osign r)) := ⟨r, h, rfl, rfl⟩
local macro_rules | `(tactic| walk_at "rel") => `(tactic| first | with_reducible apply r_cell | with_reducible apply r_order | with_reducible apply r_lrooms | with_reducible apply r_lsign)
theorem ordV_len (c : Int) (n : Nat) : (ordV c n).length = n := by
  have key : ∀ m, ((List.range m).foldl (ordS n) (rgI 0 n, [], c)).2.1.length = m := by
    intro m
    induction m with
    | zero => rfl
    | succ m ih =>
      rw [rng_fold]
      show ((((List.range m).foldl (ordS n) (rgI 0 n, [], c)).2.1) ++ [_]).length = _
      rw [List.length_append, ih]
      rfl
  exact key n
def R_orders (ds : List D) (d : D) : Prop := ∃ (xs : List Int) (n v : Nat), xs.length ≤ 1000000 ∧ 1 ≤ n ∧ n ≤ 10 ∧ v ≤ 100 ∧ ds = [dF xs, .int (n : Nat), .int (v : Nat)] ∧ d = dLs (ordersV xs n v)
theorem sc__law_orders : FnScope ["_law_script", "_law_d", "_law_v", "_law_orders_here", "_law_k", "_law_way"] ["_law_script", "_law_d", "_law_v"] (defScope s__law_orders) := ⟨rfl, rfl, rfl, by decide +kernel, rfl, by decide +kernel, by decide +kernel⟩
theorem ok_orders (T : At K mg "_law_orders" s__law_orders ["_law_script", "_law_d", "_law_v"]) (B : Bi mg) (G__law_order : Has P w K mg base CX0 "_law_order" 1 ["_law_cell_here", "_law_n"] (spD K R_order)) (G__law_cell : Has P w K mg base CX0 "_law_cell" 1 ["_law_script", "_law_k"] (spD K R_cell)) : Has P w K mg base CX0 "_law_orders" 2 ["_law_script", "_law_d", "_law_v"] (spD K R_orders) := by
  refine ok_H T sc__law_orders (fun ds d h => by obtain ⟨_, _, _, _, _, _, _, rfl, _⟩ := h; rfl) (fun f cdv A outer s H E hr => ⟨_, (pss_cons (ps_setLc (i := 3) (own := [("_law_k", 4)]) (by rfl) sc__law_orders.nd rfl rfl (sw_true rfl rfl rfl (by decide +kernel)) (pi_range1 rfl B.range (pa_cons (pv 1) pa_nil)) (blkOk_by (N := ["_law_script", "_law_d", "_law_v", "_law_orders_here", "_law_k", "_law_way"]) (sc := (defScope s__law_orders)) (by decide +kernel)) (fun _ _ _ _ _ => pg_name (i := 4) sc__law_orders.nd rfl (by first | exact Or.inl rfl | exact Or.inr rfl)) (fun _ _ _ _ _ => pts_nil) (fun _ _ _ _ _ => pe_callH G__law_order hr (by decide) rfl (pa_cons (pe_callH G__law_cell hr (by decide) rfl (pa_cons (pv 0) (pa_cons (pe_op op_add (pe_int) (pv 4)) pa_nil))) (pa_cons (pv 2) pa_nil))))
        (pss_cons (ps_set (i := 5) sc__law_orders.nd rfl (by first | exact Or.inl rfl | exact Or.inr rfl) (pe_op op_mod (pe_callTy call_int1 rfl B.int (by decide +kernel) (pa_cons (pe_callH G__law_cell hr (by decide) rfl (pa_cons (pv 0) (pa_cons (pe_int) pa_nil))) pa_nil)) (pe_int)))
        (pss_cons (ps_for PassesOwn.never rfl (pi_range2 rfl B.range (pa_cons (pe_int) (pa_cons (pv 1) pa_nil))) (pg_name (i := 4) sc__law_orders.nd rfl (by first | exact Or.inl rfl | exact Or.inr rfl)) (pss_cons (ps_if (pt_cmpR op_eq (pv 5) (pe_int) (nomark _)) (pss_one (ps_asg (pe_callTy (cl_list K) rfl B.list (by decide +kernel) (pa_cons (pe_ix (ix_lK K) (pv 3) (pe_op op_sub (pv 4) (pe_int)) (fun _ _ => rfl)) pa_nil)) (pg_sub (pv 3) (pv 4) set_list))) (pss_nil))
        (pss_one (ps_if (pt_cmpR op_eq (pv 5) (pe_int) (nomark _)) (pss_one (ps_asg (pe_revLK K (pe_ix (ix_lK K) (pv 3) (pe_op op_sub (pv 4) (pe_int)) (fun _ _ => rfl))) (pg_sub (pv 3) (pv 4) set_list))) (pss_nil)))))
        (pss_one (ps_ret (pv 3)))))), ?_⟩)
  rintro ds d ⟨xs, n, v, hx, h1, hn, hv, rfl, rfl⟩
  apply sd_seq
  apply sd_setN
  · apply evn_lc (e := fun i : Nat => D.int ((i : Nat) : Int)) (items := List.range n) (p := fun _ => true) (h := fun k => D.lst ((ordV (cellV xs (2 + k)) v).map D.int))
    · exact iv_rngN (by walk_at "evd") rfl (by omega)
    · intro a ha
      exact gd_name
    · intro a ha
      walk_at "evd"
    · intro a ha _
      walk_at "evd"
      · exact r_cell (k := 2 + a) ⟨hx, by have := List.mem_range.mp ha; omega⟩
      · exact hv
    · rw [List.length_range]
      omega
  apply sd_seq
  apply sd_set
  · walk_at "evd"
    · exact r_cell (k := 6) ⟨hx, by decide⟩
    · decide
  apply sd_seq
  apply sd_for (e := fun i : Nat => D.int ((i + 1 : Nat) : Nat)) (items := List.range (n - 1)) (Inv := fun i ρ => ∃ y os, ρ = [.im (dF xs), .im (.int (n : Nat)), .im (.int (v : Nat)), .ml (os.map dL), y, .im (.int (cellV xs 6 % 4))] ∧ os = (List.range i).foldl (fun os k => mixS (cellV xs 6 % 4) os (k + 1)) ((List.range n).map fun k => ordV (cellV xs (2 + k)) v) ∧ os.length = n)
  · have h := fun ρ hr => iv_rng2 (K := K) (ρ := ρ) (ta := (tCons (tC (V.int 1)) (tCons (tVar 1) tNil))) (m := 1) (n := n) hr (by omega) (by omega)
    rw [show ((n : Int) - 1).toNat = n - 1 by omega] at h
    have e : ((List.range (n - 1)).map fun i => D.int (1 + (i : Nat))) = (List.range (n - 1)).map fun i => D.int ((i + 1 : Nat) : Nat) := by
      apply List.map_congr_left
      intro a _
      congr 1
      omega
    rw [e] at h
    apply h
    walk_at "evd"
  · refine ⟨.un, (List.range n).map fun k => ordV (cellV xs (2 + k)) v, ?_, rfl, ?_⟩
    · have e : (List.range n).filter (fun _ => true) = List.range n := List.filter_eq_self.mpr (fun _ _ => rfl)
      rw [List.map_map, e]
      rfl
    · rw [List.length_map, List.length_range]
  · rintro i a ρ1 ha ⟨y, os, rfl, h3, h4⟩
    obtain rfl := rng_at ha
    have hi := rng_lt ha
    refine ⟨_, _, gd_name, ?_⟩
    apply sd_seqQ (fun o => ∃ os', o = .nx [.im (dF xs), .im (.int (n : Nat)), .im (.int (v : Nat)), .ml (os'.map dL), .im (.int ((i + 1 : Nat) : Nat)), .im (.int (cellV xs 6 % 4))] ∧ os' = (if cellV xs 6 % 4 = 1 then fun os : List (List Int) => os.set (i + 1) (os.getD i []) else id) os ∧ os'.length = n)
    · apply sd_if
      · walk_at "evd"
      · intro c
        apply sd_setIt (f := dL) (k := i + 1) (b := os.getD i [])
        · rfl
        · apply EvN.ev
          apply evn_cb (r := rListOf _)
          · apply eva_cons
            · apply evd_ixMm (f := dL) (l := os) (j := i) (x := []) rfl
              · apply EvD.is
                · walk_at "evd"
                · congr 1
                  omega
              · omega
            · walk_at "evd"
          · exact rn_listL
        · rfl
        · walk_at "evd"
        · omega
        · refine ⟨_, rfl, ?_, ?_⟩
          · rw [if_pos (of_decide_eq_true c)]
          · rw [List.length_set, h4]
      · intro c
        apply sd_next
        refine ⟨_, rfl, ?_, h4⟩
        rw [if_neg (of_decide_eq_false c)]
        rfl
    · rintro ρ' ⟨os', h, h5, h6⟩
      cases h
      apply sd_if
      · walk_at "evd"
      · intro c
        apply sd_setIt (f := dL) (k := i + 1) (b := (os'.getD i []).reverse) (d := .lst ((os'.getD i []).map D.int).reverse)
        · rfl
        · apply EvD.is
          · apply EvN.ev
            apply evn_revL
            · apply evd_ixMm (f := dL) (l := os') (j := i) (x := []) rfl
              · apply EvD.is
                · walk_at "evd"
                · congr 1
                  omega
              · omega
          · rfl
        · show _ = D.lst (((os'.getD i []).reverse).map D.int)
          rw [List.map_reverse]
        · walk_at "evd"
        · omega
        · refine ⟨_, _, rfl, ?_, ?_⟩
          · rw [rng_fold, ← h3]
            unfold mixS
            rw [if_pos (of_decide_eq_true c), h5]
            rfl
          · rw [List.length_set, h6]
      · intro c
        apply sd_next
        refine ⟨_, _, rfl, ?_, h6⟩
        rw [rng_fold, ← h3]
        unfold mixS
        rw [if_neg (of_decide_eq_false c), h5]
        rfl
    · rintro d ⟨_, h, _⟩
      cases h
    · rintro d ⟨_, h, _⟩
      cases h
    · rintro d ⟨_, h, _⟩
      cases h
  · rintro ρ1 ⟨y, os, rfl, h3, h4⟩
    rw [List.length_range] at h3
    apply sd_frz (i := 3) rfl rfl
    apply sd_retE (p := Or.inl rfl)
    · walk_at "evd"
    · rw [h3]
      rfl
theorem r_orders {xs : List Int} {n v : Nat} (h : xs.length ≤ 1000000 ∧ 1 ≤ n ∧ n ≤ 10 ∧ v ≤ 100) : R_orders [.frz (xs.map D.int), .int ((n : Nat) : Int), .int ((v : Nat) : Int)] (.lst ((ordersV xs n v).map fun r => .lst (r.map D.int))) := ⟨xs, n, v, h.1, h.2.1, h.2.2.1, h.2.2.2, rfl, rfl⟩
local macro_rules | `(tactic| walk_at "rel") => `(tactic| with_reducible apply r_orders)
def R_lfull (ds : List D) (d : D) : Prop := ∃ (os : List (List Int)) (n v : Nat), os.length = n ∧ n ≤ 10 ∧ v ≤ 100 ∧ (∀ o ∈ os, o.length ≤ 100) ∧ ds = [dLs os, .int (v : Nat)] ∧ d = dLs (frows os n v)
theorem sc__law_full : FnScope ["_law_orders_here", "_law_v", "_law_rows", "_law_k", "_law_j"] ["_law_orders_here", "_law_v"] (defScope s__law_full) := ⟨rfl, rfl, rfl, by decide +kernel, rfl, by decide +kernel, by decide +kernel⟩
theorem ok_lfull (T : At K mg "_law_full" s__law_full ["_law_orders_here", "_law_v"]) (B : Bi mg) : Has P w K mg base CX0 "_law_full" 1 ["_law_orders_here", "_law_v"] (spD K R_lfull) := by
  refine ok_H T sc__law_full (fun ds d h => by obtain ⟨_, _, _, _, _, _, _, rfl, _⟩ := h; rfl) (fun f cdv A outer s H E hr => ⟨_, (pss_cons (ps_set (i := 2) sc__law_full.nd rfl (by first | exact Or.inl rfl | exact Or.inr rfl) (pe_lst pa_nil))
        (pss_cons (ps_for PassesOwn.never rfl (pi_range1 rfl B.range (pa_cons (pe_callB (cl_len K) rfl B.len PySem.boot_len (pa_cons (pv 0) pa_nil)) pa_nil)) (pg_name (i := 3) sc__law_full.nd rfl (by first | exact Or.inl rfl | exact Or.inr rfl)) (pss_one (ps_expr (pe_appendK K (pv 2) (pa_cons (pe_op op_cat (pe_op op_cat (pe_lst (pa_cons (pe_op op_add (pv 1) (pv 3)) pa_nil)) (pe_ix (ix_lK K) (pv 0) (pv 3) (fun _ _ => rfl))) (pe_lc (own := [("_law_j", 4)]) (by rfl) sc__law_full.nd (pi_range1 rfl B.range (pa_cons (pe_callB (cl_len K) rfl B.len PySem.boot_len (pa_cons (pv 0) pa_nil)) pa_nil)) (blkOk_by (N := ["_law_orders_here", "_law_v", "_law_rows", "_law_k", "_law_j"]) (sc := (defScope s__law_full)) (by decide +kernel)) (fun _ _ _ _ _ => pg_name (i := 4) sc__law_full.nd rfl (by first | exact Or.inl rfl | exact Or.inr rfl)) (fun _ _ _ _ _ => pts_one (pt_cmpR op_ne (pv 4) (pv 3) (nomark _))) (fun _ _ _ _ _ => pe_op op_add (pv 1) (pv 4)))) pa_nil)))))
        (pss_one (ps_ret (pv 2))))), ?_⟩)
  rintro ds d ⟨os, n, v, hl, hn, hv, ho, rfl, rfl⟩
  apply sd_seq
  apply sd_setN
  · walk_at "evn"
    all_goals walk_at "bnd"
  apply sd_seq
  apply sd_for (e := fun i : Nat => D.int (i : Nat)) (items := List.range n) (Inv := fun i ρ => ∃ x y, ρ = [.im (dLs os), .im (.int (v : Nat)), .ml (((List.range i).map fun i => frow n v i (os.getD i [])).map dL), x, y])
  · apply iv_rngN
    · walk_at "evd"
    · rw [List.length_map, hl]
    · omega
  · exact ⟨_, _, rfl⟩
  · rintro i a ρ1 ha ⟨x, y, rfl⟩
    obtain rfl := rng_at ha
    have hi := rng_lt ha
    have hol : (os.getD i []).length ≤ 100 := by
      rw [List.getD_eq_getElem?_getD, List.getElem?_eq_getElem (by omega)]
      exact ho _ (List.getElem_mem _)
    refine ⟨_, _, gd_name, ?_⟩
    apply sd_appE (f := dL) (b := frow n v i (os.getD i []))
    · rfl
    · walk_at "evd"
      · exact Nat.le_trans (show _ ≤ 1 from Nat.le_refl _) (by decide)
      · omega
      · have := szl
        rw [List.length_map]
        show 1 + _ ≤ _
        omega
      · rw [List.length_map]
        omega
      · rw [List.length_map]
        omega
      · rw [List.length_range, List.length_map]
        omega
      · have := szl
        have e := List.length_filter_le (fun a : Nat => !decide ((a : Int) = (i : Int))) (List.range (((os.map dL).length : Nat) : Int).toNat)
        rw [List.length_range, List.length_map] at e
        rw [List.length_append, List.length_map, List.length_map]
        show 1 + _ + _ ≤ _
        rw [List.length_map]
        omega
    · show D.lst _ = D.lst ((((v + i : Nat) : Int) :: (os.getD i [] ++ others n v i)).map D.int)
      unfold others
      rw [List.map_cons, List.map_append, List.map_map, List.length_map, hl, Int.toNat_natCast]
      congr 1
      show D.int _ :: _ = D.int _ :: _
      congr 2
      refine congr (congrArg _ ?_) (List.filter_congr ?_)
      · funext a
        show D.int _ = D.int _
        congr 1
      · intro k _
        simp
        omega
    · rw [List.length_map, List.length_range]
      omega
    · refine ⟨.im (.int (i : Nat)), y, ?_⟩
      rw [List.range_succ, List.map_append (f := fun i => frow n v i (os.getD i []))]
      rfl
  · rintro ρ1 ⟨x, y, rfl⟩
    rw [List.length_range]
    apply sd_frz (i := 2) rfl rfl
    apply sd_retE (p := Or.inl rfl)
    · walk_at "evd"
    · rfl
theorem fst_cons (a : Int) (l room : List Int) : fst (a :: l) room = if a ∈ room then a else fst l room := by
  unfold fst
  rw [List.filter_cons]
  split
  · rename_i h
    rw [if_pos (of_decide_eq_true h)]
    rfl
  · rename_i h
    rw [if_neg (fun h2 => h (decide_eq_true h2))]
theorem fst_min {room : List Int} : ∀ {row : List Int}, row.length ≤ 100 → ∀ q ∈ room, q ∈ row → ixOf (fst row room) row ≤ ixOf q row
  | [], _, q, _, h => by cases h
  | a :: l, hz, q, h1, h2 => by
    rw [fst_cons]
    split
    · unfold ixOf
      rw [if_pos rfl]
      exact Nat.zero_le _
    · rename_i h
      have hq : a ≠ q := fun e => h (e ▸ h1)
      have hl : q ∈ l := (List.mem_cons.mp h2).resolve_left (Ne.symm hq)
      have hf : fst l room ∈ room := (Meet.fst (row := l) ⟨Nat.le_trans (Nat.le_succ _) hz, q, hl, h1⟩).2
      have hf2 : a ≠ fst l room := fun e => h (e ▸ hf)
      unfold ixOf
      rw [if_neg hq, if_neg hf2]
      exact Nat.succ_le_succ (fst_min (Nat.le_trans (Nat.le_succ _) hz) q h1 hl)
def R_lleast (ds : List D) (d : D) : Prop := ∃ (rows : List (List Int)) (room : List Int), rows.length ≤ 100 ∧ room ≠ [] ∧ room.length ≤ 100 ∧ (∀ row ∈ rows, row.length ≤ 100 ∧ ∀ p ∈ room, p ∈ row) ∧ ds = [dLs rows, dR room] ∧ d = dL (rows.map fun row => fst row room)
theorem sc__law_least_row : FnScope ["_law_rows", "_law_room", "_law_p", "_law_row"] ["_law_rows", "_law_room"] (defScope s__law_least_row) := ⟨rfl, rfl, rfl, by decide +kernel, rfl, by decide +kernel, by decide +kernel⟩
theorem ok_lleast (T : At K mg "_law_least_row" s__law_least_row ["_law_rows", "_law_room"]) (B : Bi mg) : Has P w K mg base CX0 "_law_least_row" 1 ["_law_rows", "_law_room"] (spD K R_lleast) := by
  refine ok_H T sc__law_least_row (fun ds d h => by obtain ⟨_, _, _, _, _, _, rfl, _⟩ := h; rfl) (fun f cdv A outer s H E hr => ⟨_, (pss_one (ps_ret (pe_lc (own := [("_law_row", 3)]) (by rfl) sc__law_least_row.nd (pi_lK K (pv 0)) (blkOk_by (N := ["_law_rows", "_law_room", "_law_p", "_law_row"]) (sc := (defScope s__law_least_row)) (by decide +kernel)) (fun _ _ _ _ _ => pg_name (i := 3) sc__law_least_row.nd rfl (by first | exact Or.inl rfl | exact Or.inr rfl)) (fun _ _ _ _ _ => pts_nil) (fun _ _ _ _ _ => pe_ix (ix_lK K) (pv 3) (pe_callB (cl_min K) rfl B.min (by decide +kernel) (pa_cons (pe_lc (own := [("_law_p", 2)]) (by rfl) sc__law_least_row.nd (pi_tK K (pv 1)) (blkOk_by (N := ["_law_rows", "_law_room", "_law_p", "_law_row"]) (sc := ({ kind := PySem.ScopeKind.function, names := [ (PySem.Str.ofString ".0", PySem.NameKind.local), (PySem.Str.ofString "_law_row", PySem.NameKind.cell), (PySem.Str.ofString "min", PySem.NameKind.globalImplicit), (PySem.Str.ofString "_law_room", PySem.NameKind.cell)], isGenerator := false, isCoroutine := false, more := [] : PySem.Scope })) (by decide +kernel)) (fun _ _ _ _ _ => pg_name (i := 2) sc__law_least_row.nd rfl (by first | exact Or.inl rfl | exact Or.inr rfl)) (fun _ _ _ _ _ => pts_nil) (fun _ _ _ _ _ => pe_bmK K PySem.F.plainAttrs_list PySem.F.slot_list_index PySem.F.type_list_index (mt_lix K) (pv 3) (pa_cons (pv 2) pa_nil))) pa_nil)) (fun _ _ => rfl))))), ?_⟩)
  rintro ds d ⟨rows, room, hr, hne, hrm, h, rfl, rfl⟩
  apply sd_retE (p := Or.inl rfl)
  · apply EvN.ev
    apply evn_lc (e := dL) (items := rows) (p := fun _ => true) (h := fun row => D.int (fst row room))
    · walk_at "evd"
    · intro a _
      exact gd_name
    · intro a _
      walk_at "evd"
    · intro row hw _
      obtain ⟨hl, hp⟩ := h row hw
      obtain ⟨p0, hp0⟩ := List.exists_mem_of_ne_nil _ hne
      have M : Meet row room := ⟨hl, p0, hp p0 hp0, hp0⟩
      apply evd_op
      · walk_at "evd"
      · apply evd_cb
        · apply eva_cons
          · apply EvN.ev
            apply evn_lc (e := D.int) (items := room) (p := fun _ => true) (h := fun p => D.int (ixOf p row : Nat))
            · walk_at "evd"
            · intro a _
              exact gd_name
            · intro a _
              walk_at "evd"
            · intro q hq _
              walk_at "evd"
              exact hp q hq
            · omega
          · exact eva_nil
        · apply rc_min' (m := ((ixOf (fst row room) row : Nat) : Int)) (ns := room.map fun p => ((ixOf p row : Nat) : Int))
          · rw [filt_true, List.map_map]
            rfl
          · exact List.mem_map.mpr ⟨_, M.fst.2, rfl⟩
          · intro y hy
            obtain ⟨q, hq, rfl⟩ := List.mem_map.mp hy
            exact Int.ofNat_le.mpr (fst_min hl q hq (hp q hq))
      · have e := ixOf_at M.fst.1
        have h5 := rv_ixLI (K := K) (r := row) (j := ixOf (fst row room) row) (ixOf_lt M.fst.1)
        rw [List.getD_eq_getElem?_getD, e] at h5
        exact h5
    · omega
  · rw [filt_true]
    show D.lst _ = D.lst (List.map D.int (List.map _ _))
    rw [List.map_map]
    rfl
theorem r_lfull {os : List (List Int)} {n v : Nat} (h : os.length = n ∧ n ≤ 10 ∧ v ≤ 100 ∧ (∀ o ∈ os, o.length ≤ 100)) : R_lfull [.lst (os.map fun o => .lst (o.map D.int)), .int (v : Nat)] (.lst ((frows os n v).map fun o => .lst (o.map D.int))) := ⟨os, n, v, h.1, h.2.1, h.2.2.1, h.2.2.2, rfl, rfl⟩
theorem r_lleast {rows : List (List Int)} {room : List Int} (h : rows.length ≤ 100 ∧ room ≠ [] ∧ room.length ≤ 100 ∧ (∀ row ∈ rows, row.length ≤ 100 ∧ ∀ p ∈ room, p ∈ row)) : R_lleast [.lst (rows.map fun o => .lst (o.map D.int)), .tup (room.map D.int)] (.lst ((rows.map fun row => fst row room).map D.int)) := ⟨rows, room, h.1, h.2.1, h.2.2.1, h.2.2.2, rfl, rfl⟩
local macro_rules | `(tactic| walk_at "rel") => `(tactic| first | with_reducible apply r_lfull | with_reducible apply r_lleast)
/-- a room is beaten: some place is above it in all rows -/
def lbeat (rows : List (List Int)) (room : List Int) (p : Int) : Bool := rows.all fun row => decide (ixOf p row > ixOf (fst row room) row)
def R_lunb (ds : List D) (d : D) : Prop := ∃ (rows : List (List Int)) (m : Nat), 1 ≤ rows.length ∧ rows.length ≤ 4 ∧ m ≤ 15 ∧ (∀ row ∈ rows, row.length = m ∧ ∀ p : Int, 0 ≤ p → p < m → p ∈ row) ∧ ds = [dLs rows] ∧ d = dRs ((subs rows.length (rgI 0 m)).filter fun room => !((rgI 0 m).any (lbeat rows room)))
theorem sc__law_unbeaten : FnScope ["_law_rows", "_law_n", "_law_found", "_law_room", "_law_least", "_law_beaters", "_law_p", "_law_behind", "_law_k"] ["_law_rows"] (defScope s__law_unbeaten) := ⟨rfl, rfl, rfl, by decide +kernel, rfl, by decide +kernel, by decide +kernel⟩
theorem ok_lunb (T : At K mg "_law_unbeaten" s__law_unbeaten ["_law_rows"]) (B : Bi mg) (G__law_rooms : Has P w K mg base CX0 "_law_rooms" 6 ["_law_items", "_law_size"] (spD K (R_lrooms 5))) (G__law_least_row : Has P w K mg base CX0 "_law_least_row" 1 ["_law_rows", "_law_room"] (spD K R_lleast)) : Has P w K mg base CX0 "_law_unbeaten" 7 ["_law_rows"] (spD K R_lunb) := by
  refine ok_H T sc__law_unbeaten (fun ds d h => by obtain ⟨_, _, _, _, _, _, rfl, _⟩ := h; rfl) (fun f cdv A outer s H E hr => ⟨_, (pss_cons (ps_set (i := 1) sc__law_unbeaten.nd rfl (by first | exact Or.inl rfl | exact Or.inr rfl) (pe_callB (cl_len K) rfl B.len PySem.boot_len (pa_cons (pe_ix (ix_lK K) (pv 0) (pe_int) (fun _ _ => rfl)) pa_nil)))
        (pss_cons (ps_set (i := 2) sc__law_unbeaten.nd rfl (by first | exact Or.inl rfl | exact Or.inr rfl) (pe_lst pa_nil))
        (pss_cons (ps_for PassesOwn.never rfl (pi_lK K (pe_callH G__law_rooms hr (by decide) rfl (pa_cons (pe_tupRg rfl rfl B.tuple (prg_1 rfl B.range (pv 1))) (pa_cons (pe_callB (cl_len K) rfl B.len PySem.boot_len (pa_cons (pv 0) pa_nil)) pa_nil)))) (pg_name (i := 3) sc__law_unbeaten.nd rfl (by first | exact Or.inl rfl | exact Or.inr rfl)) (pss_cons (ps_set (i := 4) sc__law_unbeaten.nd rfl (by first | exact Or.inl rfl | exact Or.inr rfl) (pe_callH G__law_least_row hr (by decide) rfl (pa_cons (pv 0) (pa_cons (pv 3) pa_nil))))
        (pss_cons (ps_set (i := 5) sc__law_unbeaten.nd rfl (by first | exact Or.inl rfl | exact Or.inr rfl) (pe_int))
        (pss_cons (ps_for PassesOwn.never rfl (pi_range1 rfl B.range (pa_cons (pv 1) pa_nil)) (pg_name (i := 6) sc__law_unbeaten.nd rfl (by first | exact Or.inl rfl | exact Or.inr rfl)) (pss_cons (ps_setLc (i := 7) (own := [("_law_k", 8)]) (by rfl) sc__law_unbeaten.nd rfl rfl (sw_true rfl rfl rfl (by decide +kernel)) (pi_range1 rfl B.range (pa_cons (pe_callB (cl_len K) rfl B.len PySem.boot_len (pa_cons (pv 0) pa_nil)) pa_nil)) (blkOk_by (N := ["_law_rows", "_law_n", "_law_found", "_law_room", "_law_least", "_law_beaters", "_law_p", "_law_behind", "_law_k"]) (sc := (defScope s__law_unbeaten)) (by decide +kernel)) (fun _ _ _ _ _ => pg_name (i := 8) sc__law_unbeaten.nd rfl (by first | exact Or.inl rfl | exact Or.inr rfl)) (fun _ _ _ _ _ => pts_one (pt_cmpR op_gt (pe_bmK K PySem.F.plainAttrs_list PySem.F.slot_list_index PySem.F.type_list_index (mt_lix K) (pe_ix (ix_lK K) (pv 0) (pv 8) (fun _ _ => rfl)) (pa_cons (pv 6) pa_nil)) (pe_bmK K PySem.F.plainAttrs_list PySem.F.slot_list_index PySem.F.type_list_index (mt_lix K) (pe_ix (ix_lK K) (pv 0) (pv 8) (fun _ _ => rfl)) (pa_cons (pe_ix (ix_lK K) (pv 4) (pv 8) (fun _ _ => rfl)) pa_nil)) (nomark _))) (fun _ _ _ _ _ => pv 8))
        (pss_one (ps_if (pt_cmpR op_eq (pe_callB (cl_len K) rfl B.len PySem.boot_len (pa_cons (pv 7) pa_nil)) (pe_callB (cl_len K) rfl B.len PySem.boot_len (pa_cons (pv 0) pa_nil)) (nomark _)) (pss_one (ps_set (i := 5) sc__law_unbeaten.nd rfl (by first | exact Or.inl rfl | exact Or.inr rfl) (pe_op op_add (pv 5) (pe_int)))) (pss_nil)))))
        (pss_one (ps_if (pt_cmpR op_eq (pv 5) (pe_int) (nomark _)) (pss_one (ps_expr (pe_appendK K (pv 2) (pa_cons (pv 3) pa_nil)))) (pss_nil)))))))
        (pss_one (ps_ret (pv 2)))))), ?_⟩)
  rintro ds d ⟨rows, m, hr1, hr4, hm, h, rfl, rfl⟩
  have hget : ∀ k, k < rows.length → rows.getD k [] ∈ rows := fun k hk => by
    rw [List.getD_eq_getElem?_getD, List.getElem?_eq_getElem hk]
    exact List.getElem_mem _
  have hm0 : (rows.getD 0 []).length = m := (h _ (hget 0 (by omega))).1
  have lrg : (rgI 0 (m : Int)).length = m := by
    rw [len_rgI]
  have hf := subs_few (s := rows.length) (l := rgI 0 (m : Int)) (by omega)
  apply sd_seq
  apply sd_setE (d := .int (m : Nat))
  · walk_at "evd"
    exact Nat.lt_of_lt_of_le Nat.zero_lt_one hr1
  · rw [List.length_map, hm0]
  apply sd_seq
  apply sd_setN
  · walk_at "evn"
    all_goals walk_at "bnd"
  apply sd_seq
  apply sd_for (e := dR) (items := subs rows.length (rgI 0 m)) (Inv := fun i ρ => ∃ x y z t u v, ρ = [.im (dLs rows), .im (.int (m : Nat)), .ml ((((subs rows.length (rgI 0 m)).take i).filter fun room => !((rgI 0 m).any (lbeat rows room))).map dR), x, y, z, t, u, v])
  · walk_at "evd"
    · exact RgOk.of_le (by omega) (by omega) (by omega) (by omega)
    · rw [List.length_map]
      exact ⟨_, _, by omega, by omega, by omega, rfl, rfl⟩
  · exact ⟨.un, .un, .un, .un, .un, .un, rfl⟩
  · rintro i room ρ1 ha ⟨x, y, z, t, u, v, rfl⟩
    have hmem : room ∈ subs rows.length (rgI 0 m) := List.mem_of_getElem? ha
    obtain ⟨hsl, hsub⟩ := subs_mem hmem
    have hin : ∀ p ∈ room, 0 ≤ p ∧ p < (m : Int) := fun p hp => mem_rgI.mp (hsub.subset hp)
    have hne : room ≠ [] := fun e => by rw [e] at hsl; simp at hsl; omega
    have hrow : ∀ row ∈ rows, row.length ≤ 100 ∧ ∀ p ∈ room, p ∈ row := fun row hr => ⟨by have := (h row hr).1; omega, fun p hp => (h row hr).2 p (hin p hp).1 (hin p hp).2⟩
    have hi : i < (subs rows.length (rgI 0 (m : Int))).length := (List.getElem?_eq_some_iff.mp ha).1
    refine ⟨_, _, gd_name, ?_⟩
    apply sd_seq
    apply sd_set
    · walk_at "evd"
      exact ⟨by omega, hne, by omega, hrow⟩
    apply sd_seq
    apply sd_set
    · walk_at "evd"
    apply sd_seq
    apply sd_for (e := fun i : Nat => D.int (i : Nat)) (items := List.range m) (Inv := fun j ρ => ∃ t u, ρ = [.im (dLs rows), .im (.int (m : Nat)), .ml ((((subs rows.length (rgI 0 m)).take i).filter fun room => !((rgI 0 m).any (lbeat rows room))).map dR), .im (dR room), .im (dL (rows.map fun row => fst row room)), .im (.int (((List.range j).filter fun p => lbeat rows room (p : Nat)).length : Nat)), t, u, v])
    · apply iv_rngN
      · walk_at "evd"
      · rfl
      · omega
    · exact ⟨_, _, rfl⟩
    · rintro j b ρ1 hb ⟨t, u, rfl⟩
      obtain rfl := rng_at hb
      have hj : j < m := rng_lt hb
      refine ⟨_, _, gd_name, ?_⟩
      apply sd_seq
      apply sd_set (d := .lst (((List.range rows.length).filter fun k => decide (ixOf (j : Nat) (rows.getD k []) > ixOf (fst (rows.getD k []) room) (rows.getD k []))).map fun k => .int (k : Nat)))
      · apply EvN.ev
        apply evn_lc (e := fun k : Nat => D.int (k : Nat)) (items := List.range rows.length)
        · apply iv_rngN
          · walk_at "evd"
          · rw [List.length_map]
          · omega
        · intro a _
          exact gd_name
        · intro k hk
          have hk := List.mem_range.mp hk
          have ef : (rows.map fun row => fst row room).getD k 0 = fst (rows.getD k []) room := by
            rw [List.getD_eq_getElem?_getD, List.getElem?_map, List.getD_eq_getElem?_getD, List.getElem?_eq_getElem hk]
            rfl
          obtain ⟨p0, hp0⟩ := List.exists_mem_of_ne_nil _ hne
          have M : Meet (rows.getD k []) room := ⟨(hrow _ (hget k hk)).1, p0, (hrow _ (hget k hk)).2 p0 hp0, hp0⟩
          walk_at "evd"
          · exact hk
          · exact (h _ (hget k hk)).2 _ (by omega) (by omega)
          · exact hk
          · rw [List.length_map]
            exact hk
          · rw [ef]
            exact M.fst.1
          · rw [ef]
            have e : decide (ixOf (j : Nat) (rows.getD k []) > ixOf (fst (rows.getD k []) room) (rows.getD k [])) = decide (((ixOf (j : Nat) (rows.getD k []) : Nat) : Int) > ((ixOf (fst (rows.getD k []) room) (rows.getD k []) : Nat) : Int)) := decide_eq_decide.mpr (by omega)
            rw [e]
            exact rv_cmp
        · intro k _ _
          walk_at "evd"
        · rw [List.length_range]
          omega
      have key : ((List.range rows.length).filter fun k => decide (ixOf (j : Nat) (rows.getD k []) > ixOf (fst (rows.getD k []) room) (rows.getD k []))).length = rows.length ↔ lbeat rows room (j : Nat) = true := by
        have hl := List.length_filter_eq_length_iff (p := fun k => decide (ixOf (j : Nat) (rows.getD k []) > ixOf (fst (rows.getD k []) room) (rows.getD k []))) (l := List.range rows.length)
        rw [List.length_range] at hl
        rw [hl]
        unfold lbeat
        rw [List.all_eq_true]
        constructor
        · intro hh row hr
          obtain ⟨k, hk, rfl⟩ := List.getElem_of_mem hr
          have := hh k (List.mem_range.mpr hk)
          rw [List.getD_eq_getElem?_getD, List.getElem?_eq_getElem hk] at this
          exact this
        · intro hh k hk
          exact hh _ (hget k (List.mem_range.mp hk))
      apply sd_if
      · walk_at "evd"
      · intro c
        have hb : lbeat rows room (j : Nat) = true := by
          refine key.mp ?_
          have := of_decide_eq_true c
          rw [List.length_map, List.length_map] at this
          omega
        apply sd_setE (d := .int (((List.range (j + 1)).filter fun p => lbeat rows room (p : Nat)).length : Nat))
        · walk_at "evd"
        · rw [List.range_succ, List.filter_append, List.length_append, List.filter_cons_of_pos (p := fun p : Nat => lbeat rows room (p : Nat)) hb]
          rfl
        · exact ⟨_, _, rfl⟩
      · intro c
        have hb : ¬ lbeat rows room (j : Nat) = true := by
          intro hb
          have := of_decide_eq_false c
          rw [List.length_map, List.length_map] at this
          have := key.mpr hb
          omega
        apply sd_next
        refine ⟨.im (.int (j : Nat)), .im (.lst (((List.range rows.length).filter fun k => decide (ixOf (j : Nat) (rows.getD k []) > ixOf (fst (rows.getD k []) room) (rows.getD k []))).map fun k => .int (k : Nat))), ?_⟩
        rw [List.range_succ, List.filter_append, List.filter_cons_of_neg (p := fun p : Nat => lbeat rows room (p : Nat)) hb, List.filter_nil, List.append_nil]
        rfl
    · rintro ρ1 ⟨t, u, rfl⟩
      rw [List.length_range]
      have key : (((List.range m).filter fun p => lbeat rows room (p : Nat)).length = 0) ↔ (!((rgI 0 (m : Int)).any (lbeat rows room))) = true := by
        rw [List.length_eq_zero_iff, List.filter_eq_nil_iff, Bool.not_eq_true', List.any_eq_false]
        constructor
        · intro hh p hp
          have hp := mem_rgI.mp hp
          have := hh p.toNat (List.mem_range.mpr (by omega))
          rwa [Int.toNat_of_nonneg hp.1] at this
        · intro hh k hk
          exact hh _ (mem_rgI.mpr ⟨by omega, by have := List.mem_range.mp hk; omega⟩)
      apply sd_if
      · walk_at "evd"
      · intro c
        have hb := key.mp (by have := of_decide_eq_true c; omega)
        apply sd_appE (f := dR) (b := room)
        · rfl
        · walk_at "evd"
        · rfl
        · have := List.length_filter_le (fun room => !((rgI 0 (m : Int)).any (lbeat rows room))) ((subs rows.length (rgI 0 (m : Int))).take i)
          rw [List.length_take] at this
          omega
        · refine ⟨.im (dR room), .im (dL (rows.map fun row => fst row room)), .im (.int (((List.range m).filter fun p => lbeat rows room (p : Nat)).length : Nat)), t, u, v, ?_⟩
          rw [List.take_succ, ha, Option.toList_some, List.filter_append, List.filter_cons_of_pos (p := fun room => !((rgI 0 (m : Int)).any (lbeat rows room))) hb]
          rfl
      · intro c
        have hb : ¬ ((!((rgI 0 (m : Int)).any (lbeat rows room))) = true) := fun hb => by
          have := key.mpr hb
          have := of_decide_eq_false c
          omega
        apply sd_next
        refine ⟨.im (dR room), .im (dL (rows.map fun row => fst row room)), .im (.int (((List.range m).filter fun p => lbeat rows room (p : Nat)).length : Nat)), t, u, v, ?_⟩
        rw [List.take_succ, ha, Option.toList_some, List.filter_append, List.filter_cons_of_neg (p := fun room => !((rgI 0 (m : Int)).any (lbeat rows room))) hb, List.filter_nil, List.append_nil]
  · rintro ρ1 ⟨x, y, z, t, u, v, rfl⟩
    apply sd_frz (i := 2) rfl rfl
    apply sd_retE (p := Or.inl rfl)
    · walk_at "evd"
    · rw [List.take_length]
theorem r_lunb {rows : List (List Int)} {m : Nat} (h : 1 ≤ rows.length ∧ rows.length ≤ 4 ∧ m ≤ 15 ∧ (∀ row ∈ rows, row.length = m ∧ ∀ p : Int, 0 ≤ p → p < m → p ∈ row)) : R_lunb [.lst (rows.map fun o => .lst (o.map D.int))] (.lst (((subs rows.length (rgI 0 m)).filter fun room => !((rgI 0 m).any (lbeat rows room))).map fun o => .tup (o.map D.int))) := ⟨rows, m, h.1, h.2.1, h.2.2.1, h.2.2.2, rfl, rfl⟩
/-! ### terms -/
def R_lterms (ds : List D) (d : D) : Prop := ∃ (rows rooms : List (List Int)) (own : List Int), rows.length ≤ 100 ∧ rooms.length ≤ 100000 ∧ (∀ room ∈ rooms, room ≠ [] ∧ room.length ≤ 100 ∧ ∀ row ∈ rows, row.length ≤ 100 ∧ ∀ p ∈ room, p ∈ row) ∧ ds = [dLs rows, dRs rooms, dR own] ∧ d = dTs (sortP ((own, -1) :: rooms.map fun room => (room, osign (rows.map fun row => fst row room))))
theorem sc__law_terms : FnScope ["_law_rows", "_law_rooms_here", "_law_own", "_law_terms_here", "_law_room"] ["_law_rows", "_law_rooms_here", "_law_own"] (defScope s__law_terms) := ⟨rfl, rfl, rfl, by decide +kernel, rfl, by decide +kernel, by decide +kernel⟩
theorem ok_lterms (T : At K mg "_law_terms" s__law_terms ["_law_rows", "_law_rooms_here", "_law_own"]) (B : Bi mg) (G__law_sign : Has P w K mg base CX0 "_law_sign" 1 ["_law_row"] (spD K R_lsign)) (G__law_least_row : Has P w K mg base CX0 "_law_least_row" 1 ["_law_rows", "_law_room"] (spD K R_lleast)) : Has P w K mg base CX0 "_law_terms" 2 ["_law_rows", "_law_rooms_here", "_law_own"] (spD K R_lterms) := by
  refine ok_H T sc__law_terms (fun ds d h => by obtain ⟨_, _, _, _, _, _, rfl, _⟩ := h; rfl) (fun f cdv A outer s H E hr => ⟨_, (pss_cons (ps_set (i := 3) sc__law_terms.nd rfl (by first | exact Or.inl rfl | exact Or.inr rfl) (pe_lst (pa_cons (pe_tup (pa_cons (pv 2) (pa_cons (pe_un un_neg (pe_int)) pa_nil))) pa_nil)))
        (pss_cons (ps_for PassesOwn.never rfl (pi_lK K (pv 1)) (pg_name (i := 4) sc__law_terms.nd rfl (by first | exact Or.inl rfl | exact Or.inr rfl)) (pss_one (ps_expr (pe_appendK K (pv 3) (pa_cons (pe_tup (pa_cons (pv 4) (pa_cons (pe_callH G__law_sign hr (by decide) rfl (pa_cons (pe_callH G__law_least_row hr (by decide) rfl (pa_cons (pv 0) (pa_cons (pv 4) pa_nil))) pa_nil)) pa_nil))) pa_nil)))))
        (pss_one (ps_ret (pe_callB (cl_srtP K hr) rfl B.sorted (by decide +kernel) (pa_cons (pv 3) pa_nil)))))), ?_⟩)
  rintro ds d ⟨rows, rooms, own, hr1, hr2, h, rfl, rfl⟩
  apply sd_seq
  apply sd_setN
  · walk_at "evn"
    · exact Nat.le_trans (show _ ≤ 2 from Nat.le_refl _) (by decide)
    · exact Nat.le_trans (show _ ≤ 1 from Nat.le_refl _) (by decide)
  apply sd_seq
  apply sd_for (e := dR) (items := rooms) (Inv := fun i ρ => ∃ x, ρ = [.im (dLs rows), .im (dRs rooms), .im (dR own), .ml (((own, -1) :: (rooms.take i).map fun room => (room, osign (rows.map fun row => fst row room))).map dT), x])
  · walk_at "evd"
  · exact ⟨_, rfl⟩
  · rintro i room ρ1 ha ⟨x, rfl⟩
    obtain ⟨h1, h2, h3⟩ := h room (List.mem_of_getElem? ha)
    have hi : i < rooms.length := (List.getElem?_eq_some_iff.mp ha).1
    refine ⟨_, _, gd_name, ?_⟩
    apply sd_appE (f := dT) (b := (room, osign (rows.map fun row => fst row room)))
    · rfl
    · walk_at "evd"
      · exact ⟨hr1, h1, h2, h3⟩
      · rw [List.length_map]
        exact hr1
      · exact Nat.le_trans (show _ ≤ 2 from Nat.le_refl _) (by decide)
    · rfl
    · rw [List.length_cons, List.length_map, List.length_take]
      omega
    · refine ⟨.im (dR room), ?_⟩
      rw [List.take_succ, ha, Option.toList_some, List.map_append (f := fun room => (room, osign (rows.map fun row => fst row room)))]
      rfl
  · rintro ρ1 ⟨x, rfl⟩
    apply sd_frz (i := 3) rfl rfl
    apply sd_retE (p := Or.inl rfl)
    · walk_at "evd"
    · rw [List.take_length]
theorem r_lterms {rows rooms : List (List Int)} {own : List Int} (h : rows.length ≤ 100 ∧ rooms.length ≤ 100000 ∧ (∀ room ∈ rooms, room ≠ [] ∧ room.length ≤ 100 ∧ ∀ row ∈ rows, row.length ≤ 100 ∧ ∀ p ∈ room, p ∈ row)) : R_lterms [.lst (rows.map fun o => .lst (o.map D.int)), .lst (rooms.map fun o => .tup (o.map D.int)), .tup (own.map D.int)] (dTs (sortP ((own, -1) :: rooms.map fun room => (room, osign (rows.map fun row => fst row room))))) := ⟨rows, rooms, own, h.1, h.2.1, h.2.2, rfl, rfl⟩
end
end DL

set_option Elab.async false
set_option linter.all false
set_option maxHeartbeats 4000000
namespace DL
/-! ### plain facts on lists -/
theorem perm_of_sub {α : Type} [DecidableEq α] : ∀ {l m : List α}, l.Nodup → (∀ x ∈ l, x ∈ m) → m.length ≤ l.length → l.Perm m
  | [], m, _, _, h => by
    cases m with
    | nil => exact .refl _
    | cons _ _ => simp at h
  | a :: l, m, nd, hs, h => by
    obtain ⟨h1, h2⟩ := List.nodup_cons.mp nd
    obtain ⟨m1, m2, rfl⟩ := List.append_of_mem (hs a List.mem_cons_self)
    refine ((perm_of_sub h2 (fun x hx => ?_) ?_).cons a).trans List.perm_middle.symm
    · have := hs x (List.mem_cons_of_mem _ hx)
      rcases List.mem_append.mp this with q | q
      · exact List.mem_append_left _ q
      · rcases List.mem_cons.mp q with q | q
        · subst q; exact absurd hx h1
        · exact List.mem_append_right _ q
    · rw [List.length_append, List.length_cons] at h
      rw [List.length_append]
      rw [List.length_cons] at h
      omega
theorem perm_nd {α : Type} [DecidableEq α] {l m : List α} (h1 : l.Nodup) (h2 : m.Nodup) (h : ∀ x, x ∈ l ↔ x ∈ m) : l.Perm m :=
  perm_of_sub h1 (fun x hx => (h x).mp hx) (nodup_le h2 fun x hx => (h x).mpr hx)
/-! ### orders of places, abstractly -/
structure Ab (n v : Nat) (pos : Nat → Int → Nat) (m : Nat → List Int → Int) (z : Nat → Int) : Prop where
  v1 : 1 ≤ v
  inj : ∀ i, i < n → ∀ p q : Int, 0 ≤ p → p < (v : Int) + n → 0 ≤ q → q < (v : Int) + n → pos i p = pos i q → p = q
  own0 : ∀ i, i < n → pos i ((v : Int) + i) = 0
  oth : ∀ i, i < n → ∀ t : Int, 0 ≤ t → t < v → ∀ j, j < n → j ≠ i → pos i t < pos i ((v : Int) + j)
  lst : ∀ i, i < n → 0 ≤ z i ∧ z i < v ∧ ∀ t : Int, 0 ≤ t → t < v → pos i t ≤ pos i (z i)
  mn : ∀ i, i < n → ∀ R : List Int, R ≠ [] → (∀ p ∈ R, 0 ≤ p ∧ p < (v : Int) + n) → m i R ∈ R ∧ ∀ q ∈ R, pos i (m i R) ≤ pos i q
/-- a room: n places -/
structure Rom (n v : Nat) (R : List Int) : Prop where
  len : R.length = n
  nd : R.Nodup
  bd : ∀ p ∈ R, 0 ≤ p ∧ p < (v : Int) + n
def Bt (n v : Nat) (pos : Nat → Int → Nat) (m : Nat → List Int → Int) (R : List Int) (p : Int) : Prop := 0 ≤ p ∧ p < (v : Int) + n ∧ ∀ i, i < n → pos i (m i R) < pos i p
def Ub (n v : Nat) (pos : Nat → Int → Nat) (m : Nat → List Int → Int) (R : List Int) : Prop := ∀ p, ¬ Bt n v pos m R p
/-- above the least place in all rows but k -/
def Cd (n v : Nat) (pos : Nat → Int → Nat) (m : Nat → List Int → Int) (F : List Int) (k : Nat) (p : Int) : Prop := 0 ≤ p ∧ p < (v : Int) + n ∧ ∀ i, i < n → i ≠ k → pos i (m i F) < pos i p
section
variable {n v : Nat} {pos : Nat → Int → Nat} {m : Nat → List Int → Int} {z : Nat → Int}
theorem Ab.is (A : Ab n v pos m z) {i : Nat} (hi : i < n) {R : List Int} (hb : ∀ p ∈ R, 0 ≤ p ∧ p < (v : Int) + n) {p : Int} (hp : p ∈ R) (h : ∀ q ∈ R, pos i p ≤ pos i q) : m i R = p := by
  obtain ⟨h1, h2⟩ := A.mn i hi R (fun e => by rw [e] at hp; cases hp) hb
  have h3 := h2 p hp
  have h4 := h _ h1
  exact A.inj i hi _ _ (hb _ h1).1 (hb _ h1).2 (hb _ hp).1 (hb _ hp).2 (by omega)
theorem Ab.onto (A : Ab n v pos m z) {R : List Int} (hR : Rom n v R) (hu : Ub n v pos m R) {p : Int} (hp : p ∈ R) : ∃ i, i < n ∧ m i R = p := by
  have hne : R ≠ [] := fun e => by rw [e] at hp; cases hp
  have h1 := hu p
  unfold Bt at h1
  have hb := hR.bd p hp
  have : ∃ i, i < n ∧ ¬ pos i (m i R) < pos i p := by
    apply Classical.byContradiction
    intro h
    apply h1
    refine ⟨hb.1, hb.2, fun i hi => ?_⟩
    apply Classical.byContradiction
    intro h'
    exact h ⟨i, hi, h'⟩
  obtain ⟨i, hi, h2⟩ := this
  refine ⟨i, hi, A.is hi hR.bd hp fun q hq => ?_⟩
  have := (A.mn i hi R hne hR.bd).2 q hq
  omega
theorem Ab.perm (A : Ab n v pos m z) {R : List Int} (hR : Rom n v R) (hu : Ub n v pos m R) : R.Perm ((List.range n).map fun i => m i R) := by
  refine perm_of_sub hR.nd (fun p hp => ?_) ?_
  · obtain ⟨i, hi, h⟩ := A.onto hR hu hp
    exact List.mem_map.mpr ⟨i, List.mem_range.mpr hi, h⟩
  · rw [List.length_map, List.length_range, hR.len]
    exact Nat.le_refl _
theorem Ab.ij (A : Ab n v pos m z) {R : List Int} (hR : Rom n v R) (hu : Ub n v pos m R) {i j : Nat} (hi : i < n) (hj : j < n) (h : m i R = m j R) : i = j := by
  have nd := (A.perm hR hu).nodup_iff.mp hR.nd
  rw [List.Nodup, List.pairwise_map] at nd
  have key : ∀ a b, a < b → b < n → m a R ≠ m b R := by
    intro a b hab hb
    have := List.pairwise_iff_getElem.mp nd a b (by rw [List.length_range]; omega) (by rw [List.length_range]; omega) hab
    rwa [List.getElem_range, List.getElem_range] at this
  rcases Nat.lt_trichotomy i j with q | q | q
  · exact absurd h (key i j q hj)
  · exact q
  · exact absurd h.symm (key j i q hi)
/-- what a room that no place beats looks like from one of its faces -/
theorem Ab.face (A : Ab n v pos m z) {R F : List Int} {y : Int} (hR : Rom n v R) (hu : Ub n v pos m R) (hF : ∀ p, p ∈ R ↔ p ∈ F ∨ p = y) (hy : y ∉ F) :
    ∃ k, k < n ∧ m k R = y ∧ (∀ i, i < n → i ≠ k → m i R ∈ F ∧ m i F = m i R) ∧ Cd n v pos m F k y ∧ ∀ p, Cd n v pos m F k p → pos k p ≤ pos k y := by
  have hyR : y ∈ R := (hF y).mpr (Or.inr rfl)
  have hne : R ≠ [] := fun e => by rw [e] at hyR; cases hyR
  obtain ⟨k, hk, hm⟩ := A.onto hR hu hyR
  have hbF : ∀ p ∈ F, 0 ≤ p ∧ p < (v : Int) + n := fun p hp => hR.bd p ((hF p).mpr (Or.inl hp))
  have h1 : ∀ i, i < n → i ≠ k → m i R ∈ F ∧ m i F = m i R := by
    intro i hi hik
    have hin := A.mn i hi R hne hR.bd
    have hf : m i R ∈ F := ((hF _).mp hin.1).resolve_right fun e => hik (A.ij hR hu hi hk (e.trans hm.symm))
    exact ⟨hf, A.is hi hbF hf fun q hq => hin.2 q ((hF q).mpr (Or.inl hq))⟩
  have hyb := hR.bd y hyR
  refine ⟨k, hk, hm, h1, ⟨hyb.1, hyb.2, fun i hi hik => ?_⟩, fun p hp => ?_⟩
  · obtain ⟨h2, h3⟩ := h1 i hi hik
    have h4 := (A.mn i hi R hne hR.bd).2 y hyR
    rw [h3]
    refine Nat.lt_of_le_of_ne h4 fun e => hy ?_
    have hb2 := hbF _ h2
    rw [← A.inj i hi _ _ hb2.1 hb2.2 hyb.1 hyb.2 e]
    exact h2
  · apply Classical.byContradiction
    intro hlt
    refine hu p ⟨hp.1, hp.2.1, fun i hi => ?_⟩
    by_cases e : i = k
    · subst e
      rw [hm]
      omega
    · rw [← (h1 i hi e).2]
      exact hp.2.2 i hi e
/-- the pivot -/
theorem Ab.pivot (A : Ab n v pos m z) {R F : List Int} {l : Int} (hR : Rom n v R) (hu : Ub n v pos m R) (hF : ∀ p, p ∈ R ↔ p ∈ F ∨ p = l) (hl : l ∉ F) (hFn : F ≠ []) :
    ∃ i0 j, i0 < n ∧ j < n ∧ i0 ≠ j ∧ m i0 R = l ∧ m j R = m i0 F ∧ m j F = m i0 F ∧ (∀ i, i < n → i ≠ i0 → m i F = m i R) ∧
      (∀ x, Cd n v pos m F j x → (∀ p, Cd n v pos m F j p → pos j p ≤ pos j x) → x ∉ R ∧
        ∀ R', Rom n v R' → (∀ p, p ∈ R' ↔ p ∈ F ∨ p = x) → Ub n v pos m R' ∧ m j R' = x ∧ ∀ i, i < n → i ≠ j → m i R' = m i F) ∧
      (∀ R' y, Rom n v R' → Ub n v pos m R' → (∀ p, p ∈ R' ↔ p ∈ F ∨ p = y) → y ∉ F → y ≠ l → Cd n v pos m F j y ∧ ∀ p, Cd n v pos m F j p → pos j p ≤ pos j y) := by
  obtain ⟨i0, hi0, hm0, h1, hc0, hx0⟩ := A.face hR hu hF hl
  have hbF : ∀ p ∈ F, 0 ≤ p ∧ p < (v : Int) + n := fun p hp => hR.bd p ((hF p).mpr (Or.inl hp))
  obtain ⟨hfF, hfm⟩ := A.mn i0 hi0 F hFn hbF
  obtain ⟨j, hj, hmj⟩ := A.onto hR hu ((hF _).mpr (Or.inl hfF))
  have hij : i0 ≠ j := fun e => by
    subst e
    rw [hm0] at hmj
    rw [← hmj] at hfF
    exact hl hfF
  have hjF : m j F = m i0 F := (h1 j hj (Ne.symm hij)).2.trans hmj
  have hlR : l ∈ R := (hF l).mpr (Or.inr rfl)
  have hne : R ≠ [] := fun e => by rw [e] at hlR; cases hlR
  refine ⟨i0, j, hi0, hj, hij, hm0, hmj, hjF, fun i hi hk => (h1 i hi hk).2, fun x hx hmax => ?_, fun R' y hR' hu' hF' hy hyl => ?_⟩
  · have hmF := A.mn j hj F hFn hbF
    have hfb := hbF _ hfF
    have hlt0 : pos i0 (m i0 F) < pos i0 x := hx.2.2 i0 hi0 hij
    have hxj : pos j x < pos j (m j F) := by
      apply Classical.byContradiction
      intro hle
      have hne2 : pos j (m j F) ≠ pos j x := fun e => by
        rw [hjF] at e
        have := A.inj j hj _ _ hfb.1 hfb.2 hx.1 hx.2.1 e
        rw [← this] at hlt0
        omega
      refine hu x ⟨hx.1, hx.2.1, fun i hi => ?_⟩
      have h3 : pos i (m i F) < pos i x := by
        by_cases e : i = j
        · subst e; omega
        · exact hx.2.2 i hi e
      have h4 := (A.mn i hi R hne hR.bd).2 (m i F) ((hF _).mpr (Or.inl (A.mn i hi F hFn hbF).1))
      omega
    have hxF : x ∉ F := fun h => by
      have := hmF.2 x h
      omega
    have hxl : x ≠ l := fun e => by
      have h5 := (A.mn j hj R hne hR.bd).2 l hlR
      rw [hmj, ← hjF, ← e] at h5
      omega
    refine ⟨fun h => ((hF x).mp h).elim hxF hxl, fun R' hR' hF' => ?_⟩
    have hmj' : m j R' = x := A.is hj hR'.bd ((hF' x).mpr (Or.inr rfl)) fun q hq => by
      rcases (hF' q).mp hq with h | h
      · have := hmF.2 q h
        omega
      · rw [h]; exact Nat.le_refl _
    have hmi' : ∀ i, i < n → i ≠ j → m i R' = m i F := fun i hi hij' => by
      have hmFi := A.mn i hi F hFn hbF
      refine A.is hi hR'.bd ((hF' _).mpr (Or.inl hmFi.1)) fun q hq => ?_
      rcases (hF' q).mp hq with h | h
      · exact hmFi.2 q h
      · rw [h]
        exact Nat.le_of_lt (hx.2.2 i hi hij')
    refine ⟨fun p hp => ?_, hmj', hmi'⟩
    have hcp : Cd n v pos m F j p := ⟨hp.1, hp.2.1, fun i hi hk => by
      have := hp.2.2 i hi
      rwa [hmi' i hi hk] at this⟩
    have h6 := hp.2.2 j hj
    rw [hmj'] at h6
    have := hmax p hcp
    omega
  · obtain ⟨k, hk, hmk, h1', hc, hx⟩ := A.face hR' hu' hF' hy
    by_cases e1 : k = j
    · subst e1
      exact ⟨hc, hx⟩
    · by_cases e2 : k = i0
      · subst e2
        have a1 := hx _ hc0
        have a2 := hx0 _ hc
        exact absurd (A.inj k hk _ _ hc.1 hc.2.1 hc0.1 hc0.2.1 (by omega)) hyl
      · have a1 := (h1' i0 hi0 (Ne.symm e2)).2
        have a2 := (h1' j hj (Ne.symm e1)).2
        exact absurd (A.ij hR' hu' hi0 hj (by rw [← a1, ← a2, hjF])) hij
/-- with a thing in the face there is always a candidate -/
theorem Ab.some (A : Ab n v pos m z) {F : List Int} (hbF : ∀ p ∈ F, 0 ≤ p ∧ p < (v : Int) + n) {t : Int} (ht : t ∈ F) (htv : t < v) {j : Nat} (hj : j < n) : Cd n v pos m F j ((v : Int) + j) := by
  refine ⟨by omega, by omega, fun i hi hij => ?_⟩
  have hb := hbF t ht
  have h1 := (A.mn i hi F (fun e => by rw [e] at ht; cases ht) hbF).2 t ht
  have := A.oth i hi t hb.1 htv j hj (Ne.symm hij)
  omega
theorem Ab.pos0 (A : Ab n v pos m z) {i : Nat} (hi : i < n) {p : Int} (h0 : 0 ≤ p) (h1 : p < (v : Int) + n) (hp : p ≠ (v : Int) + i) : 0 < pos i p := by
  apply Nat.pos_of_ne_zero
  intro e
  rw [← A.own0 i hi] at e
  exact hp (A.inj i hi _ _ h0 h1 (by omega) (by omega) e)
theorem Ab.ownm (A : Ab n v pos m z) {R : List Int} (hb : ∀ p ∈ R, 0 ≤ p ∧ p < (v : Int) + n) {i : Nat} (hi : i < n) (h : ((v : Int) + i) ∈ R) : m i R = (v : Int) + i :=
  A.is hi hb h fun q _ => by rw [A.own0 i hi]; exact Nat.zero_le _
/-- the room of all own places is beaten -/
theorem Ab.own_beaten (A : Ab n v pos m z) {R : List Int} (hb : ∀ p ∈ R, 0 ≤ p ∧ p < (v : Int) + n) (h : ∀ i, i < n → ((v : Int) + i) ∈ R) : ¬ Ub n v pos m R := fun hu => by
  have hv := A.v1
  refine hu 0 ⟨by omega, by omega, fun i hi => ?_⟩
  rw [A.ownm hb hi (h i hi), A.own0 i hi]
  exact A.pos0 hi (by omega) (by omega) (by omega)
/-- at a face of own places alone -/
theorem Ab.edge (A : Ab n v pos m z) {R F : List Int} {y : Int} {k : Nat} (hk : k < n) (hR : Rom n v R) (hF : ∀ p, p ∈ R ↔ p ∈ F ∨ p = y) (hO : ∀ p, p ∈ F ↔ ∃ i, i < n ∧ i ≠ k ∧ p = (v : Int) + i) :
    (∀ i, i < n → i ≠ k → m i R = (v : Int) + i) ∧ (y < v → m k R = y) ∧ (Ub n v pos m R ↔ y = z k) := by
  have hyb := hR.bd y ((hF y).mpr (Or.inr rfl))
  have h1 : ∀ i, i < n → i ≠ k → m i R = (v : Int) + i := fun i hi hik => A.ownm hR.bd hi ((hF _).mpr (Or.inl ((hO _).mpr ⟨i, hi, hik, rfl⟩)))
  have hz := A.lst k hk
  have h2 : y < v → m k R = y := fun hyv => by
    refine A.is hk hR.bd ((hF y).mpr (Or.inr rfl)) fun q hq => ?_
    rcases (hF q).mp hq with h | h
    · obtain ⟨j, hj, hjk, rfl⟩ := (hO q).mp h
      exact Nat.le_of_lt (A.oth k hk y hyb.1 hyv j hj hjk)
    · rw [h]; exact Nat.le_refl _
  refine ⟨h1, h2, fun hu => ?_, fun e p hp => ?_⟩
  · have hyv : y < v := by
      apply Classical.byContradiction
      intro hyv
      have e : y = (v : Int) + k := by
        apply Classical.byContradiction
        intro hne
        have hlt : (y - v).toNat < n := by omega
        have hyF : y ∈ F := (hO y).mpr ⟨(y - v).toNat, hlt, by omega, by omega⟩
        have hnd : F.length < n ∨ True := Or.inr trivial
        -- then the room has fewer places than n
        have hsub : ∀ p ∈ R, p ∈ ((List.range n).filter fun i => !decide (i = k)).map fun i : Nat => (v : Int) + i := fun p hp => by
          have hpF : p ∈ F := ((hF p).mp hp).elim id fun e => e ▸ hyF
          obtain ⟨i, hi, hik, rfl⟩ := (hO p).mp hpF
          exact List.mem_map.mpr ⟨i, List.mem_filter.mpr ⟨List.mem_range.mpr hi, by simpa using hik⟩, rfl⟩
        have hle := nodup_le hR.nd hsub
        rw [List.length_map, hR.len] at hle
        have hlt2 : ((List.range n).filter fun i => !decide (i = k)).length < (List.range n).length := by
          refine Nat.lt_of_le_of_ne (List.length_filter_le _ _) fun e => ?_
          have := (List.length_filter_eq_length_iff.mp e) k (List.mem_range.mpr hk)
          simp at this
        rw [List.length_range] at hlt2
        omega
      refine A.own_beaten hR.bd (fun i hi => ?_) hu
      by_cases e2 : i = k
      · subst e2
        exact (hF _).mpr (Or.inr e.symm)
      · exact (hF _).mpr (Or.inl ((hO _).mpr ⟨i, hi, e2, rfl⟩))
    apply Classical.byContradiction
    intro hne
    have hlt : pos k y < pos k (z k) := by
      refine Nat.lt_of_le_of_ne (hz.2.2 y hyb.1 hyv) fun e => hne (A.inj k hk _ _ hyb.1 hyb.2 hz.1 (by omega) e)
    refine hu (z k) ⟨hz.1, by omega, fun i hi => ?_⟩
    by_cases e : i = k
    · subst e
      rw [h2 hyv]
      exact hlt
    · rw [h1 i hi e, A.own0 i hi]
      exact A.pos0 hi hz.1 (by omega) (by omega)
  · subst e
    have h3 := h2 hz.2.1
    have h4 := hp.2.2 k hk
    rw [h3] at h4
    have hpv : ¬ p < v := fun h => by
      have := hz.2.2 p hp.1 h
      omega
    have hlt : (p - v).toNat < n := by have := hp.2.1; omega
    obtain ⟨j, hj, rfl⟩ : ∃ j : Nat, j < n ∧ p = (v : Int) + j := ⟨(p - v).toNat, hlt, by omega⟩
    have h5 := hp.2.2 j hj
    rw [A.own0 j hj] at h5
    omega
end
end DL

set_option Elab.async false
set_option linter.all false
set_option maxHeartbeats 4000000
namespace DL
theorem rev_ind {α : Type} {P : List α → Prop} (l : List α) (nil : P []) (append_singleton : ∀ (A : List α) (a : α), P A → P (A ++ [a])) : P l := by
  have key : ∀ l : List α, P l.reverse := by
    intro l
    induction l with
    | nil => exact nil
    | cons a l ih => rw [List.reverse_cons]; exact append_singleton _ _ ih
  have := key l.reverse
  rwa [List.reverse_reverse] at this
/-! ### the sign of a row, by pairs -/
def sg (a b : Int) : Int := if a > b then -1 else 1
def sgL (A : List Int) (b : Int) : Int := (A.map fun a => sg a b).foldl (· * ·) 1
theorem foldl_mul (l : List Int) (c : Int) : l.foldl (· * ·) c = c * l.foldl (· * ·) 1 := by
  induction l generalizing c with
  | nil => simp
  | cons a l ih =>
    rw [List.foldl_cons, List.foldl_cons, ih, ih (1 * a)]
    rw [Int.one_mul, Int.mul_assoc]
theorem sgL_nil (b : Int) : sgL [] b = 1 := rfl
theorem sgL_cons (a : Int) (A : List Int) (b : Int) : sgL (a :: A) b = sg a b * sgL A b := by
  unfold sgL
  rw [List.map_cons, List.foldl_cons, foldl_mul, Int.one_mul]
theorem sgL_app (A B : List Int) (b : Int) : sgL (A ++ B) b = sgL A b * sgL B b := by
  induction A with
  | nil => rw [List.nil_append, sgL_nil, Int.one_mul]
  | cons a A ih => rw [List.cons_append, sgL_cons, sgL_cons, ih, Int.mul_assoc]
theorem osIn_eq (r : List Int) (k : Nat) (s : Int) (j : Nat) : osIn r k s j = s * sg (r.getD j 0) (r.getD k 0) := by
  unfold osIn sg
  split
  · rw [Int.mul_neg, Int.mul_one]
  · rw [Int.mul_one]
theorem fold_in (f : Nat → Int) (l : List Nat) (s : Int) : l.foldl (fun s j => s * f j) s = s * (l.map f).foldl (· * ·) 1 := by
  induction l generalizing s with
  | nil => simp
  | cons a l ih =>
    rw [List.foldl_cons, ih, List.map_cons, List.foldl_cons, foldl_mul (l.map f) (1 * f a), Int.one_mul, Int.mul_assoc]
theorem range_getD (r : List Int) (k : Nat) (hk : k ≤ r.length) : ((List.range k).map fun j => r.getD j 0) = r.take k := by
  apply List.ext_getElem?
  intro i
  rw [List.getElem?_map, List.getElem?_take]
  by_cases h : i < k
  · rw [List.getElem?_range h, if_pos h, List.getElem?_eq_getElem (by omega), Option.map_some, List.getD_eq_getElem?_getD, List.getElem?_eq_getElem (by omega)]
    rfl
  · rw [if_neg h, List.getElem?_eq_none (by rw [List.length_range]; omega)]
    rfl
theorem osOut_eq (r : List Int) (s : Int) (k : Nat) (hk : k < r.length) : osOut r s k = s * sgL (r.take k) (r.getD k 0) := by
  unfold osOut
  have : osIn r k = fun s j => s * sg (r.getD j 0) (r.getD k 0) := by
    funext s j
    exact osIn_eq r k s j
  rw [this, fold_in, sgL, ← range_getD r k (by omega), List.map_map]
  rfl
theorem osign_snoc (r : List Int) (b : Int) : osign (r ++ [b]) = osign r * sgL r b := by
  unfold osign
  rw [List.length_append, List.length_singleton, List.range_succ, List.foldl_append]
  have e : ∀ k, k ≤ r.length → ∀ s, (List.range k).foldl (osOut (r ++ [b])) s = (List.range k).foldl (osOut r) s := by
    intro k
    induction k with
    | zero => intro _ s; rfl
    | succ k ih =>
      intro hk s
      rw [List.range_succ, List.foldl_append, List.foldl_append, ih (by omega)]
      show osOut _ _ k = osOut _ _ k
      rw [osOut_eq _ _ _ (by rw [List.length_append]; omega), osOut_eq _ _ _ (by omega), List.take_append_of_le_length (by omega)]
      congr 2
      rw [List.getD_eq_getElem?_getD, List.getD_eq_getElem?_getD, List.getElem?_append_left (by omega)]
  rw [e _ (Nat.le_refl _)]
  show osOut _ _ r.length = _
  rw [osOut_eq _ _ _ (by rw [List.length_append]; exact Nat.lt_succ_self _), List.take_left]
  congr 2
  rw [List.getD_eq_getElem?_getD, List.getElem?_append_right (Nat.le_refl _), Nat.sub_self]
  rfl
theorem osign_nil : osign [] = 1 := rfl
/-- all pairs -/
def crs (A B : List Int) : Int := (B.map fun b => sgL A b).foldl (· * ·) 1
theorem crs_snoc (A B : List Int) (b : Int) : crs A (B ++ [b]) = crs A B * sgL A b := by
  unfold crs
  rw [List.map_append, List.foldl_append]
  rfl
theorem crs_nil (A : List Int) : crs A [] = 1 := rfl
theorem crs_one (A : List Int) (b : Int) : crs A [b] = sgL A b := by
  rw [show [b] = [] ++ [b] from rfl, crs_snoc, crs_nil, Int.one_mul]
theorem crs_app (A B C : List Int) : crs (A ++ B) C = crs A C * crs B C := by
  induction C using rev_ind with
  | nil => rfl
  | append_singleton C c ih => rw [crs_snoc, crs_snoc, crs_snoc, ih, sgL_app]; ac_rfl
theorem crs_app2 (A B C : List Int) : crs A (B ++ C) = crs A B * crs A C := by
  induction C using rev_ind with
  | nil => rw [List.append_nil, crs_nil, Int.mul_one]
  | append_singleton C c ih => rw [← List.append_assoc, crs_snoc, crs_snoc, ih, Int.mul_assoc]
theorem osign_app (A B : List Int) : osign (A ++ B) = osign A * osign B * crs A B := by
  induction B using rev_ind with
  | nil => rw [List.append_nil, osign_nil, crs_nil, Int.mul_one, Int.mul_one]
  | append_singleton B b ih => rw [← List.append_assoc, osign_snoc, osign_snoc, crs_snoc, ih, sgL_app]; ac_rfl
theorem osign_one (a : Int) : osign [a] = 1 := rfl
theorem sg_sq (a b : Int) : sg a b * sg a b = 1 := by
  unfold sg
  split <;> rfl
theorem sg_sw {a b : Int} (h : a ≠ b) : sg a b * sg b a = -1 := by
  unfold sg
  by_cases q : a > b
  · rw [if_pos q, if_neg (by omega)]; rfl
  · rw [if_neg q, if_pos (by omega)]; rfl
theorem sgL_sw {A : List Int} {b : Int} (h : b ∉ A) : sgL A b * crs [b] A = (-1) ^ A.length := by
  induction A using rev_ind with
  | nil => rfl
  | append_singleton A a ih =>
    have h1 : b ∉ A := fun q => h (List.mem_append_left _ q)
    have h2 : b ≠ a := fun q => h (by rw [q]; exact List.mem_append_right _ List.mem_cons_self)
    rw [sgL_app, crs_snoc, sgL_cons, sgL_nil, sgL_cons, sgL_nil, Int.mul_one, Int.mul_one, List.length_append, List.length_singleton, Int.pow_succ, ← ih h1, ← sg_sw (Ne.symm h2)]
    ac_rfl
/-- a place of the row leaves it -/
theorem osign_out (A B : List Int) (l : Int) : osign (A ++ l :: B) = osign (A ++ B) * sgL A l * crs [l] B := by
  rw [show A ++ l :: B = A ++ ([l] ++ B) from rfl, osign_app, osign_app [l] B, osign_app A B, crs_app2, osign_one, crs_one, Int.one_mul]
  ac_rfl
def ltc (r : List Int) (l : Int) : Nat := (r.filter fun x => decide (x < l)).length
theorem sgL_ltc {A : List Int} {l : Int} (h : l ∉ A) : sgL A l * (-1) ^ ltc A l = (-1) ^ A.length := by
  induction A with
  | nil => rfl
  | cons a A ih =>
    have h1 : l ∉ A := fun q => h (List.mem_cons_of_mem _ q)
    have h2 : a ≠ l := fun q => h (by rw [q]; exact List.mem_cons_self)
    have ih := ih h1
    unfold ltc at ih ⊢
    rw [sgL_cons, List.length_cons, Int.pow_succ, ← ih, List.filter_cons]
    unfold sg
    by_cases q : a > l
    · rw [if_pos q, if_neg (by simp; omega)]
      rw [Int.neg_mul, Int.neg_mul, Int.mul_neg, Int.mul_one, Int.one_mul]
    · rw [if_neg q, if_pos (by simp; omega), List.length_cons, Int.pow_succ]
      rw [Int.one_mul, Int.mul_assoc]
theorem crs_ltc (B : List Int) (l : Int) : crs [l] B = (-1) ^ ltc B l := by
  induction B using rev_ind with
  | nil => rfl
  | append_singleton B b ih =>
    rw [crs_snoc, ih, sgL_cons, sgL_nil, Int.mul_one]
    unfold ltc sg
    rw [List.filter_append, List.length_append, Int.pow_add]
    congr 1
    by_cases q : l > b
    · rw [if_pos q, List.filter_cons_of_pos (by simpa using q)]; rfl
    · rw [if_neg q, List.filter_cons_of_neg (by simpa using q)]; rfl
theorem neg_sq (k : Nat) : ((-1 : Int) ^ k) * (-1) ^ k = 1 := by
  induction k with
  | zero => rfl
  | succ k ih =>
    rw [Int.pow_succ]
    have : (-1 : Int) ^ k * -1 * ((-1) ^ k * -1) = (-1) ^ k * (-1) ^ k * (-1 * -1) := by ac_rfl
    rw [this, ih]
    rfl
/-- sign and index of a place that leaves -/
theorem osign_leave {A B : List Int} {l : Int} (h : l ∉ A) : osign (A ++ l :: B) * (-1) ^ ltc (A ++ l :: B) l = (-1) ^ A.length * osign (A ++ B) := by
  have e : ltc (A ++ l :: B) l = ltc A l + ltc B l := by
    unfold ltc
    rw [List.filter_append, List.length_append, List.filter_cons_of_neg (by simp)]
  rw [e, osign_out, crs_ltc, Int.pow_add, ← sgL_ltc h]
  have := neg_sq (ltc B l)
  calc osign (A ++ B) * sgL A l * (-1) ^ ltc B l * ((-1) ^ ltc A l * (-1) ^ ltc B l) = sgL A l * (-1) ^ ltc A l * osign (A ++ B) * ((-1) ^ ltc B l * (-1) ^ ltc B l) := by ac_rfl
    _ = _ := by rw [this, Int.mul_one]
/-- the same place twice: either one leaves -/
theorem osign_twice {A B C : List Int} {f : Int} (h : f ∉ B) : (-1) ^ A.length * osign (A ++ (B ++ f :: C)) + (-1) ^ (A.length + B.length + 1) * osign (A ++ f :: (B ++ C)) = 0 := by
  rw [← List.append_assoc, osign_out (A ++ B) C f, osign_out A (B ++ C) f, sgL_app, crs_app2, List.append_assoc, Int.pow_succ, Int.pow_add, ← sgL_sw h]
  have h2 : crs [f] B * crs [f] B = 1 := by rw [crs_ltc]; exact neg_sq _
  have h3 : (-1 : Int) ^ A.length * (sgL B f * crs [f] B) * -1 * (osign (A ++ (B ++ C)) * sgL A f * (crs [f] B * crs [f] C)) = -1 * ((-1) ^ A.length * (osign (A ++ (B ++ C)) * (sgL A f * sgL B f) * crs [f] C)) * (crs [f] B * crs [f] B) := by ac_rfl
  rw [h3, h2, Int.mul_one]
  omega
/-- an ascending row has the sign 1 -/
theorem osign_asc {r : List Int} (h : r.Pairwise (· < ·)) : osign r = 1 := by
  induction r using rev_ind with
  | nil => rfl
  | append_singleton r b ih =>
    rw [List.pairwise_append] at h
    rw [osign_snoc, ih h.1, Int.one_mul]
    have h2 : ∀ a ∈ r, a < b := fun a ha => h.2.2 a ha b List.mem_cons_self
    clear ih h
    induction r with
    | nil => rfl
    | cons a r ih =>
      rw [sgL_cons, ih fun x hx => h2 x (List.mem_cons_of_mem _ hx)]
      unfold sg
      rw [if_neg (by have := h2 a List.mem_cons_self; omega)]
      rfl
theorem ltc_perm {a b : List Int} (h : a.Perm b) (l : Int) : ltc a l = ltc b l := (h.filter _).length_eq
theorem sign_pow (k : Nat) : (1 - 2 * (((k : Nat) : Int) % 2)) = (-1) ^ k := by
  induction k with
  | zero => rfl
  | succ k ih =>
    rw [Int.pow_succ, ← ih]
    omega
end DL

set_option Elab.async false
set_option linter.all false
set_option maxHeartbeats 4000000
namespace DL
/-! ### ascending rooms -/
abbrev Asc (r : List Int) : Prop := r.Pairwise (· < ·)
theorem Asc.nd {r : List Int} (h : Asc r) : r.Nodup := h.imp fun {a b} q e => by omega
theorem Asc.srtd {r : List Int} (h : Asc r) : SrtO.Srtd ilt r := h.imp fun {a b} q => decide_eq_false (by omega)
theorem sortI_asc {r : List Int} (h : r.Nodup) : Asc (sortI r) := by
  have h1 := sortBy_srtd ilt_swo r
  have h2 : (sortI r).Nodup := (sortBy_perm ilt r).nodup_iff.mpr h
  have := h1.and h2
  exact this.imp fun {a b} q => by
    have q1 := of_decide_eq_false q.1
    have q2 := q.2
    omega
theorem asc_uniq {a b : List Int} (h1 : Asc a) (h2 : Asc b) (p : a.Perm b) : a = b := srtd_uniq ilt_tot h1.srtd h2.srtd p
theorem asc_ext {a b : List Int} (h1 : Asc a) (h2 : Asc b) (h : ∀ x, x ∈ a ↔ x ∈ b) : a = b := asc_uniq h1 h2 (perm_nd h1.nd h2.nd h)
theorem asc_sort {r : List Int} (h : Asc r) : sortI r = r := asc_uniq (sortI_asc h.nd) h (sortBy_perm ilt r)
theorem sortI_perm {a b : List Int} (h : a.Nodup) (p : a.Perm b) : sortI a = sortI b :=
  asc_uniq (sortI_asc h) (sortI_asc (p.nodup_iff.mp h)) (((sortBy_perm ilt a).trans p).trans (sortBy_perm ilt b).symm)
theorem mem_sortI {r : List Int} {p : Int} : p ∈ sortI r ↔ p ∈ r := (sortBy_perm ilt r).mem_iff
theorem rgI_asc (a b : Int) : Asc (rgI a b) := by
  unfold rgI Asc
  rw [List.pairwise_map]
  exact List.pairwise_lt_range.imp fun {x y} h => by omega
theorem asc_sub {r : List Int} {a b : Int} (h : Asc r) (hb : ∀ p ∈ r, a ≤ p ∧ p < b) : r.Sublist (rgI a b) := by
  have e : r = (rgI a b).filter fun p => decide (p ∈ r) := by
    refine asc_ext h (List.Pairwise.filter _ (rgI_asc a b)) fun x => ?_
    rw [List.mem_filter, mem_rgI]
    constructor
    · exact fun q => ⟨hb x q, decide_eq_true q⟩
    · exact fun q => of_decide_eq_true q.2
  rw [e]
  exact List.filter_sublist
theorem sub_subs : ∀ {s : Nat} {l r : List Int}, r.length = s → r.Sublist l → r ∈ subs s l := by
  intro s
  induction s with
  | zero =>
    intro l r h _
    rw [List.length_eq_zero_iff.mp h]
    exact List.mem_cons_self
  | succ s ih =>
    intro l r h hs
    cases r with
    | nil => simp at h
    | cons a r =>
      have key : ∀ l : List Int, (a :: r).Sublist l → ∃ k, k < l.length ∧ l.getD k 0 = a ∧ r.Sublist (l.drop (k + 1)) := by
        intro l
        induction l with
        | nil => intro q; cases q
        | cons b l ihl =>
          intro q
          cases q with
          | cons _ q =>
            obtain ⟨k, h1, h2, h3⟩ := ihl q
            exact ⟨k + 1, Nat.succ_lt_succ h1, h2, h3⟩
          | cons_cons _ q => exact ⟨0, Nat.succ_pos _, rfl, q⟩
      obtain ⟨k, h1, h2, h3⟩ := key l hs
      have h4 := h3.length_le
      rw [List.length_drop] at h4
      rw [List.length_cons] at h
      show a :: r ∈ (List.range (l.length - s)).flatMap fun k => (subs s (l.drop (k + 1))).map fun r => l.getD k 0 :: r
      refine List.mem_flatMap.mpr ⟨k, List.mem_range.mpr (by omega), List.mem_map.mpr ⟨r, ih (by omega) h3, by rw [h2]⟩⟩
theorem subs_nd : ∀ {s : Nat} {l : List Int}, l.Nodup → (subs s l).Nodup := by
  intro s
  induction s with
  | zero => intro l _; exact List.nodup_cons.mpr ⟨by simp, List.nodup_nil⟩
  | succ s ih =>
    intro l nd
    show ((List.range (l.length - s)).flatMap fun k => (subs s (l.drop (k + 1))).map fun r => l.getD k 0 :: r).Nodup
    unfold List.Nodup
    rw [List.pairwise_flatMap]
    refine ⟨fun k _ => ?_, ?_⟩
    · rw [List.pairwise_map]
      exact (ih (nd.sublist (List.drop_sublist _ _))).imp fun {x y} h e => h (List.cons.inj e).2
    · have h1 : (List.range (l.length - s)).Pairwise (fun a b => a < b ∧ b < l.length) := by
        rw [List.pairwise_iff_getElem]
        intro i j hi hj hij
        rw [List.length_range] at hi hj
        rw [List.getElem_range, List.getElem_range]
        omega
      refine h1.imp fun {a b} h x hx y hy e => ?_
      obtain ⟨x', _, rfl⟩ := List.mem_map.mp hx
      obtain ⟨y', _, rfl⟩ := List.mem_map.mp hy
      have e := (List.cons.inj e).1
      have := List.pairwise_iff_getElem.mp nd a b (by omega) h.2 h.1
      apply this
      rw [List.getD_eq_getElem?_getD, List.getD_eq_getElem?_getD, List.getElem?_eq_getElem (by omega), List.getElem?_eq_getElem (by omega)] at e
      exact e
/-! ### places in rows -/
theorem ixOf_left {k : Int} : ∀ {A B : List Int}, k ∈ A → ixOf k (A ++ B) = ixOf k A
  | a :: A, B, h => by
    rw [List.cons_append]
    unfold ixOf
    by_cases e : a = k
    · rw [if_pos e, if_pos e]
    · rw [if_neg e, if_neg e, ixOf_left ((List.mem_cons.mp h).resolve_left (Ne.symm e))]
theorem ixOf_right {k : Int} : ∀ {A B : List Int}, k ∉ A → ixOf k (A ++ B) = A.length + ixOf k B
  | [], B, _ => by simp
  | a :: A, B, h => by
    rw [List.cons_append, List.length_cons]
    have h1 : a ≠ k := fun e => h (by rw [e]; exact List.mem_cons_self)
    show (if a = k then 0 else ixOf k (A ++ B) + 1) = _
    rw [if_neg h1, ixOf_right fun q => h (List.mem_cons_of_mem _ q)]
    omega
theorem ixOf_nd {k : Int} : ∀ {l : List Int} {j : Nat}, l.Nodup → l[j]? = some k → ixOf k l = j
  | [], j, _, h => by cases h
  | a :: l, 0, _, h => by
    have : a = k := Option.some.inj h
    show (if a = k then 0 else _) = 0
    rw [if_pos this]
  | a :: l, j + 1, nd, h => by
    obtain ⟨h1, h2⟩ := List.nodup_cons.mp nd
    have hk : l[j]? = some k := h
    have : a ≠ k := fun e => h1 (by rw [e]; exact List.mem_of_getElem? hk)
    show (if a = k then 0 else ixOf k l + 1) = j + 1
    rw [if_neg this, ixOf_nd h2 hk]
theorem ixOf_inj {l : List Int} {p q : Int} (hp : p ∈ l) (hq : q ∈ l) (h : ixOf p l = ixOf q l) : p = q := by
  have h1 := ixOf_at hp
  rw [h, ixOf_at hq] at h1
  exact (Option.some.inj h1).symm
theorem mem_drop_ix {l : List Int} (nd : l.Nodup) {k : Nat} {p : Int} : p ∈ l.drop (k + 1) ↔ p ∈ l ∧ k < ixOf p l := by
  constructor
  · intro h
    refine ⟨List.mem_of_mem_drop h, ?_⟩
    obtain ⟨j, hj⟩ := List.mem_iff_getElem?.mp h
    rw [List.getElem?_drop] at hj
    rw [ixOf_nd nd hj]
    omega
  · rintro ⟨h1, h2⟩
    refine List.mem_iff_getElem?.mpr ⟨ixOf p l - (k + 1), ?_⟩
    rw [List.getElem?_drop, show k + 1 + (ixOf p l - (k + 1)) = ixOf p l by omega]
    exact ixOf_at h1
theorem mem_pab {row room : List Int} (nd : row.Nodup) {p : Int} : p ∈ pab row room ↔ p ∈ row ∧ ixOf (fst row room) row < ixOf p row := mem_drop_ix nd
theorem mem_aia {rows : List (List Int)} {room : List Int} (hne : rows ≠ []) {p : Int} : p ∈ aia rows room ↔ ∀ row ∈ rows, p ∈ pab row room := by
  have key : ∀ (rs : List (List Int)) (f : List Int), p ∈ rs.foldl (fun f row => f.filter fun p => decide (p ∈ pab row room)) f ↔ p ∈ f ∧ ∀ row ∈ rs, p ∈ pab row room := by
    intro rs
    induction rs with
    | nil => intro f; simp
    | cons r rs ih =>
      intro f
      rw [List.foldl_cons, ih, List.mem_filter]
      constructor
      · rintro ⟨⟨h1, h2⟩, h3⟩
        refine ⟨h1, fun row hr => ?_⟩
        rcases List.mem_cons.mp hr with e | q
        · rw [e]; exact of_decide_eq_true h2
        · exact h3 row q
      · rintro ⟨h1, h2⟩
        exact ⟨⟨h1, decide_eq_true (h2 r List.mem_cons_self)⟩, fun row hr => h2 row (List.mem_cons_of_mem _ hr)⟩
  cases rows with
  | nil => exact absurd rfl hne
  | cons r rs =>
    unfold aia
    rw [key]
    show p ∈ sortI (pab r room) ∧ _ ↔ _
    rw [mem_sortI]
    constructor
    · rintro ⟨h1, h2⟩ row hr
      rcases List.mem_cons.mp hr with e | q
      · rw [e]; exact h1
      · exact h2 row q
    · intro h
      exact ⟨h r List.mem_cons_self, fun row hr => h row (List.mem_cons_of_mem _ hr)⟩
/-! ### the program's rows -/
def posO (os : List (List Int)) (n v : Nat) (i : Nat) (p : Int) : Nat := ixOf p ((frows os n v).getD i [])
def mO (os : List (List Int)) (n v : Nat) (i : Nat) (R : List Int) : Int := fst ((frows os n v).getD i []) R
def zO (os : List (List Int)) (v : Nat) (i : Nat) : Int := (os.getD i []).getD (v - 1) 0
theorem frows_get (os : List (List Int)) {n v i : Nat} (hi : i < n) : (frows os n v).getD i [] = frow n v i (os.getD i []) := by
  unfold frows
  rw [List.getD_eq_getElem?_getD, List.getElem?_map, List.getElem?_range hi]
  rfl
section
variable {os : List (List Int)} {n v : Nat}
theorem Ord.nd (O : Ord os n v) {o : List Int} (ho : o ∈ os) : o.Nodup := by
  have h := O.srt o ho
  refine (sortBy_perm ilt o).nodup_iff.mp ?_
  have h' : sortBy ilt o = rgI 0 v := h
  rw [h']
  exact rgI_nd _ _
theorem Ord.mem (O : Ord os n v) {o : List Int} (ho : o ∈ os) {p : Int} : p ∈ o ↔ 0 ≤ p ∧ p < v := by
  rw [← mem_sortI, O.srt o ho, mem_rgI]
theorem others_nd (n v i : Nat) : (others n v i).Nodup := by
  unfold others List.Nodup
  rw [List.pairwise_map]
  exact (List.nodup_range.filter _).imp fun {a b} h e => h (by omega)
theorem Ord.row_nd (O : Ord os n v) {i : Nat} (hi : i < n) : (frow n v i (os.getD i [])).Nodup := by
  have ho := O.get hi
  unfold frow
  rw [List.nodup_cons]
  refine ⟨fun h => ?_, ?_⟩
  · rcases List.mem_append.mp h with q | q
    · have := (O.mem ho).mp q
      omega
    · obtain ⟨k, _, h2, h3⟩ := mem_others.mp q
      omega
  · rw [List.nodup_append]
    refine ⟨O.nd ho, others_nd _ _ _, fun a ha b hb e => ?_⟩
    have := (O.mem ho).mp ha
    obtain ⟨k, _, _, h3⟩ := mem_others.mp hb
    omega
theorem Ord.row_mem (O : Ord os n v) {i : Nat} (hi : i < n) (p : Int) : p ∈ frow n v i (os.getD i []) ↔ 0 ≤ p ∧ p < (v : Int) + n := by
  have := mem_frow O (row := frow n v i (os.getD i [])) (by rw [← frows_get os hi, List.getD_eq_getElem?_getD, List.getElem?_eq_getElem (by rw [frows_len]; exact hi)]; exact List.getElem_mem _) p
  rw [this]
  constructor <;> (intro h; omega)
theorem Ord.row_len (O : Ord os n v) {i : Nat} (hi : i < n) : (frow n v i (os.getD i [])).length ≤ 100 :=
  frow_len O (by rw [← frows_get os hi, List.getD_eq_getElem?_getD, List.getElem?_eq_getElem (by rw [frows_len]; exact hi)]; exact List.getElem_mem _)
theorem pos_thing (O : Ord os n v) {i : Nat} (hi : i < n) {t : Int} (h0 : 0 ≤ t) (h1 : t < v) : posO os n v i t = ixOf t (os.getD i []) + 1 := by
  unfold posO
  rw [frows_get os hi, frow]
  show (if _ then 0 else ixOf t (os.getD i [] ++ others n v i) + 1) = _
  rw [if_neg (by omega), ixOf_left ((O.mem (O.get hi)).mpr ⟨h0, h1⟩)]
theorem Ord.ab (O : Ord os n v) : Ab n v (posO os n v) (mO os n v) (zO os v) := by
  have hv := O.v1
  refine ⟨O.v1, fun i hi p q h1 h2 h3 h4 h => ?_, fun i hi => ?_, fun i hi t h0 h1 j hj hji => ?_, fun i hi => ?_, fun i hi R hne hb => ?_⟩
  · unfold posO at h
    rw [frows_get os hi] at h
    exact ixOf_inj ((O.row_mem hi p).mpr ⟨h1, h2⟩) ((O.row_mem hi q).mpr ⟨h3, h4⟩) h
  · unfold posO
    rw [frows_get os hi, frow]
    show (if _ then 0 else _) = 0
    rw [if_pos (by omega)]
  · rw [pos_thing O hi h0 h1]
    unfold posO
    rw [frows_get os hi, frow]
    show _ < (if _ then 0 else ixOf _ (os.getD i [] ++ others n v i) + 1)
    rw [if_neg (by omega), ixOf_right (fun q => by have := (O.mem (O.get hi)).mp q; omega)]
    have := ixOf_lt ((O.mem (O.get hi)).mpr ⟨h0, h1⟩)
    omega
  · have ho := O.get hi
    have hl := O.olen ho
    have hz : (os.getD i [])[v - 1]? = some (zO os v i) := by
      unfold zO
      rw [List.getD_eq_getElem?_getD (i := v - 1), List.getElem?_eq_getElem (by omega)]
      rfl
    have hm := (O.mem ho).mp (List.mem_of_getElem? hz)
    refine ⟨hm.1, hm.2, fun t h0 h1 => ?_⟩
    rw [pos_thing O hi h0 h1, pos_thing O hi hm.1 hm.2, ixOf_nd (O.nd ho) hz]
    have := ixOf_lt ((O.mem ho).mpr ⟨h0, h1⟩)
    omega
  · have M : Meet (frow n v i (os.getD i [])) R := by
      obtain ⟨p, hp⟩ := List.exists_mem_of_ne_nil _ hne
      exact ⟨O.row_len hi, p, (O.row_mem hi p).mpr (hb p hp), hp⟩
    unfold mO posO
    rw [frows_get os hi]
    exact ⟨M.fst.2, fun q hq => fst_min M.1 q hq ((O.row_mem hi q).mpr (hb q hq))⟩
theorem least_eq (os : List (List Int)) (n v : Nat) (R : List Int) : least os n v R = (List.range n).map fun i => mO os n v i R := by
  unfold least mO
  unfold frows
  rw [List.map_map]
  refine List.map_congr_left fun i hi => ?_
  have h := frows_get os (v := v) (List.mem_range.mp hi)
  unfold frows at h
  rw [h]
  rfl
theorem mem_rows_get {rows : List (List Int)} {Q : List Int → Prop} : (∀ row ∈ rows, Q row) ↔ ∀ i, i < rows.length → Q (rows.getD i []) := by
  constructor
  · intro h i hi
    refine h _ ?_
    rw [List.getD_eq_getElem?_getD, List.getElem?_eq_getElem hi]
    exact List.getElem_mem _
  · intro h row hr
    obtain ⟨i, hi, rfl⟩ := List.getElem_of_mem hr
    have := h i hi
    rwa [List.getD_eq_getElem?_getD, List.getElem?_eq_getElem hi] at this
theorem Ord.pab_iff (O : Ord os n v) {i : Nat} (hi : i < n) {R : List Int} {p : Int} : p ∈ pab ((frows os n v).getD i []) R ↔ (0 ≤ p ∧ p < (v : Int) + n) ∧ posO os n v i (mO os n v i R) < posO os n v i p := by
  unfold posO mO
  rw [frows_get os hi, mem_pab (O.row_nd hi), O.row_mem hi]
theorem Ord.frows_ne (O : Ord os n v) : frows os n v ≠ [] := fun h => by
  have := frows_len os n v
  rw [h] at this
  have := O.n1
  simp at *
  omega
theorem Ord.ub_iff (O : Ord os n v) {R : List Int} : aia (frows os n v) R = [] ↔ Ub n v (posO os n v) (mO os n v) R := by
  rw [List.eq_nil_iff_forall_not_mem]
  unfold Ub Bt
  refine forall_congr' fun p => not_congr ?_
  rw [mem_aia O.frows_ne, mem_rows_get, frows_len]
  constructor
  · intro h
    have h0 := (O.pab_iff (O.n1)).mp (h 0 O.n1)
    exact ⟨h0.1.1, h0.1.2, fun i hi => ((O.pab_iff hi).mp (h i hi)).2⟩
  · rintro ⟨h1, h2, h3⟩ i hi
    exact (O.pab_iff hi).mpr ⟨⟨h1, h2⟩, h3 i hi⟩
theorem Ord.cd_iff (O : Ord os n v) (h2 : 2 ≤ n) {F : List Int} {k : Nat} (hk : k < n) {p : Int} : p ∈ aia ((frows os n v).take k ++ (frows os n v).drop (k + 1)) F ↔ Cd n v (posO os n v) (mO os n v) F k p := by
  have hmem : ∀ row, row ∈ (frows os n v).take k ++ (frows os n v).drop (k + 1) ↔ ∃ i, i < n ∧ i ≠ k ∧ row = (frows os n v).getD i [] := by
    intro row
    rw [List.mem_append]
    constructor
    · rintro (h | h)
      · obtain ⟨i, hi, rfl⟩ := List.getElem_of_mem h
        rw [List.length_take, frows_len] at hi
        refine ⟨i, by omega, by omega, ?_⟩
        rw [List.getElem_take, List.getD_eq_getElem?_getD, List.getElem?_eq_getElem]
        rfl
      · obtain ⟨i, hi, rfl⟩ := List.getElem_of_mem h
        rw [List.length_drop, frows_len] at hi
        refine ⟨k + 1 + i, by omega, by omega, ?_⟩
        rw [List.getElem_drop, List.getD_eq_getElem?_getD, List.getElem?_eq_getElem]
        rfl
    · rintro ⟨i, hi, hik, rfl⟩
      rw [List.getD_eq_getElem?_getD, List.getElem?_eq_getElem (by rw [frows_len]; exact hi)]
      show (frows os n v)[i]'_ ∈ _ ∨ _
      by_cases h : i < k
      · left
        refine List.mem_iff_getElem?.mpr ⟨i, ?_⟩
        rw [List.getElem?_take, if_pos h, List.getElem?_eq_getElem]
      · right
        refine List.mem_iff_getElem?.mpr ⟨i - (k + 1), ?_⟩
        rw [List.getElem?_drop, show k + 1 + (i - (k + 1)) = i by omega, List.getElem?_eq_getElem]
        rfl
  have hne : (frows os n v).take k ++ (frows os n v).drop (k + 1) ≠ [] := fun e => by
    have := congrArg List.length e
    rw [List.length_append, List.length_take, List.length_drop, frows_len] at this
    simp at this
    omega
  rw [mem_aia hne]
  unfold Cd
  constructor
  · intro h
    have h0 : ∃ i0, i0 < n ∧ i0 ≠ k := by
      by_cases e : k = 0
      · exact ⟨1, by omega, by omega⟩
      · exact ⟨0, by omega, Ne.symm e⟩
    obtain ⟨i0, hi0, hik0⟩ := h0
    have h1 := (O.pab_iff hi0).mp (h _ ((hmem _).mpr ⟨i0, hi0, hik0, rfl⟩))
    exact ⟨h1.1.1, h1.1.2, fun i hi hik => ((O.pab_iff hi).mp (h _ ((hmem _).mpr ⟨i, hi, hik, rfl⟩))).2⟩
  · rintro ⟨h1, h2, h3⟩ row hr
    obtain ⟨i, hi, hik, rfl⟩ := (hmem row).mp hr
    exact (O.pab_iff hi).mpr ⟨⟨h1, h2⟩, h3 i hi hik⟩
theorem Rom.subs {R : List Int} (h : Rom n v R) (ha : Asc R) : R ∈ subs n (rgI 0 ((v : Int) + n)) := sub_subs h.len (asc_sub ha h.bd)
theorem subs_rom {R : List Int} (h : R ∈ DL.subs n (rgI 0 ((v : Int) + n))) : Rom n v R ∧ Asc R := by
  obtain ⟨h1, h2⟩ := subs_mem h
  have ha : Asc R := (rgI_asc _ _).sublist h2
  exact ⟨⟨h1, ha.nd, fun p hp => mem_rgI.mp (h2.subset hp)⟩, ha⟩
theorem Ord.mem_unb (O : Ord os n v) {R : List Int} : R ∈ DL.unb os n v ↔ Rom n v R ∧ Asc R ∧ Ub n v (posO os n v) (mO os n v) R := by
  unfold DL.unb
  rw [List.mem_filter]
  constructor
  · rintro ⟨h1, h2⟩
    obtain ⟨a, b⟩ := subs_rom h1
    have h2 := of_decide_eq_true h2
    exact ⟨a, b, O.ub_iff.mp (List.eq_nil_of_length_eq_zero (by omega))⟩
  · rintro ⟨a, b, c⟩
    refine ⟨a.subs b, decide_eq_true ?_⟩
    rw [O.ub_iff.mpr c]
    rfl
theorem unb_nd : (DL.unb os n v).Nodup := (subs_nd (rgI_nd _ _)).filter _
theorem own_rom : Rom n v (ownP n v) ∧ Asc (ownP n v) := by
  have ha : Asc (ownP n v) := rgI_asc _ _
  refine ⟨⟨?_, ha.nd, fun p hp => ?_⟩, ha⟩
  · unfold ownP rgI
    rw [List.length_map, List.length_range]
    omega
  · have := mem_rgI.mp hp
    omega
theorem mem_own {p : Int} : p ∈ ownP n v ↔ ∃ i, i < n ∧ p = (v : Int) + i := by
  unfold ownP
  rw [mem_rgI]
  constructor
  · intro h
    exact ⟨(p - v).toNat, by omega, by omega⟩
  · rintro ⟨i, hi, rfl⟩
    omega
theorem Ord.own_unb (O : Ord os n v) : ownP n v ∉ DL.unb os n v := fun h => by
  have := (O.mem_unb.mp h).2.2
  exact O.ab.own_beaten own_rom.1.bd (fun i hi => mem_own.mpr ⟨i, hi, rfl⟩) this
end
end DL

set_option Elab.async false
set_option linter.all false
set_option maxHeartbeats 4000000
namespace DL
/-! ### faces -/
abbrev dl (r : List Int) (l : Int) : List Int := r.filter fun x => !decide (x = l)
theorem mem_dl {r : List Int} {l p : Int} : p ∈ dl r l ↔ p ∈ r ∧ p ≠ l := by
  unfold dl
  rw [List.mem_filter]
  simp
theorem dl_asc {r : List Int} {l : Int} (h : Asc r) : Asc (dl r l) := List.Pairwise.filter _ h
theorem dl_iff {r : List Int} {l : Int} (hl : l ∈ r) (p : Int) : p ∈ r ↔ p ∈ dl r l ∨ p = l := by
  rw [mem_dl]
  constructor
  · intro h
    by_cases e : p = l
    · exact Or.inr e
    · exact Or.inl ⟨h, e⟩
  · rintro (h | h)
    · exact h.1
    · rw [h]; exact hl
theorem not_dl (r : List Int) (l : Int) : l ∉ dl r l := fun h => (mem_dl.mp h).2 rfl
theorem dl_len {r : List Int} {l : Int} (nd : r.Nodup) (hl : l ∈ r) : (dl r l).length + 1 = r.length := by
  have : (l :: dl r l).Perm r := perm_nd (List.nodup_cons.mpr ⟨not_dl r l, nd.filter _⟩) nd fun x => by
    rw [List.mem_cons, dl_iff hl]
    constructor
    · rintro (h | h)
      · exact Or.inr h
      · exact Or.inl h
    · rintro (h | h)
      · exact Or.inr h
      · exact Or.inl h
  rw [← this.length_eq, List.length_cons]
theorem at_split {α : Type} {l : List α} {i : Nat} {a : α} (h : l[i]? = some a) : l = l.take i ++ a :: l.drop (i + 1) := by
  have hi := (List.getElem?_eq_some_iff.mp h).1
  have e := (List.getElem?_eq_some_iff.mp h).2
  rw [← e, List.getElem_cons_drop, List.take_append_drop]
theorem face_dl {r : List Int} (nd : r.Nodup) {k : Nat} {l : Int} (h : r[k]? = some l) : r.take k ++ r.drop (k + 1) = dl r l := by
  have e := at_split h
  have nd' := nd
  rw [e, List.nodup_append] at nd'
  obtain ⟨h1, h2, h3⟩ := nd'
  have h2 := (List.nodup_cons.mp h2).1
  have f1 : dl (r.take k) l = r.take k := List.filter_eq_self.mpr fun a ha => by
    have := h3 a ha l List.mem_cons_self
    simpa using this
  have f2 : dl (r.drop (k + 1)) l = r.drop (k + 1) := List.filter_eq_self.mpr fun a ha => by
    have : a ≠ l := fun q => h2 (q ▸ ha)
    simpa using this
  have : dl r l = dl (r.take k ++ l :: r.drop (k + 1)) l := by rw [← e]
  rw [this]
  unfold dl at f1 f2 ⊢
  rw [List.filter_append, List.filter_cons_of_neg (by simp), f1, f2]
theorem mem_fcs {r f : List Int} (nd : r.Nodup) : f ∈ fcs r ↔ ∃ l, l ∈ r ∧ f = dl r l := by
  unfold fcs
  rw [List.mem_map]
  constructor
  · rintro ⟨k, hk, rfl⟩
    have hk := List.mem_range.mp hk
    exact ⟨r[k], List.getElem_mem _, face_dl nd (List.getElem?_eq_getElem hk)⟩
  · rintro ⟨l, hl, rfl⟩
    obtain ⟨k, hk⟩ := List.mem_iff_getElem?.mp hl
    exact ⟨k, List.mem_range.mpr (List.getElem?_eq_some_iff.mp hk).1, face_dl nd hk⟩
theorem ltc_ix {r : List Int} (h : Asc r) {k : Nat} {l : Int} (hk : r[k]? = some l) : ltc r l = k := by
  have e := at_split hk
  have hl := (List.getElem?_eq_some_iff.mp hk).1
  unfold ltc
  have h' := h
  rw [e] at h'
  unfold Asc at h'
  rw [List.pairwise_append] at h'
  obtain ⟨_, h2, h3⟩ := h'
  have h2 := (List.pairwise_cons.mp h2).1
  have f1 : (r.take k).filter (fun x => decide (x < l)) = r.take k := List.filter_eq_self.mpr fun a ha => decide_eq_true (h3 a ha l List.mem_cons_self)
  have f2 : (l :: r.drop (k + 1)).filter (fun x => decide (x < l)) = [] := List.filter_eq_nil_iff.mpr fun a ha => by
    rcases List.mem_cons.mp ha with q | q
    · rw [q]; simp
    · have := h2 a q
      simp
      omega
  have : r.filter (fun x => decide (x < l)) = (r.take k ++ l :: r.drop (k + 1)).filter (fun x => decide (x < l)) := by rw [← e]
  rw [this, List.filter_append, f1, f2, List.append_nil, List.length_take]
  omega
/-- sign and index, by the row and where the place stands in it -/
theorem sign_face {M r : List Int} (p : M.Perm r) (nd : r.Nodup) {i : Nat} {l : Int} (h : M[i]? = some l) : osign M * (-1) ^ ltc r l = (-1) ^ i * osign (M.take i ++ M.drop (i + 1)) := by
  have e := at_split h
  have hi := (List.getElem?_eq_some_iff.mp h).1
  have nd' := p.nodup_iff.mpr nd
  rw [e, List.nodup_append] at nd'
  have hl : l ∉ M.take i := fun q => nd'.2.2 l q l List.mem_cons_self rfl
  have := osign_leave (B := M.drop (i + 1)) hl
  rw [← e, List.length_take, Nat.min_eq_left (by omega)] at this
  rw [← ltc_perm p]
  exact this
theorem sign_two {M : List Int} {i j : Nat} {f : Int} (hij : i < j) (hi : M[i]? = some f) (hj : M[j]? = some f) (h : ∀ t, i < t → t < j → M[t]? ≠ some f) :
    (-1) ^ i * osign (M.take i ++ M.drop (i + 1)) + (-1) ^ j * osign (M.take j ++ M.drop (j + 1)) = 0 := by
  have hil := (List.getElem?_eq_some_iff.mp hi).1
  have hjl := (List.getElem?_eq_some_iff.mp hj).1
  have e1 := at_split hi
  have hj2 : (M.drop (i + 1))[j - (i + 1)]? = some f := by
    rw [List.getElem?_drop, show i + 1 + (j - (i + 1)) = j by omega]
    exact hj
  have e2 := at_split hj2
  have hB : f ∉ (M.drop (i + 1)).take (j - (i + 1)) := fun q => by
    obtain ⟨t, ht⟩ := List.mem_iff_getElem?.mp q
    rw [List.getElem?_take] at ht
    split at ht
    · rename_i hlt
      rw [List.getElem?_drop] at ht
      exact h (i + 1 + t) (by omega) (by omega) ht
    · cases ht
  have key := osign_twice (A := M.take i) (C := (M.drop (i + 1)).drop (j - (i + 1) + 1)) hB
  rw [List.length_take, List.length_take, List.length_drop, Nat.min_eq_left (by omega), Nat.min_eq_left (by omega), show i + (j - (i + 1)) + 1 = j by omega, ← e2] at key
  have e3 : M.take i ++ f :: ((M.drop (i + 1)).take (j - (i + 1)) ++ (M.drop (i + 1)).drop (j - (i + 1) + 1)) = M.take j ++ M.drop (j + 1) := by
    have a1 : (M.drop (i + 1)).drop (j - (i + 1) + 1) = M.drop (j + 1) := by
      rw [List.drop_drop]
      congr 1
      omega
    have a2 : M.take j = M.take i ++ f :: (M.drop (i + 1)).take (j - (i + 1)) := by
      have : M.take j = (M.take i ++ f :: M.drop (i + 1)).take j := by rw [← e1]
      rw [this, List.take_append, List.length_take, Nat.min_eq_left (by omega), List.take_of_length_le (by rw [List.length_take]; omega)]
      congr 1
      rw [show j - i = (j - (i + 1)) + 1 by omega, List.take_succ_cons]
    rw [a1, a2, List.append_assoc]
    rfl
  rw [e3] at key
  exact key
theorem map_cut {α : Type} {n i : Nat} {g h : Nat → α} (e : ∀ k, k < n → k ≠ i → g k = h k) : ((List.range n).map g).take i ++ ((List.range n).map g).drop (i + 1) = ((List.range n).map h).take i ++ ((List.range n).map h).drop (i + 1) := by
  congr 1
  · apply List.ext_getElem?
    intro k
    rw [List.getElem?_take, List.getElem?_take]
    split
    · rw [List.getElem?_map, List.getElem?_map]
      by_cases hk : k < n
      · rw [List.getElem?_range hk]
        show some _ = some _
        rw [e k hk (by omega)]
      · rw [List.getElem?_eq_none (by rw [List.length_range]; omega)]
        rfl
    · rfl
  · apply List.ext_getElem?
    intro k
    rw [List.getElem?_drop, List.getElem?_drop, List.getElem?_map, List.getElem?_map]
    by_cases hk : i + 1 + k < n
    · rw [List.getElem?_range hk]
      show some _ = some _
      rw [e _ hk (by omega)]
    · rw [List.getElem?_eq_none (by rw [List.length_range]; omega)]
      rfl
theorem map_at {α : Type} {n i : Nat} {g : Nat → α} (hi : i < n) : ((List.range n).map g)[i]? = some (g i) := by
  rw [List.getElem?_map, List.getElem?_range hi]
  rfl
/-- the last of a part of the row -/
theorem last_ix {l : List Int} (nd : l.Nodup) (q : Int → Bool) (h : 0 < (l.filter q).length) :
    (l.filter q).getD ((l.filter q).length - 1) 0 ∈ l.filter q ∧ ∀ p ∈ l.filter q, ixOf p l ≤ ixOf ((l.filter q).getD ((l.filter q).length - 1) 0) l := by
  have hp : l.Pairwise fun a b => ixOf a l < ixOf b l := by
    rw [List.pairwise_iff_getElem]
    intro i j hi hj hij
    rw [ixOf_nd nd (List.getElem?_eq_getElem hi), ixOf_nd nd (List.getElem?_eq_getElem hj)]
    exact hij
  have hs := hp.sublist (List.filter_sublist (p := q))
  have hlt : (l.filter q).length - 1 < (l.filter q).length := by omega
  have e : (l.filter q).getD ((l.filter q).length - 1) 0 = (l.filter q)[(l.filter q).length - 1] := by
    rw [List.getD_eq_getElem?_getD, List.getElem?_eq_getElem hlt]
    rfl
  rw [e]
  refine ⟨List.getElem_mem _, fun p hp => ?_⟩
  obtain ⟨i, hi, rfl⟩ := List.getElem_of_mem hp
  by_cases hi2 : i = (l.filter q).length - 1
  · subst hi2
    exact Nat.le_refl _
  · exact Nat.le_of_lt (List.pairwise_iff_getElem.mp hs i _ hi hlt (by omega))
/-! ### the rooms of the book -/
section
variable {os : List (List Int)} {n v : Nat}
def InW (os : List (List Int)) (n v : Nat) (r : List Int) : Prop := r = ownP n v ∨ r ∈ unb os n v
def cf (os : List (List Int)) (n v : Nat) (r : List Int) : Int := if r = ownP n v then -1 else osign (least os n v r)
theorem InW.rom (O : Ord os n v) {r : List Int} (h : InW os n v r) : Rom n v r ∧ Asc r := by
  rcases h with h | h
  · rw [h]; exact own_rom
  · have := O.mem_unb.mp h
    exact ⟨this.1, this.2.1⟩
theorem Rom.good (O : Ord os n v) {r : List Int} (h : Rom n v r) : Good ((v : Int) + n) n r := ⟨h.len, by have := h.len; have := O.n4; omega, h.nd, h.bd⟩
theorem add_rom {F : List Int} {x : Int} (hl : F.length + 1 = n) (nd : F.Nodup) (hx : x ∉ F) (hb : ∀ p ∈ F, 0 ≤ p ∧ p < (v : Int) + n) (h0 : 0 ≤ x) (h1 : x < (v : Int) + n) :
    Rom n v (sortI (F ++ [x])) ∧ Asc (sortI (F ++ [x])) ∧ ∀ p, p ∈ sortI (F ++ [x]) ↔ p ∈ F ∨ p = x := by
  have nd2 : (F ++ [x]).Nodup := by
    rw [List.nodup_append]
    refine ⟨nd, List.nodup_cons.mpr ⟨by simp, List.nodup_nil⟩, fun a ha b hb e => hx ?_⟩
    rw [← List.mem_singleton.mp hb, ← e]
    exact ha
  have hm : ∀ p, p ∈ sortI (F ++ [x]) ↔ p ∈ F ∨ p = x := fun p => by rw [mem_sortI, List.mem_append, List.mem_singleton]
  refine ⟨⟨?_, (sortI_asc nd2).nd, fun p hp => ?_⟩, sortI_asc nd2, hm⟩
  · rw [sortI_len, List.length_append, List.length_singleton, hl]
  · rcases (hm p).mp hp with h | h
    · exact hb p h
    · rw [h]; exact ⟨h0, h1⟩
theorem add_dl {F R : List Int} {x : Int} (ha : Asc F) (hR : Asc R) (hx : x ∉ F) (hm : ∀ p, p ∈ R ↔ p ∈ F ∨ p = x) : dl R x = F := asc_ext (dl_asc hR) ha fun p => by
  rw [mem_dl, hm]
  constructor
  · rintro ⟨h1 | h1, h2⟩
    · exact h1
    · exact absurd h1 h2
  · intro h
    exact ⟨Or.inl h, fun e => hx (e ▸ h)⟩
/-- the other room at a face, and the signs of both -/
structure Oth (os : List (List Int)) (n v : Nat) (r : List Int) (l : Int) (res : List Int) (l' : Int) : Prop where
  inw : InW os n v res
  ne : res ≠ r
  mem : l' ∈ res
  face : dl res l' = dl r l
  only : ∀ r2 l2, InW os n v r2 → l2 ∈ r2 → dl r2 l2 = dl r l → r2 = r ∨ r2 = res
  sgn : cf os n v r * (-1) ^ ltc r l + cf os n v res * (-1) ^ ltc res l' = 0
theorem Ord.least_perm (O : Ord os n v) {r : List Int} (h : r ∈ unb os n v) : (least os n v r).Perm r := by
  have := O.mem_unb.mp h
  rw [least_eq]
  exact (O.ab.perm this.1 this.2.2).symm
theorem Ord.unb_ne (O : Ord os n v) {r : List Int} (h : r ∈ unb os n v) : r ≠ ownP n v := fun e => O.own_unb (e ▸ h)
/-- a face of own places -/
theorem Ord.edge (O : Ord os n v) {F : List Int} {k : Nat} (hk : k < n) (ha : Asc F) (hO : ∀ p, p ∈ F ↔ ∃ i, i < n ∧ i ≠ k ∧ p = (v : Int) + i) :
    dl (ownP n v) ((v : Int) + k) = F ∧ sortI (F ++ [zO os v k]) ∈ unb os n v ∧ dl (sortI (F ++ [zO os v k])) (zO os v k) = F ∧ zO os v k ∈ sortI (F ++ [zO os v k]) ∧
    (∀ r2 l2, InW os n v r2 → l2 ∈ r2 → dl r2 l2 = F → r2 = ownP n v ∨ r2 = sortI (F ++ [zO os v k])) ∧
    cf os n v (ownP n v) * (-1) ^ ltc (ownP n v) ((v : Int) + k) + cf os n v (sortI (F ++ [zO os v k])) * (-1) ^ ltc (sortI (F ++ [zO os v k])) (zO os v k) = 0 := by
  have A := O.ab
  have hz := A.lst k hk
  have ho : dl (ownP n v) ((v : Int) + k) = F := asc_ext (dl_asc own_rom.2) ha fun p => by
    rw [mem_dl, mem_own, hO]
    constructor
    · rintro ⟨⟨i, hi, rfl⟩, h2⟩
      exact ⟨i, hi, fun e => h2 (by rw [e]), rfl⟩
    · rintro ⟨i, hi, hik, rfl⟩
      exact ⟨⟨i, hi, rfl⟩, by omega⟩
  have hkm : ((v : Int) + k) ∈ ownP n v := mem_own.mpr ⟨k, hk, rfl⟩
  have hFl : F.length + 1 = n := by
    rw [← ho, dl_len own_rom.1.nd hkm, own_rom.1.len]
  have hzF : zO os v k ∉ F := fun h => by
    obtain ⟨i, _, _, e⟩ := (hO _).mp h
    omega
  have hFb : ∀ p ∈ F, 0 ≤ p ∧ p < (v : Int) + n := fun p hp => by
    obtain ⟨i, _, _, e⟩ := (hO _).mp hp
    omega
  obtain ⟨hR, hRa, hRm⟩ := add_rom (n := n) (v := v) hFl ha.nd hzF hFb hz.1 (by omega)
  obtain ⟨e1, e2, e3⟩ := A.edge hk hR hRm hO
  have hub := e3.mpr rfl
  have hunb : sortI (F ++ [zO os v k]) ∈ unb os n v := O.mem_unb.mpr ⟨hR, hRa, hub⟩
  refine ⟨ho, hunb, add_dl ha hRa hzF hRm, (hRm _).mpr (Or.inr rfl), fun r2 l2 hw hl hd => ?_, ?_⟩
  · rcases hw with h | h
    · exact Or.inl h
    · right
      obtain ⟨a, b, c⟩ := O.mem_unb.mp h
      have hm2 : ∀ p, p ∈ r2 ↔ p ∈ F ∨ p = l2 := fun p => by rw [← hd]; exact dl_iff hl p
      have := (A.edge hk a hm2 hO).2.2.mp c
      exact asc_ext b hRa fun p => by rw [hm2, hRm, this]
  · have h1 : cf os n v (ownP n v) = -1 := if_pos rfl
    have h2 : cf os n v (sortI (F ++ [zO os v k])) = osign (least os n v (sortI (F ++ [zO os v k]))) := if_neg (O.unb_ne hunb)
    have own_eq : ownP n v = (List.range n).map fun i => (v : Int) + (i : Nat) := by
      unfold ownP rgI
      rw [show ((v : Int) + n - v).toNat = n by omega]
    have hat : (ownP n v)[k]? = some ((v : Int) + k) := by rw [own_eq]; exact map_at hk
    have h3 := sign_face (List.Perm.refl (ownP n v)) own_rom.1.nd hat
    have hcut : (ownP n v).take k ++ (ownP n v).drop (k + 1) = F := by rw [face_dl own_rom.1.nd hat, ho]
    rw [osign_asc own_rom.2, hcut, osign_asc ha] at h3
    have hat2 : (least os n v (sortI (F ++ [zO os v k])))[k]? = some (zO os v k) := by
      rw [least_eq, map_at hk, e2 hz.2.1]
    have h4 := sign_face (O.least_perm hunb) hR.nd hat2
    have hcut2 : (least os n v (sortI (F ++ [zO os v k]))).take k ++ (least os n v (sortI (F ++ [zO os v k]))).drop (k + 1) = F := by
      have hc := map_cut (n := n) (i := k) (g := fun i => mO os n v i (sortI (F ++ [zO os v k]))) (h := fun i => (v : Int) + (i : Nat)) fun i hi hik => e1 i hi hik
      rw [← own_eq, hcut] at hc
      rw [least_eq]
      exact hc
    rw [hcut2, osign_asc ha] at h4
    rw [h1, h2, h4, Int.neg_mul, h3]
    omega
/-- the own places but one -/
theorem own_but {F : List Int} (nd : F.Nodup) (hl : F.length + 1 = n) (hb : ∀ p ∈ F, (v : Int) ≤ p ∧ p < (v : Int) + n) : ∃ k, k < n ∧ ∀ p, p ∈ F ↔ ∃ i, i < n ∧ i ≠ k ∧ p = (v : Int) + i := by
  have hex : ∃ k, k < n ∧ ((v : Int) + k) ∉ F := by
    apply Classical.byContradiction
    intro h
    have : ∀ x ∈ ownP n v, x ∈ F := fun x hx => by
      obtain ⟨i, hi, rfl⟩ := mem_own.mp hx
      apply Classical.byContradiction
      intro q
      exact h ⟨i, hi, q⟩
    have := nodup_le (own_rom (n := n) (v := v)).1.nd this
    rw [own_rom.1.len] at this
    omega
  obtain ⟨k, hk, hkF⟩ := hex
  have hkm : ((v : Int) + k) ∈ ownP n v := mem_own.mpr ⟨k, hk, rfl⟩
  have hp : F.Perm (dl (ownP n v) ((v : Int) + k)) := perm_of_sub nd (fun p hp => by
    have := hb p hp
    rw [mem_dl, mem_own]
    exact ⟨⟨(p - v).toNat, by omega, by omega⟩, fun e => hkF (e ▸ hp)⟩) (by
    have := dl_len own_rom.1.nd hkm
    rw [own_rom.1.len] at this
    omega)
  refine ⟨k, hk, fun p => ?_⟩
  rw [hp.mem_iff, mem_dl, mem_own]
  constructor
  · rintro ⟨⟨i, hi, rfl⟩, h2⟩
    exact ⟨i, hi, fun e => h2 (by rw [e]), rfl⟩
  · rintro ⟨i, hi, hik, rfl⟩
    exact ⟨⟨i, hi, rfl⟩, by omega⟩
/-- the other room, as the program finds it -/
theorem Ord.other (O : Ord os n v) {r : List Int} (hr : InW os n v r) {l : Int} (hl : l ∈ r) : ∃ res l', OU os n v r l res ∧ Oth os n v r l res l' := by
  have A := O.ab
  obtain ⟨hR, hRa⟩ := hr.rom O
  have hG := hR.good O
  have hs : r = sortI r := (asc_sort hRa).symm
  have hFl := dl_len hR.nd hl
  rw [hR.len] at hFl
  have hFa : Asc (dl r l) := dl_asc hRa
  have hFb : ∀ p ∈ dl r l, 0 ≤ p ∧ p < (v : Int) + n := fun p hp => hR.bd p (mem_dl.mp hp).1
  by_cases ho : r = ownP n v
  · -- the room of own places
    subst ho
    obtain ⟨k, hk, rfl⟩ := mem_own.mp hl
    have hO : ∀ p, p ∈ dl (ownP n v) ((v : Int) + k) ↔ ∃ i, i < n ∧ i ≠ k ∧ p = (v : Int) + i := fun p => by
      rw [mem_dl, mem_own]
      constructor
      · rintro ⟨⟨i, hi, rfl⟩, h2⟩
        exact ⟨i, hi, fun e => h2 (by rw [e]), rfl⟩
      · rintro ⟨i, hi, hik, rfl⟩
        exact ⟨⟨i, hi, rfl⟩, by omega⟩
    obtain ⟨e1, e2, e3, e4, e5, e6⟩ := O.edge hk hFa hO
    refine ⟨_, _, ⟨hG, hs, fun h => absurd rfl h, hl, fun _ => ⟨by omega, by omega, ?_⟩, fun h => absurd rfl h, fun h => absurd rfl h⟩, ⟨Or.inr e2, O.unb_ne e2, e4, e3, fun r2 l2 h1 h2 h3 => e5 r2 l2 h1 h2 h3, e6⟩⟩
    rw [show ((v : Int) + k - v).toNat = k by omega]
    rfl
  · have hru : r ∈ unb os n v := hr.resolve_left ho
    have hub := (O.mem_unb.mp hru).2.2
    have haia := O.ub_iff.mpr hub
    by_cases hth : (dl r l).filter (fun p => decide (p < (v : Int))) = []
    · -- a face without a thing
      have hFv : ∀ p ∈ dl r l, (v : Int) ≤ p ∧ p < (v : Int) + n := fun p hp => by
        have h1 := hFb p hp
        have h2 := List.filter_eq_nil_iff.mp hth p hp
        have h3 : ¬ p < (v : Int) := fun q => h2 (decide_eq_true q)
        omega
      obtain ⟨k, hk, hO⟩ := own_but hFa.nd hFl hFv
      obtain ⟨e1, e2, e3, e4, e5, e6⟩ := O.edge hk hFa hO
      have hm : ∀ p, p ∈ r ↔ p ∈ dl r l ∨ p = l := dl_iff hl
      have hlz := (A.edge hk hR hm hO).2.2.mp hub
      have hre : r = sortI (dl r l ++ [zO os v k]) := (e5 r l hr hl rfl).resolve_left ho
      refine ⟨ownP n v, (v : Int) + k, ⟨hG, hs, fun _ => haia, hl, fun h => absurd h ho, fun _ _ => rfl, fun _ h => absurd hth h⟩, ⟨Or.inl rfl, Ne.symm ho, mem_own.mpr ⟨k, hk, rfl⟩, e1, fun r2 l2 h1 h2 h3 => ?_, ?_⟩⟩
      · rcases e5 r2 l2 h1 h2 h3 with q | q
        · exact Or.inr q
        · exact Or.inl (q.trans hre.symm)
      · rw [← hre, ← hlz] at e6
        rw [Int.add_comm]
        exact e6
    · -- the pivot
      obtain ⟨t, ht⟩ := List.exists_mem_of_ne_nil _ hth
      obtain ⟨htF, htv⟩ := List.mem_filter.mp ht
      have htv := of_decide_eq_true htv
      have hFn : dl r l ≠ [] := fun e => by rw [e] at htF; cases htF
      have h2n : 2 ≤ n := by
        have := List.length_pos_iff.mpr hFn
        omega
      have hm : ∀ p, p ∈ r ↔ p ∈ dl r l ∨ p = l := dl_iff hl
      obtain ⟨i0, j, hi0, hj, hij, hm0, hmj, hjF, hoth, hpiv, huniq⟩ := A.pivot hR hub hm (not_dl r l) hFn
      have hp := O.least_perm hru
      have lnd := hp.nodup_iff.mpr hR.nd
      have hli : (least os n v r)[i0]? = some l := by rw [least_eq, map_at hi0, hm0]
      have hlj : (least os n v r)[j]? = some (mO os n v i0 (dl r l)) := by rw [least_eq, map_at hj, hmj]
      have ix0 : ixOf l (least os n v r) = i0 := ixOf_nd lnd hli
      have hfm : fst ((frows os n v).getD i0 []) (dl r l) = mO os n v i0 (dl r l) := rfl
      have ixj : ixOf (mO os n v i0 (dl r l)) (least os n v r) = j := ixOf_nd lnd hlj
      -- the entering place
      have hrow := frows_get os (v := v) hj
      have hrnd := O.row_nd hj
      have hen : ∀ p, p ∈ ((frows os n v).getD j []).filter (fun p => decide (p ∈ aia ((frows os n v).take j ++ (frows os n v).drop (j + 1)) (dl r l))) ↔ Cd n v (posO os n v) (mO os n v) (dl r l) j p := fun p => by
        rw [List.mem_filter, hrow, O.row_mem hj]
        constructor
        · exact fun h => (O.cd_iff h2n hj).mp (of_decide_eq_true h.2)
        · exact fun h => ⟨⟨h.1, h.2.1⟩, decide_eq_true ((O.cd_iff h2n hj).mpr h)⟩
      have hpos : 0 < (((frows os n v).getD j []).filter (fun p => decide (p ∈ aia ((frows os n v).take j ++ (frows os n v).drop (j + 1)) (dl r l)))).length :=
        List.length_pos_of_mem ((hen _).mpr (A.some hFb htF htv hj))
      have hlast := last_ix (l := (frows os n v).getD j []) (by rw [hrow]; exact hrnd) _ hpos
      obtain ⟨x, hx⟩ : ∃ x, x = (((frows os n v).getD j []).filter (fun p => decide (p ∈ aia ((frows os n v).take j ++ (frows os n v).drop (j + 1)) (dl r l)))).getD ((((frows os n v).getD j []).filter (fun p => decide (p ∈ aia ((frows os n v).take j ++ (frows os n v).drop (j + 1)) (dl r l)))).length - 1) 0 := ⟨_, rfl⟩
      rw [← hx] at hlast
      have hcx := (hen x).mp hlast.1
      have hmax : ∀ p, Cd n v (posO os n v) (mO os n v) (dl r l) j p → posO os n v j p ≤ posO os n v j x := fun p hp => hlast.2 p ((hen p).mpr hp)
      obtain ⟨hxr, hnew⟩ := hpiv x hcx hmax
      have hxF : x ∉ dl r l := fun h => hxr (mem_dl.mp h).1
      obtain ⟨hR', hRa', hRm'⟩ := add_rom (n := n) (v := v) hFl hFa.nd hxF hFb hcx.1 hcx.2.1
      obtain ⟨hu', hmj', hmi'⟩ := hnew _ hR' hRm'
      have hunb' : sortI (dl r l ++ [x]) ∈ unb os n v := O.mem_unb.mpr ⟨hR', hRa', hu'⟩
      have hne : sortI (dl r l ++ [x]) ≠ r := fun e => hxr (by rw [← e]; exact (hRm' x).mpr (Or.inr rfl))
      refine ⟨sortI (dl r l ++ [x]), x, ⟨hG, hs, fun _ => haia, hl, fun h => absurd h ho, fun _ h => absurd h hth, fun _ _ => ⟨List.mem_of_getElem? hli, ?_, h2n, ?_⟩⟩, ⟨Or.inr hunb', hne, (hRm' x).mpr (Or.inr rfl), add_dl hFa hRa' hxF hRm', fun r2 l2 h1 h2 h3 => ?_, ?_⟩⟩
      · rw [ix0]
        exact List.mem_of_getElem? hlj
      · intro free hfree en hen2
        rw [ix0] at hfree
        obtain rfl : free = j := hfree.trans ixj
        subst hen2
        exact ⟨hpos, by rw [hx]⟩
      · have h2u : r2 ∈ unb os n v := by
          rcases h1 with h | h
          · exfalso
            subst h
            have : t ∈ ownP n v := by
              rw [← h3] at htF
              exact (mem_dl.mp htF).1
            obtain ⟨i, _, e⟩ := mem_own.mp this
            omega
          · exact h
        obtain ⟨a, b, c⟩ := O.mem_unb.mp h2u
        have hm2 : ∀ p, p ∈ r2 ↔ p ∈ dl r l ∨ p = l2 := fun p => by rw [← h3]; exact dl_iff h2 p
        have hl2 : l2 ∉ dl r l := by rw [← h3]; exact not_dl r2 l2
        by_cases e : l2 = l
        · left
          exact asc_ext b hRa fun p => by rw [hm2, hm, e]
        · right
          obtain ⟨c1, c2⟩ := huniq r2 l2 a c hm2 hl2 e
          have hxl : x = l2 := A.inj j hj _ _ hcx.1 hcx.2.1 c1.1 c1.2.1 (by have := c2 x hcx; have := hmax l2 c1; omega)
          exact asc_ext b hRa' fun p => by rw [hm2, hRm', hxl]
      · have g1 : cf os n v r = osign (least os n v r) := if_neg ho
        have g2 : cf os n v (sortI (dl r l ++ [x])) = osign (least os n v (sortI (dl r l ++ [x]))) := if_neg (O.unb_ne hunb')
        have h3 := sign_face hp hR.nd hli
        have hat2 : (least os n v (sortI (dl r l ++ [x])))[j]? = some x := by rw [least_eq, map_at hj, hmj']
        have h4 := sign_face (O.least_perm hunb') hR'.nd hat2
        have c1 : (least os n v r).take i0 ++ (least os n v r).drop (i0 + 1) = ((List.range n).map fun i => mO os n v i (dl r l)).take i0 ++ ((List.range n).map fun i => mO os n v i (dl r l)).drop (i0 + 1) := by
          rw [least_eq]
          exact map_cut fun i hi hk => (hoth i hi hk).symm
        have c2 : (least os n v (sortI (dl r l ++ [x]))).take j ++ (least os n v (sortI (dl r l ++ [x]))).drop (j + 1) = ((List.range n).map fun i => mO os n v i (dl r l)).take j ++ ((List.range n).map fun i => mO os n v i (dl r l)).drop (j + 1) := by
          rw [least_eq]
          exact map_cut fun i hi hk => hmi' i hi hk
        rw [g1, g2, h3, h4, c1, c2]
        have a1 : ((List.range n).map fun i => mO os n v i (dl r l))[i0]? = some (mO os n v i0 (dl r l)) := map_at hi0
        have a2 : ((List.range n).map fun i => mO os n v i (dl r l))[j]? = some (mO os n v i0 (dl r l)) := by rw [map_at hj, hjF]
        have a3 : ∀ t, t ≠ i0 → t ≠ j → ((List.range n).map fun i => mO os n v i (dl r l))[t]? ≠ some (mO os n v i0 (dl r l)) := by
          intro t ht1 ht2 e
          have htn := (List.getElem?_eq_some_iff.mp e).1
          rw [List.length_map, List.length_range] at htn
          rw [map_at htn] at e
          have e := Option.some.inj e
          rw [hoth t htn ht1, ← hmj] at e
          exact ht2 (A.ij hR hub htn hj e)
        rcases Nat.lt_or_gt_of_ne hij with q | q
        · exact sign_two q a1 a2 fun t h1 h2 => a3 t (by omega) (by omega)
        · rw [Int.add_comm]
          exact sign_two q a2 a1 fun t h1 h2 => a3 t (by omega) (by omega)
end
end DL

set_option Elab.async false
set_option linter.all false
set_option maxRecDepth 100000
set_option maxHeartbeats 4000000
namespace DL
open PySem L2
local macro_rules | `(tactic| walk_at "evd") => `(tactic| first
  | with_reducible exact evd_int
  | with_reducible exact evd_str
  | with_reducible exact evd_bl
  | with_reducible exact evd_non
  | ((with_reducible apply evd_var); rfl)
  | walk_at "evn"
  | ((with_reducible apply EvN.ev); walk_at "evn")
  | ((with_reducible apply evd_op) <;> (try walk_at "evd"))
  | ((with_reducible apply evd_un) <;> (try walk_at "evd"))
  | ((with_reducible apply evb_test) <;> (try walk_at "evd"))
  | ((with_reducible apply evb_B) <;> (try walk_at "evd"))
  | with_reducible exact evb_yes
  | ((with_reducible apply evb_not) <;> (try walk_at "evd"))
  | ((with_reducible apply evb_and) <;> (try walk_at "evd"))
  | ((with_reducible apply evb_or) <;> (try walk_at "evd"))
  | ((with_reducible apply evd_andV) <;> (try walk_at "evd"))
  | ((with_reducible apply evd_orV) <;> (try walk_at "evd"))
  | ((with_reducible apply evd_notV) <;> (try walk_at "evd"))
  | ((with_reducible apply evd_chain) <;> (try walk_at "evd"))
  | walk_at "evd2")
local macro_rules | `(tactic| walk_at "evn") => `(tactic| first
  | ((with_reducible apply evn_cat) <;> (try walk_at "evd"))
  | ((with_reducible apply evn_lst) <;> (try walk_at "evd"))
  | ((with_reducible apply evn_slL) <;> (try walk_at "evd"))
  | ((with_reducible apply evn_lc) <;> (try walk_at "evd"))
  | ((with_reducible apply evn_listRg) <;> (try walk_at "evd"))
  | ((with_reducible apply evn_revL) <;> (try walk_at "evd"))
  | focus ((with_reducible apply evn_keysE); (rfl); (all_goals (try walk_at "evd")))
  | focus ((with_reducible apply evn_cb (r := rSrtI _)); (focus walk_at "evd"); (all_goals (try walk_at "rc")))
  | focus ((with_reducible apply evn_cb (r := rSrtR _)); (focus walk_at "evd"); (all_goals (try walk_at "rc")))
  | focus ((with_reducible apply evn_cb (r := rSrtP _)); (focus walk_at "evd"); (all_goals (try walk_at "rc")))
  | focus ((with_reducible apply evn_cb (r := rSrtD _)); (focus walk_at "evd"); (all_goals (try walk_at "rc")))
  | focus ((with_reducible apply evn_cb (r := rListOf _)); (focus walk_at "evd"); (all_goals (try walk_at "rc"))))
local macro_rules | `(tactic| walk_at "evd2") => `(tactic| first
  | ((with_reducible apply evd_tupL) <;> (try walk_at "evd"))
  | ((with_reducible apply evd_tupF) <;> (try walk_at "evd"))
  | ((with_reducible apply evd_tup) <;> (try walk_at "evd"))
  | with_reducible exact eva_nil
  | ((with_reducible apply eva_cons) <;> (try walk_at "evd"))
  | with_reducible exact evp_none
  | ((with_reducible apply evp_some) <;> (try walk_at "evd"))
  | focus ((with_reducible apply evd_slT); (focus walk_at "evd"); (all_goals (try walk_at "evd")))
  | focus ((with_reducible apply evd_slU); (focus walk_at "evd"); (all_goals (try walk_at "evd")))
  | exact gd_name
  | exact gd_two
  | ((with_reducible apply iv_list) <;> (try walk_at "evd"))
  | focus ((with_reducible apply iv_tup); walk_at "evd")
  | focus ((with_reducible apply iv_ftu); walk_at "evd")
  | ((with_reducible apply iv_enumQ) <;> (try walk_at "evd"))
  | ((with_reducible apply iv_rng1) <;> (try walk_at "evd"))
  | ((with_reducible apply iv_rng2) <;> (try walk_at "evd"))
  | ((with_reducible apply iv_enum) <;> (try walk_at "evd"))
  | ((with_reducible apply evd_tupRg) <;> (try walk_at "evd"))
  | ((with_reducible apply evr_1) <;> (try walk_at "evd"))
  | ((with_reducible apply evr_2) <;> (try walk_at "evd"))
  | focus ((with_reducible apply evd_call); (focus walk_at "evd"); (all_goals (try walk_at "rel")))
  | ((with_reducible apply evd_lenSet) <;> (try walk_at "evd"))
  | walk_at "evd3"
  | ((with_reducible apply evd_tix) <;> (try walk_at "evd"))
  | focus ((with_reducible apply evd_bmL); (focus walk_at "evd"); (all_goals (try walk_at "evd")))
  | focus ((with_reducible apply evd_cb); (focus walk_at "evd"); (all_goals (try walk_at "rc")))
  | walk_at "rc"
  | (intro _; walk_at "evd"))
local macro_rules | `(tactic| walk_at "evd3") => `(tactic| first
  | focus ((with_reducible apply evd_fld); (focus walk_at "evd"); (all_goals (try first | rfl | assumption | walk_at "fact")))
  | focus ((with_reducible apply evd_make); (focus walk_at "evd"); (all_goals (try walk_at "rel")))
  | focus ((with_reducible apply evd_meth); (focus walk_at "evd"); (focus walk_at "evd"); (all_goals (try first | rfl | walk_at "rel")))
  | focus ((with_reducible apply evd_prop); (focus walk_at "evd"); (all_goals (try walk_at "rel")))
  | focus ((with_reducible apply evd_spc); (focus walk_at "evd"); (all_goals (try walk_at "rel")))
  | focus ((with_reducible apply evd_isiO); (focus walk_at "evd"); (all_goals (try walk_at "fact")))
  | focus ((with_reducible apply evd_isi); (focus walk_at "evd"); (all_goals (try first | rfl | decide +kernel)))
  | ((with_reducible apply evd_cval) <;> (try walk_at "fact"))
  | focus ((with_reducible apply evd_inME); (rfl); (all_goals (try walk_at "evd")))
  | focus ((with_reducible apply evd_get2I); (rfl); (all_goals (try walk_at "evd")))
  | focus ((with_reducible apply evd_get2R); (rfl); (all_goals (try walk_at "evd")))
  | focus ((with_reducible apply evd_getME); (rfl); (all_goals (try walk_at "evd")))
  | focus ((with_reducible apply evd_getLI); (focus walk_at "evd"); (all_goals (try walk_at "evd")))
  | focus ((with_reducible apply evd_getDI); (focus walk_at "evd"); (all_goals (try walk_at "evd")))
  | focus ((with_reducible apply evd_getDR); (focus walk_at "evd"); (all_goals (try walk_at "evd")))
  | focus ((with_reducible apply evd_getLE); (focus walk_at "evd"); (all_goals (try walk_at "evd")))
  | focus ((with_reducible apply evd_getDE); (focus walk_at "evd"); (all_goals (try walk_at "evd")))
  | ((with_reducible apply evm_new)))
local macro_rules | `(tactic| walk_at "rc") => `(tactic| first
  | with_reducible apply rv_add
  | with_reducible apply rv_sub
  | with_reducible apply rv_cmp
  | with_reducible apply ru_neg
  | with_reducible apply rv_eqI
  | with_reducible apply rv_neI
  | with_reducible apply rv_eqS
  | with_reducible apply rv_neS
  | with_reducible apply rv_inT
  | with_reducible apply rv_inL
  | with_reducible apply rv_notInT
  | with_reducible apply rv_notInL
  | with_reducible apply rc_lenL
  | with_reducible apply rc_lenT
  | with_reducible apply rc_lenF
  | with_reducible apply rc_lenA
  | with_reducible apply rc_lenU
  | with_reducible apply rn_srtIL
  | with_reducible apply rn_srtIT
  | with_reducible apply rn_srtIA
  | with_reducible apply rn_srtP
  | with_reducible apply rn_srtR
  | with_reducible apply rn_srtDE
  | with_reducible apply rn_listL
  | with_reducible apply rn_listT
  | with_reducible apply rn_listA
  | with_reducible apply rc_abs
  | with_reducible apply rc_sum
  | with_reducible apply rc_int
  | walk_at "rc2")
local macro_rules | `(tactic| walk_at "rc2") => `(tactic| first
  | with_reducible apply rv_ixT0I
  | with_reducible apply rv_ixTZI
  | with_reducible apply rv_ixU0I
  | with_reducible apply rv_ixUZI
  | with_reducible apply rv_ixL0I
  | with_reducible apply rv_ixLZI
  | with_reducible apply rv_ixF0I
  | with_reducible apply rv_ixFZI
  | with_reducible apply rv_ixL0R
  | with_reducible apply rv_ixTR
  | with_reducible apply rv_ixL0L
  | with_reducible apply rv_ixTL
  | with_reducible apply rv_ixL0U
  | with_reducible apply rv_ixTU
  | with_reducible apply rv_ixQ
  | with_reducible apply rv_ixQ0
  | with_reducible apply rv_ixQZ
  | with_reducible apply rv_ix20
  | with_reducible apply rv_ix21
  | with_reducible apply rv_ixTI
  | with_reducible apply rv_ixUI
  | with_reducible apply rv_ixLI
  | with_reducible apply rv_ixFI
  | with_reducible apply rv_ixLR
  | with_reducible apply rv_ixLL
  | with_reducible apply rv_ixLU
  | with_reducible apply rv_mul
  | with_reducible apply rv_fdiv
  | with_reducible apply rv_mod
  | with_reducible apply rv_pow
  | with_reducible apply rv_ixL
  | with_reducible apply rv_ixF
  | with_reducible apply rv_ixT
  | with_reducible apply rv_ixU
  | with_reducible apply rv_ixA
  | with_reducible apply rv_catT
  | with_reducible apply rv_eqTI
  | with_reducible apply rv_neTI
  | with_reducible apply rv_eqLI
  | with_reducible apply rv_neLI
  | with_reducible apply rv_eqTR
  | with_reducible apply rv_inLR
  | with_reducible apply rv_notInLR
  | with_reducible apply rm_lix
  | with_reducible apply rn_srtIL'
  | with_reducible apply rn_srtR'
  | with_reducible apply rn_srtP'
  | with_reducible apply rv_inT'
  | with_reducible apply rv_inL'
  | with_reducible apply rv_notInT'
  | with_reducible apply rv_notInL'
  | with_reducible apply rc_sum'
  | with_reducible apply rc_min'
  | with_reducible apply rm_lix')
local macro_rules | `(tactic| walk_at "bnd") => `(tactic| first
  | omega
  | exact map_snoc
  | exact map_cat
  | ((have hszl := szl); (simp only [List.length_map, List.length_range, List.length_append, List.length_cons, List.length_nil, List.length_take, List.length_drop, Int.toNat_natCast, Nat.add_zero, Nat.zero_add, Int.natCast_add, Int.natCast_one] at *); omega)
  | ((simp only [List.length_map]); (refine Nat.le_trans (Nat.add_le_add_right (List.length_filter_le _ _) _) ?_); walk_at "bnd"))

section
variable {P : Program} {w : World} {K : Fr} {mg : Str → Option Value} {base : Heap}
/-! ### the script's table of faces -/
def tabS (l : List (List Int × List (List Int))) (z : List Int × List Int) : List (List Int × List (List Int)) := putA l z.1 ((getA l z.1).getD [] ++ [z.2])
def tabZ (r : List Int) : List (List Int × List Int) := (fcs r).map fun f => (f, r)
def ltab (rs : List (List Int)) : List (List Int × List (List Int)) := (rs.flatMap tabZ).foldl tabS []
def R_ltable (ds : List D) (d : D) : Prop := ∃ rs : List (List Int), rs.length ≤ 1000 ∧ (∀ r ∈ rs, r.length ≤ 100) ∧ ds = [dRs rs] ∧ d = .dct (emb dRs (ltab rs))
theorem sc__law_table : FnScope ["_law_rooms_here", "_law_table_here", "_law_room", "_law_k", "_law_face"] ["_law_rooms_here"] (defScope s__law_table) := ⟨rfl, rfl, rfl, by decide +kernel, rfl, by decide +kernel, by decide +kernel⟩
theorem ok_ltable (T : At K mg "_law_table" s__law_table ["_law_rooms_here"]) (B : Bi mg) : Has P w K mg base CX0 "_law_table" 1 ["_law_rooms_here"] (spD K R_ltable) := by
  refine ok_H T sc__law_table (fun ds d h => by obtain ⟨_, _, _, rfl, _⟩ := h; rfl) (fun f cdv A outer s H E hr => ⟨_, (pss_cons (ps_set (i := 1) sc__law_table.nd rfl (by first | exact Or.inl rfl | exact Or.inr rfl) (pe_dnewT))
        (pss_cons (ps_for PassesOwn.never rfl (pi_lK K (pv 0)) (pg_name (i := 2) sc__law_table.nd rfl (by first | exact Or.inl rfl | exact Or.inr rfl)) (pss_one (ps_for PassesOwn.never rfl (pi_range1 rfl B.range (pa_cons (pe_callB (cl_len K) rfl B.len PySem.boot_len (pa_cons (pv 2) pa_nil)) pa_nil)) (pg_name (i := 3) sc__law_table.nd rfl (by first | exact Or.inl rfl | exact Or.inr rfl)) (pss_cons (ps_set (i := 4) sc__law_table.nd rfl (by first | exact Or.inl rfl | exact Or.inr rfl) (pe_op (op_catK K) (pe_slice (sl_tK K) (pv 2) po_none (po_some (pv 3))) (pe_slice (sl_tK K) (pv 2) (po_some (pe_op op_add (pv 3) (pe_int))) po_none)))
        (pss_one (ps_dput (hu_of hr) (pv 1) (pv 4) (pe_op op_cat (pe_dget2 (hu_of hr) (pv 1) (pv 4) (pe_lst pa_nil) ⟨rfl, rfl, rfl, rfl⟩) (pe_lst (pa_cons (pv 2) pa_nil))) rfl))))))
        (pss_one (ps_ret (pv 1))))), ?_⟩)
  rintro ds d ⟨rs, hl, hb, rfl, rfl⟩
  apply sd_seq
  apply sd_setM
  · walk_at "evd"
  apply sd_seq
  apply sd_for (e := dR) (items := rs) (Inv := fun i ρ => ∃ l x y z, ρ = [.im (dRs rs), .md (emb dRs l), x, y, z] ∧ l = ((rs.take i).flatMap tabZ).foldl tabS [] ∧ l.length ≤ i * 100 ∧ ∀ f, ((getA l f).getD []).length ≤ i * 100)
  · walk_at "evd"
  · exact ⟨[], _, _, _, rfl, rfl, by simp, fun f => by simp [getA]⟩
  · rintro i r ρ1 ha ⟨l, x, y, z, rfl, hl1, hl2, hl5⟩
    have hr := hb r (List.mem_of_getElem? ha)
    have hi := (List.getElem?_eq_some_iff.mp ha).1
    have hj' : (fcs r).length = r.length := by unfold fcs; rw [List.length_map, List.length_range]
    refine ⟨_, _, gd_name, ?_⟩
    apply sd_for (e := fun k : Nat => D.int (k : Nat)) (items := List.range r.length) (Inv := fun j ρ => ∃ l' y z, ρ = [.im (dRs rs), .md (emb dRs l'), .im (dR r), y, z] ∧ l' = ((tabZ r).take j).foldl tabS l ∧ l'.length ≤ i * 100 + j ∧ ∀ f, ((getA l' f).getD []).length ≤ i * 100 + j)
    · apply iv_rngN
      · walk_at "evd"
      · rw [List.length_map]
      · omega
    · exact ⟨l, _, _, rfl, rfl, by omega, fun f => by have := hl5 f; omega⟩
    · rintro j b ρ2 hf ⟨l', y', z', rfl, hl3, hl4, hl6⟩
      obtain rfl := rng_at hf
      have hj := rng_lt hf
      refine ⟨_, _, gd_name, ?_⟩
      apply sd_seq
      apply sd_setE (d := dR (r.take j ++ r.drop (j + 1)))
      · walk_at "evd"
        have := szl
        rw [cut_hi, cut_lo1, List.length_take, List.length_drop, List.length_map]
        omega
      · rw [cut_hi, cut_lo1, ← List.map_take, ← List.map_drop, ← List.map_append]
      apply sd_dputE (d := .lst (((getA l' (r.take j ++ r.drop (j + 1))).getD []).map dR ++ [dR r])) (r := r.take j ++ r.drop (j + 1)) (b := (getA l' (r.take j ++ r.drop (j + 1))).getD [] ++ [r])
      · rfl
      · walk_at "evd"
        · exact Nat.zero_le _
        · exact Nat.le_trans (show _ ≤ 1 from Nat.le_refl _) (by decide)
        · have := hl6 (r.take j ++ r.drop (j + 1))
          have := szl
          rw [List.length_map]
          show _ + 1 ≤ _
          omega
      · show D.lst _ = D.lst _
        rw [List.map_append]
        rfl
      · walk_at "evd"
      · have : i * 100 + 100 ≤ 1000 * 100 := by omega
        omega
      · have ez : (tabZ r)[j]? = some (r.take j ++ r.drop (j + 1), r) := by
          unfold tabZ fcs
          rw [List.map_map, List.getElem?_map, List.getElem?_range hj]
          rfl
        refine ⟨_, _, _, rfl, ?_, ?_, fun f => ?_⟩
        · rw [take_fold ez, ← hl3]
          rfl
        · have := len_putA l' (r.take j ++ r.drop (j + 1)) ((getA l' (r.take j ++ r.drop (j + 1))).getD [] ++ [r])
          omega
        · rw [getA_putA]
          split
          · have := hl6 (r.take j ++ r.drop (j + 1))
            show (_ ++ [r]).length ≤ _
            rw [List.length_append]
            show _ + 1 ≤ _
            omega
          · have := hl6 f
            omega
    · rintro ρ2 ⟨l', y', z', rfl, hl3, hl4, hl6⟩
      rw [List.length_range] at *
      refine ⟨l', .im (dR r), y', z', rfl, ?_, by omega, fun f => by have := hl6 f; omega⟩
      rw [List.take_of_length_le (by unfold tabZ; rw [List.length_map]; omega)] at hl3
      rw [hl3, hl1, List.take_succ, ha, Option.toList_some, List.flatMap_append, List.foldl_append]
      simp
  · rintro ρ1 ⟨l, x, y, z, rfl, hl1, hl2, hl5⟩
    apply sd_frz (i := 1) rfl rfl
    apply sd_retE (p := Or.inl rfl)
    · walk_at "evd"
    · rw [hl1, List.take_length]
      rfl
end
end DL

set_option Elab.async false
set_option linter.all false
namespace DL
open PySem L2
/-! ### is None, at data that is not None; places of a tuple or list -/
theorem rv_isF {K : Fr} {d : D} (h : d.ty ≠ some "NoneType") : RvD K (fun x y H Q => y = .non ∧ Q (.bl (decide (x = .non))) H) d .non (.bl false) := .mk fun {S H v1 v2} e r1 r2 Q q => by
  cases r2
  refine ⟨rfl, ?_⟩
  have hv : v1 ≠ .non := by
    intro e
    subst e
    cases r1
    exact h rfl
  rw [decide_eq_false hv]
  exact q _ _ _ (Gr.refl e) (.bl _)
inductive Sm : Nat → D → D → Prop
  | int (q : Nat) (i : Int) : Sm q (.int i) (.int i)
  | str (q : Nat) (i : Str) : Sm q (.str i) (.str i)
  | bl (q : Nat) (i : Bool) : Sm q (.bl i) (.bl i)
  | tup {q : Nat} {as bs : List D} (h : as.length = bs.length) (hl : bs.length ≤ 1000000) (hs : ∀ (k : Nat) (a b : D), as[k]? = some a → bs[k]? = some b → Sm q a b) : Sm (q + 1) (.tup as) (.tup bs)
  | ftu {q : Nat} {as bs : List D} (h : as.length = bs.length) (hl : bs.length ≤ 1000000) (hs : ∀ (k : Nat) (a b : D), as[k]? = some a → bs[k]? = some b → Sm q a b) : Sm (q + 1) (.ftu as) (.tup bs)
  | lst {q : Nat} {as bs : List D} (h : as.length = bs.length) (hl : bs.length ≤ 1000000) (hs : ∀ (k : Nat) (a b : D), as[k]? = some a → bs[k]? = some b → Sm q a b) : Sm (q + 1) (.lst as) (.lst bs)
theorem rv_ixXL {K : Fr} {ds : List D} {d : D} {i : Int} (h : atI ds i = some d) : RvD K (rIx K) (.lst ds) (.int i) d := .mk fun e r1 r2 Q q => Or.inl (rv_ixL h e r1 r2 Q q)
theorem rv_ixXT {K : Fr} {ds : List D} {d : D} {i : Int} (h : atI ds i = some d) : RvD K (rIx K) (.tup ds) (.int i) d := .mk fun e r1 r2 Q q => Or.inr (Or.inl (rv_ixT h e r1 r2 Q q))
theorem rv_ixXU {K : Fr} {ds : List D} {d : D} {i : Int} (h : atI ds i = some d) : RvD K (rIx K) (.ftu ds) (.int i) d := .mk fun e r1 r2 Q q => Or.inr (Or.inl (rv_ixU h e r1 r2 Q q))
theorem at_nat {ds : List D} {d : D} {k : Nat} (h : ds[k]? = some d) : atI ds (k : Nat) = some d := by
  have hk := (List.getElem?_eq_some_iff.mp h).1
  unfold atI ixN
  rw [if_pos (by omega), if_pos (by omega), Int.toNat_natCast]
  exact h
end DL

set_option Elab.async false
set_option linter.all false
set_option maxRecDepth 100000
set_option maxHeartbeats 4000000
namespace DL
open PySem L2
local macro_rules | `(tactic| walk_at "evd") => `(tactic| first
  | with_reducible exact evd_int
  | with_reducible exact evd_str
  | with_reducible exact evd_bl
  | with_reducible exact evd_non
  | ((with_reducible apply evd_var); rfl)
  | walk_at "evn"
  | ((with_reducible apply EvN.ev); walk_at "evn")
  | ((with_reducible apply evd_op) <;> (try walk_at "evd"))
  | ((with_reducible apply evd_un) <;> (try walk_at "evd"))
  | ((with_reducible apply evb_test) <;> (try walk_at "evd"))
  | ((with_reducible apply evb_B) <;> (try walk_at "evd"))
  | with_reducible exact evb_yes
  | ((with_reducible apply evb_not) <;> (try walk_at "evd"))
  | ((with_reducible apply evb_and) <;> (try walk_at "evd"))
  | ((with_reducible apply evb_or) <;> (try walk_at "evd"))
  | ((with_reducible apply evd_andV) <;> (try walk_at "evd"))
  | ((with_reducible apply evd_orV) <;> (try walk_at "evd"))
  | ((with_reducible apply evd_notV) <;> (try walk_at "evd"))
  | ((with_reducible apply evd_chain) <;> (try walk_at "evd"))
  | walk_at "evd2")
local macro_rules | `(tactic| walk_at "evn") => `(tactic| first
  | ((with_reducible apply evn_cat) <;> (try walk_at "evd"))
  | ((with_reducible apply evn_lst) <;> (try walk_at "evd"))
  | ((with_reducible apply evn_slL) <;> (try walk_at "evd"))
  | ((with_reducible apply evn_lc) <;> (try walk_at "evd"))
  | ((with_reducible apply evn_listRg) <;> (try walk_at "evd"))
  | ((with_reducible apply evn_revL) <;> (try walk_at "evd"))
  | focus ((with_reducible apply evn_keysE); (rfl); (all_goals (try walk_at "evd")))
  | focus ((with_reducible apply evn_cb (r := rSrtI _)); (focus walk_at "evd"); (all_goals (try walk_at "rc")))
  | focus ((with_reducible apply evn_cb (r := rSrtR _)); (focus walk_at "evd"); (all_goals (try walk_at "rc")))
  | focus ((with_reducible apply evn_cb (r := rSrtP _)); (focus walk_at "evd"); (all_goals (try walk_at "rc")))
  | focus ((with_reducible apply evn_cb (r := rSrtD _)); (focus walk_at "evd"); (all_goals (try walk_at "rc")))
  | focus ((with_reducible apply evn_cb (r := rListOf _)); (focus walk_at "evd"); (all_goals (try walk_at "rc"))))
local macro_rules | `(tactic| walk_at "evd2") => `(tactic| first
  | ((with_reducible apply evd_tupL) <;> (try walk_at "evd"))
  | ((with_reducible apply evd_tupF) <;> (try walk_at "evd"))
  | ((with_reducible apply evd_tup) <;> (try walk_at "evd"))
  | with_reducible exact eva_nil
  | ((with_reducible apply eva_cons) <;> (try walk_at "evd"))
  | with_reducible exact evp_none
  | ((with_reducible apply evp_some) <;> (try walk_at "evd"))
  | focus ((with_reducible apply evd_slT); (focus walk_at "evd"); (all_goals (try walk_at "evd")))
  | focus ((with_reducible apply evd_slU); (focus walk_at "evd"); (all_goals (try walk_at "evd")))
  | exact gd_name
  | exact gd_two
  | ((with_reducible apply iv_list) <;> (try walk_at "evd"))
  | focus ((with_reducible apply iv_tup); walk_at "evd")
  | focus ((with_reducible apply iv_ftu); walk_at "evd")
  | ((with_reducible apply iv_enumQ) <;> (try walk_at "evd"))
  | ((with_reducible apply iv_rng1) <;> (try walk_at "evd"))
  | ((with_reducible apply iv_rng2) <;> (try walk_at "evd"))
  | ((with_reducible apply iv_enum) <;> (try walk_at "evd"))
  | ((with_reducible apply evd_tupRg) <;> (try walk_at "evd"))
  | ((with_reducible apply evr_1) <;> (try walk_at "evd"))
  | ((with_reducible apply evr_2) <;> (try walk_at "evd"))
  | focus ((with_reducible apply evd_call); (focus walk_at "evd"); (all_goals (try walk_at "rel")))
  | ((with_reducible apply evd_lenSet) <;> (try walk_at "evd"))
  | walk_at "evd3"
  | ((with_reducible apply evd_tix) <;> (try walk_at "evd"))
  | focus ((with_reducible apply evd_bmL); (focus walk_at "evd"); (all_goals (try walk_at "evd")))
  | focus ((with_reducible apply evd_cb); (focus walk_at "evd"); (all_goals (try walk_at "rc")))
  | walk_at "rc"
  | (intro _; walk_at "evd"))
local macro_rules | `(tactic| walk_at "evd3") => `(tactic| first
  | focus ((with_reducible apply evd_fld); (focus walk_at "evd"); (all_goals (try first | rfl | assumption | walk_at "fact")))
  | focus ((with_reducible apply evd_make); (focus walk_at "evd"); (all_goals (try walk_at "rel")))
  | focus ((with_reducible apply evd_meth); (focus walk_at "evd"); (focus walk_at "evd"); (all_goals (try first | rfl | walk_at "rel")))
  | focus ((with_reducible apply evd_prop); (focus walk_at "evd"); (all_goals (try walk_at "rel")))
  | focus ((with_reducible apply evd_spc); (focus walk_at "evd"); (all_goals (try walk_at "rel")))
  | focus ((with_reducible apply evd_isiO); (focus walk_at "evd"); (all_goals (try walk_at "fact")))
  | focus ((with_reducible apply evd_isi); (focus walk_at "evd"); (all_goals (try first | rfl | decide +kernel)))
  | ((with_reducible apply evd_cval) <;> (try walk_at "fact"))
  | focus ((with_reducible apply evd_inME); (rfl); (all_goals (try walk_at "evd")))
  | focus ((with_reducible apply evd_get2I); (rfl); (all_goals (try walk_at "evd")))
  | focus ((with_reducible apply evd_get2R); (rfl); (all_goals (try walk_at "evd")))
  | focus ((with_reducible apply evd_getME); (rfl); (all_goals (try walk_at "evd")))
  | focus ((with_reducible apply evd_getLI); (focus walk_at "evd"); (all_goals (try walk_at "evd")))
  | focus ((with_reducible apply evd_getDI); (focus walk_at "evd"); (all_goals (try walk_at "evd")))
  | focus ((with_reducible apply evd_getDR); (focus walk_at "evd"); (all_goals (try walk_at "evd")))
  | focus ((with_reducible apply evd_getLE); (focus walk_at "evd"); (all_goals (try walk_at "evd")))
  | focus ((with_reducible apply evd_getDE); (focus walk_at "evd"); (all_goals (try walk_at "evd")))
  | ((with_reducible apply evm_new)))
local macro_rules | `(tactic| walk_at "rc") => `(tactic| first
  | with_reducible apply rv_add
  | with_reducible apply rv_sub
  | with_reducible apply rv_cmp
  | with_reducible apply ru_neg
  | with_reducible apply rv_eqI
  | with_reducible apply rv_neI
  | with_reducible apply rv_eqS
  | with_reducible apply rv_neS
  | with_reducible apply rv_inT
  | with_reducible apply rv_inL
  | with_reducible apply rv_notInT
  | with_reducible apply rv_notInL
  | with_reducible apply rc_lenL
  | with_reducible apply rc_lenT
  | with_reducible apply rc_lenF
  | with_reducible apply rc_lenA
  | with_reducible apply rc_lenU
  | with_reducible apply rn_srtIL
  | with_reducible apply rn_srtIT
  | with_reducible apply rn_srtIA
  | with_reducible apply rn_srtP
  | with_reducible apply rn_srtR
  | with_reducible apply rn_srtDE
  | with_reducible apply rn_listL
  | with_reducible apply rn_listT
  | with_reducible apply rn_listA
  | with_reducible apply rc_abs
  | with_reducible apply rc_sum
  | with_reducible apply rc_int
  | walk_at "rc2")
local macro_rules | `(tactic| walk_at "rc2") => `(tactic| first
  | with_reducible apply rv_ixT0I
  | with_reducible apply rv_ixTZI
  | with_reducible apply rv_ixU0I
  | with_reducible apply rv_ixUZI
  | with_reducible apply rv_ixL0I
  | with_reducible apply rv_ixLZI
  | with_reducible apply rv_ixF0I
  | with_reducible apply rv_ixFZI
  | with_reducible apply rv_ixL0R
  | with_reducible apply rv_ixTR
  | with_reducible apply rv_ixL0L
  | with_reducible apply rv_ixTL
  | with_reducible apply rv_ixL0U
  | with_reducible apply rv_ixTU
  | with_reducible apply rv_ixQ
  | with_reducible apply rv_ixQ0
  | with_reducible apply rv_ixQZ
  | with_reducible apply rv_ix20
  | with_reducible apply rv_ix21
  | with_reducible apply rv_ixTI
  | with_reducible apply rv_ixUI
  | with_reducible apply rv_ixLI
  | with_reducible apply rv_ixFI
  | with_reducible apply rv_ixLR
  | with_reducible apply rv_ixLL
  | with_reducible apply rv_ixLU
  | with_reducible apply rv_mul
  | with_reducible apply rv_fdiv
  | with_reducible apply rv_mod
  | with_reducible apply rv_pow
  | with_reducible apply rv_ixL
  | with_reducible apply rv_ixF
  | with_reducible apply rv_ixT
  | with_reducible apply rv_ixU
  | with_reducible apply rv_ixA
  | with_reducible apply rv_catT
  | with_reducible apply rv_eqTI
  | with_reducible apply rv_neTI
  | with_reducible apply rv_eqLI
  | with_reducible apply rv_neLI
  | with_reducible apply rv_eqTR
  | with_reducible apply rv_inLR
  | with_reducible apply rv_notInLR
  | with_reducible apply rm_lix
  | with_reducible apply rn_srtIL'
  | with_reducible apply rn_srtR'
  | with_reducible apply rn_srtP'
  | with_reducible apply rv_inT'
  | with_reducible apply rv_inL'
  | with_reducible apply rv_notInT'
  | with_reducible apply rv_notInL'
  | with_reducible apply rc_sum'
  | with_reducible apply rc_min'
  | with_reducible apply rm_lix')
local macro_rules | `(tactic| walk_at "bnd") => `(tactic| first
  | omega
  | exact map_snoc
  | exact map_cat
  | ((have hszl := szl); (simp only [List.length_map, List.length_range, List.length_append, List.length_cons, List.length_nil, List.length_take, List.length_drop, Int.toNat_natCast, Nat.add_zero, Nat.zero_add, Int.natCast_add, Int.natCast_one] at *); omega)
  | ((simp only [List.length_map]); (refine Nat.le_trans (Nat.add_le_add_right (List.length_filter_le _ _) _) ?_); walk_at "bnd"))

section
variable {P : Program} {w : World} {K : Fr} {mg : Str → Option Value} {base : Heap}
/-! ### the script's equality -/
def R_lsame (q : Nat) (ds : List D) (d : D) : Prop := ∃ (t : Nat) (a b : D), t < q ∧ Sm t a b ∧ ds = [a, b] ∧ d = .bl true
theorem sc__law_same : FnScope ["_law_actual", "_law_due", "_law_k"] ["_law_actual", "_law_due"] (defScope s__law_same) := ⟨rfl, rfl, rfl, by decide +kernel, rfl, by decide +kernel, by decide +kernel⟩
theorem ok_lsame (T : At K mg "_law_same" s__law_same ["_law_actual", "_law_due"]) (B : Bi mg) : ∀ q : Nat, Has P w K mg base CX0 "_law_same" (q + 1) ["_law_actual", "_law_due"] (spD K (R_lsame q))
  | 0 => (has_never T sc__law_same).imp fun _ _ ⟨_, _, _, h, _⟩ => by omega
  | q + 1 => by
    have G__law_same := ok_lsame T B q
    refine ok_H T sc__law_same (fun ds d h => by obtain ⟨_, _, _, _, _, rfl, _⟩ := h; rfl) (fun f cdv A outer s H E hr => ⟨_, (pss_cons (ps_if (pt_cmpR op_isN (pv 1) (pe_non) (nomark _)) (pss_one (ps_ret (pe_cmpR op_isN (pv 0) (pe_non) (nomark _)))) (pss_nil))
        (pss_cons (ps_if (pt_val (pe_callB (cl_isi K) rfl B.isinstance (by decide +kernel) (pa_cons (pv 1) (pa_cons (pe_bltn (v := .ty "bool") rfl B.bool (by decide +kernel) rfl) pa_nil)))) (pss_one (ps_ret (pe_and (pe_callB (cl_isi K) rfl B.isinstance (by decide +kernel) (pa_cons (pv 0) (pa_cons (pe_bltn (v := .ty "bool") rfl B.bool (by decide +kernel) rfl) pa_nil))) (pe_one (pe_cmpR op_eq (pv 0) (pv 1) (nomark _)))))) (pss_nil))
        (pss_cons (ps_if (pt_val (pe_callB (cl_isi K) rfl B.isinstance (by decide +kernel) (pa_cons (pv 1) (pa_cons (pe_bltn (v := .ty "int") rfl B.int (by decide +kernel) rfl) pa_nil)))) (pss_one (ps_ret (pe_and (pe_callB (cl_isi K) rfl B.isinstance (by decide +kernel) (pa_cons (pv 0) (pa_cons (pe_bltn (v := .ty "int") rfl B.int (by decide +kernel) rfl) pa_nil))) (pe_and (pe_not (pe_callB (cl_isi K) rfl B.isinstance (by decide +kernel) (pa_cons (pv 0) (pa_cons (pe_bltn (v := .ty "bool") rfl B.bool (by decide +kernel) rfl) pa_nil)))) (pe_one (pe_cmpR op_eq (pv 0) (pv 1) (nomark _))))))) (pss_nil))
        (pss_cons (ps_if (pt_val (pe_callB (cl_isi K) rfl B.isinstance (by decide +kernel) (pa_cons (pv 1) (pa_cons (pe_bltn (v := .ty "str") rfl B.str (by decide +kernel) rfl) pa_nil)))) (pss_one (ps_ret (pe_and (pe_callB (cl_isi K) rfl B.isinstance (by decide +kernel) (pa_cons (pv 0) (pa_cons (pe_bltn (v := .ty "str") rfl B.str (by decide +kernel) rfl) pa_nil))) (pe_one (pe_cmpR op_eq (pv 0) (pv 1) (nomark _)))))) (pss_nil))
        (pss_cons (ps_if (pt_val (pe_callB (cl_isi K) rfl B.isinstance (by decide +kernel) (pa_cons (pv 1) (pa_cons (pe_bltn (v := .ty "tuple") rfl B.tuple (by decide +kernel) rfl) pa_nil)))) (pss_one (ps_if (PW.pt (pw_or (pt_not (pt_val (pe_callB (cl_isi K) rfl B.isinstance (by decide +kernel) (pa_cons (pv 0) (pa_cons (pe_bltn (v := .ty "tuple") rfl B.tuple (by decide +kernel) rfl) pa_nil))))) (pw_or1 (pt_cmpR op_ne (pe_callB (cl_len K) rfl B.len PySem.boot_len (pa_cons (pv 0) pa_nil)) (pe_callB (cl_len K) rfl B.len PySem.boot_len (pa_cons (pv 1) pa_nil)) (nomark _))))) (pss_one (ps_ret (pe_bl))) (pss_nil))) (pss_one (ps_if (PW.pt (pw_or (pt_not (pt_val (pe_callB (cl_isi K) rfl B.isinstance (by decide +kernel) (pa_cons (pv 0) (pa_cons (pe_bltn (v := .ty "list") rfl B.list (by decide +kernel) rfl) pa_nil))))) (pw_or1 (pt_cmpR op_ne (pe_callB (cl_len K) rfl B.len PySem.boot_len (pa_cons (pv 0) pa_nil)) (pe_callB (cl_len K) rfl B.len PySem.boot_len (pa_cons (pv 1) pa_nil)) (nomark _))))) (pss_one (ps_ret (pe_bl))) (pss_nil))))
        (pss_cons (ps_for PassesOwn.never rfl (pi_range1 rfl B.range (pa_cons (pe_callB (cl_len K) rfl B.len PySem.boot_len (pa_cons (pv 1) pa_nil)) pa_nil)) (pg_name (i := 2) sc__law_same.nd rfl (by first | exact Or.inl rfl | exact Or.inr rfl)) (pss_one (ps_if (pt_not (pt_val (pe_callH G__law_same hr (by omega) rfl (pa_cons (pe_ix (ix_qK K) (pv 0) (pv 2) (fun _ _ => rfl)) (pa_cons (pe_ix (ix_qK K) (pv 1) (pv 2) (fun _ _ => rfl)) pa_nil))))) (pss_one (ps_ret (pe_bl))) (pss_nil))))
        (pss_one (ps_ret (pe_bl))))))))), ?_⟩)
    rintro ds d ⟨t, a, b, ht, hs, rfl, rfl⟩
    apply sd_seq
    apply sd_if (b := false)
    · apply evb_test
      apply evd_op
      · walk_at "evd"
      · walk_at "evd"
      · apply rv_isF
        cases hs <;> (show some _ ≠ some _; decide)
    · intro c
      cases c
    intro _
    apply sd_next
    cases hs with
    | int _ i =>
      apply sd_seq
      apply sd_if (b := false)
      · walk_at "evd"
      · intro c
        cases c
      intro _
      apply sd_next
      apply sd_seq
      apply sd_if (b := true)
      · walk_at "evd"
      · intro _
        apply sd_retE (p := Or.inl rfl)
        · walk_at "evd"
        · simp
          decide +kernel
      · intro c
        cases c
    | str _ i =>
      apply sd_seq
      apply sd_if (b := false)
      · walk_at "evd"
      · intro c
        cases c
      intro _
      apply sd_next
      apply sd_seq
      apply sd_if (b := false)
      · walk_at "evd"
      · intro c
        cases c
      intro _
      apply sd_next
      apply sd_seq
      apply sd_if (b := true)
      · walk_at "evd"
      · intro _
        apply sd_retE (p := Or.inl rfl)
        · walk_at "evd"
        · simp
      · intro c
        cases c
    | bl _ i =>
      apply sd_seq
      apply sd_if (b := true)
      · walk_at "evd"
      · intro _
        apply sd_retE (p := Or.inl rfl)
        · walk_at "evd"
          exact rv_eq (K := K) (d1 := .bl i) (d2 := .bl i) rfl rfl rfl
        · simp
      · intro c
        cases c
    | tup h hl hs =>
      rename_i q0 as bs
      apply sd_seq
      apply sd_if (b := false)
      · walk_at "evd"
      · intro c
        cases c
      intro _
      apply sd_next
      apply sd_seq
      apply sd_if (b := false)
      · walk_at "evd"
      · intro c
        cases c
      intro _
      apply sd_next
      apply sd_seq
      apply sd_if (b := false)
      · walk_at "evd"
      · intro c
        cases c
      intro _
      apply sd_next
      apply sd_seq
      apply sd_if (b := true)
      · walk_at "evd"
      rotate_left
      · intro c
        cases c
      intro _
      apply sd_if (b := false)
      · apply EvB.is
        · walk_at "evd"
        · rw [h, decide_eq_true rfl]
          rfl
      · intro c
        cases c
      intro _
      apply sd_next
      apply sd_seq
      apply sd_for (e := fun k : Nat => D.int (k : Nat)) (items := List.range bs.length) (Inv := fun _ ρ => ∃ x, ρ = [.im (.tup as), .im (.tup bs), x])
      · exact iv_rngN (by walk_at "evd") rfl hl
      · exact ⟨_, rfl⟩
      · rintro k b ρ1 ha ⟨x, rfl⟩
        obtain rfl := rng_at ha
        have hk := rng_lt ha
        have ea : as[k]? = some as[k] := List.getElem?_eq_getElem (by omega)
        have eb : bs[k]? = some bs[k] := List.getElem?_eq_getElem hk
        refine ⟨_, _, gd_name, ?_⟩
        apply sd_if (b := false)
        · refine evb_not (b := true) ?_
          apply evb_B
          apply evd_call (d := .bl true)
          · apply eva_cons
            · exact evd_op (by walk_at "evd") (by walk_at "evd") (rv_ixXT (at_nat ea))
            · apply eva_cons
              · exact evd_op (by walk_at "evd") (by walk_at "evd") (rv_ixXT (at_nat eb))
              · exact eva_nil
          · exact ⟨_, _, _, Nat.lt_of_succ_lt_succ ht, hs k _ _ ea eb, rfl, rfl⟩
        · intro c
          cases c
        · intro _
          apply sd_next
          exact ⟨_, rfl⟩
      · rintro ρ1 ⟨x, rfl⟩
        apply sd_retE (p := Or.inl rfl)
        · walk_at "evd"
        · rfl
    | ftu h hl hs =>
      rename_i q0 as bs
      apply sd_seq
      apply sd_if (b := false)
      · walk_at "evd"
      · intro c
        cases c
      intro _
      apply sd_next
      apply sd_seq
      apply sd_if (b := false)
      · walk_at "evd"
      · intro c
        cases c
      intro _
      apply sd_next
      apply sd_seq
      apply sd_if (b := false)
      · walk_at "evd"
      · intro c
        cases c
      intro _
      apply sd_next
      apply sd_seq
      apply sd_if (b := true)
      · walk_at "evd"
      rotate_left
      · intro c
        cases c
      intro _
      apply sd_if (b := false)
      · apply EvB.is
        · walk_at "evd"
        · rw [h, decide_eq_true rfl]
          rfl
      · intro c
        cases c
      intro _
      apply sd_next
      apply sd_seq
      apply sd_for (e := fun k : Nat => D.int (k : Nat)) (items := List.range bs.length) (Inv := fun _ ρ => ∃ x, ρ = [.im (.ftu as), .im (.tup bs), x])
      · exact iv_rngN (by walk_at "evd") rfl hl
      · exact ⟨_, rfl⟩
      · rintro k b ρ1 ha ⟨x, rfl⟩
        obtain rfl := rng_at ha
        have hk := rng_lt ha
        have ea : as[k]? = some as[k] := List.getElem?_eq_getElem (by omega)
        have eb : bs[k]? = some bs[k] := List.getElem?_eq_getElem hk
        refine ⟨_, _, gd_name, ?_⟩
        apply sd_if (b := false)
        · refine evb_not (b := true) ?_
          apply evb_B
          apply evd_call (d := .bl true)
          · apply eva_cons
            · exact evd_op (by walk_at "evd") (by walk_at "evd") (rv_ixXU (at_nat ea))
            · apply eva_cons
              · exact evd_op (by walk_at "evd") (by walk_at "evd") (rv_ixXT (at_nat eb))
              · exact eva_nil
          · exact ⟨_, _, _, Nat.lt_of_succ_lt_succ ht, hs k _ _ ea eb, rfl, rfl⟩
        · intro c
          cases c
        · intro _
          apply sd_next
          exact ⟨_, rfl⟩
      · rintro ρ1 ⟨x, rfl⟩
        apply sd_retE (p := Or.inl rfl)
        · walk_at "evd"
        · rfl
    | lst h hl hs =>
      rename_i q0 as bs
      apply sd_seq
      apply sd_if (b := false)
      · walk_at "evd"
      · intro c
        cases c
      intro _
      apply sd_next
      apply sd_seq
      apply sd_if (b := false)
      · walk_at "evd"
      · intro c
        cases c
      intro _
      apply sd_next
      apply sd_seq
      apply sd_if (b := false)
      · walk_at "evd"
      · intro c
        cases c
      intro _
      apply sd_next
      apply sd_seq
      apply sd_if (b := false)
      · walk_at "evd"
      · intro c
        cases c
      intro _
      apply sd_if (b := false)
      · apply EvB.is
        · walk_at "evd"
        · rw [h, decide_eq_true rfl]
          rfl
      · intro c
        cases c
      intro _
      apply sd_next
      apply sd_seq
      apply sd_for (e := fun k : Nat => D.int (k : Nat)) (items := List.range bs.length) (Inv := fun _ ρ => ∃ x, ρ = [.im (.lst as), .im (.lst bs), x])
      · exact iv_rngN (by walk_at "evd") rfl hl
      · exact ⟨_, rfl⟩
      · rintro k b ρ1 ha ⟨x, rfl⟩
        obtain rfl := rng_at ha
        have hk := rng_lt ha
        have ea : as[k]? = some as[k] := List.getElem?_eq_getElem (by omega)
        have eb : bs[k]? = some bs[k] := List.getElem?_eq_getElem hk
        refine ⟨_, _, gd_name, ?_⟩
        apply sd_if (b := false)
        · refine evb_not (b := true) ?_
          apply evb_B
          apply evd_call (d := .bl true)
          · apply eva_cons
            · exact evd_op (by walk_at "evd") (by walk_at "evd") (rv_ixXL (at_nat ea))
            · apply eva_cons
              · exact evd_op (by walk_at "evd") (by walk_at "evd") (rv_ixXL (at_nat eb))
              · exact eva_nil
          · exact ⟨_, _, _, Nat.lt_of_succ_lt_succ ht, hs k _ _ ea eb, rfl, rfl⟩
        · intro c
          cases c
        · intro _
          apply sd_next
          exact ⟨_, rfl⟩
      · rintro ρ1 ⟨x, rfl⟩
        apply sd_retE (p := Or.inl rfl)
        · walk_at "evd"
        · rfl
end
end DL

set_option Elab.async false
set_option linter.all false
set_option maxRecDepth 100000
set_option maxHeartbeats 4000000
namespace DL
open PySem L2 PySem.W
local macro_rules | `(tactic| walk_at "evd") => `(tactic| first
  | with_reducible exact evd_int
  | with_reducible exact evd_str
  | with_reducible exact evd_bl
  | with_reducible exact evd_non
  | ((with_reducible apply evd_var); rfl)
  | walk_at "evn"
  | ((with_reducible apply EvN.ev); walk_at "evn")
  | ((with_reducible apply evd_op) <;> (try walk_at "evd"))
  | ((with_reducible apply evd_un) <;> (try walk_at "evd"))
  | ((with_reducible apply evb_test) <;> (try walk_at "evd"))
  | ((with_reducible apply evb_B) <;> (try walk_at "evd"))
  | with_reducible exact evb_yes
  | ((with_reducible apply evb_not) <;> (try walk_at "evd"))
  | ((with_reducible apply evb_and) <;> (try walk_at "evd"))
  | ((with_reducible apply evb_or) <;> (try walk_at "evd"))
  | ((with_reducible apply evd_andV) <;> (try walk_at "evd"))
  | ((with_reducible apply evd_orV) <;> (try walk_at "evd"))
  | ((with_reducible apply evd_notV) <;> (try walk_at "evd"))
  | ((with_reducible apply evd_chain) <;> (try walk_at "evd"))
  | walk_at "evd2")
local macro_rules | `(tactic| walk_at "evn") => `(tactic| first
  | ((with_reducible apply evn_cat) <;> (try walk_at "evd"))
  | ((with_reducible apply evn_lst) <;> (try walk_at "evd"))
  | ((with_reducible apply evn_slL) <;> (try walk_at "evd"))
  | ((with_reducible apply evn_lc) <;> (try walk_at "evd"))
  | ((with_reducible apply evn_listRg) <;> (try walk_at "evd"))
  | ((with_reducible apply evn_revL) <;> (try walk_at "evd"))
  | focus ((with_reducible apply evn_keysE); (rfl); (all_goals (try walk_at "evd")))
  | focus ((with_reducible apply evn_cb (r := rSrtI _)); (focus walk_at "evd"); (all_goals (try walk_at "rc")))
  | focus ((with_reducible apply evn_cb (r := rSrtR _)); (focus walk_at "evd"); (all_goals (try walk_at "rc")))
  | focus ((with_reducible apply evn_cb (r := rSrtP _)); (focus walk_at "evd"); (all_goals (try walk_at "rc")))
  | focus ((with_reducible apply evn_cb (r := rSrtD _)); (focus walk_at "evd"); (all_goals (try walk_at "rc")))
  | focus ((with_reducible apply evn_cb (r := rListOf _)); (focus walk_at "evd"); (all_goals (try walk_at "rc"))))
local macro_rules | `(tactic| walk_at "evd2") => `(tactic| first
  | ((with_reducible apply evd_tupL) <;> (try walk_at "evd"))
  | ((with_reducible apply evd_tupF) <;> (try walk_at "evd"))
  | ((with_reducible apply evd_tup) <;> (try walk_at "evd"))
  | with_reducible exact eva_nil
  | ((with_reducible apply eva_cons) <;> (try walk_at "evd"))
  | with_reducible exact evp_none
  | ((with_reducible apply evp_some) <;> (try walk_at "evd"))
  | focus ((with_reducible apply evd_slT); (focus walk_at "evd"); (all_goals (try walk_at "evd")))
  | focus ((with_reducible apply evd_slU); (focus walk_at "evd"); (all_goals (try walk_at "evd")))
  | exact gd_name
  | exact gd_two
  | ((with_reducible apply iv_list) <;> (try walk_at "evd"))
  | focus ((with_reducible apply iv_tup); walk_at "evd")
  | focus ((with_reducible apply iv_ftu); walk_at "evd")
  | ((with_reducible apply iv_enumQ) <;> (try walk_at "evd"))
  | ((with_reducible apply iv_rng1) <;> (try walk_at "evd"))
  | ((with_reducible apply iv_rng2) <;> (try walk_at "evd"))
  | ((with_reducible apply iv_enum) <;> (try walk_at "evd"))
  | ((with_reducible apply evd_tupRg) <;> (try walk_at "evd"))
  | ((with_reducible apply evr_1) <;> (try walk_at "evd"))
  | ((with_reducible apply evr_2) <;> (try walk_at "evd"))
  | focus ((with_reducible apply evd_call); (focus walk_at "evd"); (all_goals (try walk_at "rel")))
  | ((with_reducible apply evd_lenSet) <;> (try walk_at "evd"))
  | walk_at "evd3"
  | ((with_reducible apply evd_tix) <;> (try walk_at "evd"))
  | focus ((with_reducible apply evd_bmL); (focus walk_at "evd"); (all_goals (try walk_at "evd")))
  | focus ((with_reducible apply evd_cb); (focus walk_at "evd"); (all_goals (try walk_at "rc")))
  | walk_at "rc"
  | (intro _; walk_at "evd"))
local macro_rules | `(tactic| walk_at "evd3") => `(tactic| first
  | focus ((with_reducible apply evd_fld); (focus walk_at "evd"); (all_goals (try first | rfl | assumption | walk_at "fact")))
  | focus ((with_reducible apply evd_make); (focus walk_at "evd"); (all_goals (try walk_at "rel")))
  | focus ((with_reducible apply evd_meth); (focus walk_at "evd"); (focus walk_at "evd"); (all_goals (try first | rfl | walk_at "rel")))
  | focus ((with_reducible apply evd_prop); (focus walk_at "evd"); (all_goals (try walk_at "rel")))
  | focus ((with_reducible apply evd_spc); (focus walk_at "evd"); (all_goals (try walk_at "rel")))
  | focus ((with_reducible apply evd_isiO); (focus walk_at "evd"); (all_goals (try walk_at "fact")))
  | focus ((with_reducible apply evd_isi); (focus walk_at "evd"); (all_goals (try first | rfl | decide +kernel)))
  | ((with_reducible apply evd_cval) <;> (try walk_at "fact"))
  | focus ((with_reducible apply evd_inME); (rfl); (all_goals (try walk_at "evd")))
  | focus ((with_reducible apply evd_get2I); (rfl); (all_goals (try walk_at "evd")))
  | focus ((with_reducible apply evd_get2R); (rfl); (all_goals (try walk_at "evd")))
  | focus ((with_reducible apply evd_getME); (rfl); (all_goals (try walk_at "evd")))
  | focus ((with_reducible apply evd_getLI); (focus walk_at "evd"); (all_goals (try walk_at "evd")))
  | focus ((with_reducible apply evd_getDI); (focus walk_at "evd"); (all_goals (try walk_at "evd")))
  | focus ((with_reducible apply evd_getDR); (focus walk_at "evd"); (all_goals (try walk_at "evd")))
  | focus ((with_reducible apply evd_getLE); (focus walk_at "evd"); (all_goals (try walk_at "evd")))
  | focus ((with_reducible apply evd_getDE); (focus walk_at "evd"); (all_goals (try walk_at "evd")))
  | ((with_reducible apply evm_new)))
local macro_rules | `(tactic| walk_at "rc") => `(tactic| first
  | with_reducible apply rv_add
  | with_reducible apply rv_sub
  | with_reducible apply rv_cmp
  | with_reducible apply ru_neg
  | with_reducible apply rv_eqI
  | with_reducible apply rv_neI
  | with_reducible apply rv_eqS
  | with_reducible apply rv_neS
  | with_reducible apply rv_inT
  | with_reducible apply rv_inL
  | with_reducible apply rv_notInT
  | with_reducible apply rv_notInL
  | with_reducible apply rc_lenL
  | with_reducible apply rc_lenT
  | with_reducible apply rc_lenF
  | with_reducible apply rc_lenA
  | with_reducible apply rc_lenU
  | with_reducible apply rn_srtIL
  | with_reducible apply rn_srtIT
  | with_reducible apply rn_srtIA
  | with_reducible apply rn_srtP
  | with_reducible apply rn_srtR
  | with_reducible apply rn_srtDE
  | with_reducible apply rn_listL
  | with_reducible apply rn_listT
  | with_reducible apply rn_listA
  | with_reducible apply rc_abs
  | with_reducible apply rc_sum
  | with_reducible apply rc_int
  | walk_at "rc2")
local macro_rules | `(tactic| walk_at "rc2") => `(tactic| first
  | with_reducible apply rv_ixT0I
  | with_reducible apply rv_ixTZI
  | with_reducible apply rv_ixU0I
  | with_reducible apply rv_ixUZI
  | with_reducible apply rv_ixL0I
  | with_reducible apply rv_ixLZI
  | with_reducible apply rv_ixF0I
  | with_reducible apply rv_ixFZI
  | with_reducible apply rv_ixL0R
  | with_reducible apply rv_ixTR
  | with_reducible apply rv_ixL0L
  | with_reducible apply rv_ixTL
  | with_reducible apply rv_ixL0U
  | with_reducible apply rv_ixTU
  | with_reducible apply rv_ixQ
  | with_reducible apply rv_ixQ0
  | with_reducible apply rv_ixQZ
  | with_reducible apply rv_ix20
  | with_reducible apply rv_ix21
  | with_reducible apply rv_ixTI
  | with_reducible apply rv_ixUI
  | with_reducible apply rv_ixLI
  | with_reducible apply rv_ixFI
  | with_reducible apply rv_ixLR
  | with_reducible apply rv_ixLL
  | with_reducible apply rv_ixLU
  | with_reducible apply rv_mul
  | with_reducible apply rv_fdiv
  | with_reducible apply rv_mod
  | with_reducible apply rv_pow
  | with_reducible apply rv_ixL
  | with_reducible apply rv_ixF
  | with_reducible apply rv_ixT
  | with_reducible apply rv_ixU
  | with_reducible apply rv_ixA
  | with_reducible apply rv_catT
  | with_reducible apply rv_eqTI
  | with_reducible apply rv_neTI
  | with_reducible apply rv_eqLI
  | with_reducible apply rv_neLI
  | with_reducible apply rv_eqTR
  | with_reducible apply rv_inLR
  | with_reducible apply rv_notInLR
  | with_reducible apply rm_lix
  | with_reducible apply rn_srtIL'
  | with_reducible apply rn_srtR'
  | with_reducible apply rn_srtP'
  | with_reducible apply rv_inT'
  | with_reducible apply rv_inL'
  | with_reducible apply rv_notInT'
  | with_reducible apply rv_notInL'
  | with_reducible apply rc_sum'
  | with_reducible apply rc_min'
  | with_reducible apply rm_lix')
local macro_rules | `(tactic| walk_at "bnd") => `(tactic| first
  | omega
  | exact map_snoc
  | exact map_cat
  | ((have hszl := szl); (simp only [List.length_map, List.length_range, List.length_append, List.length_cons, List.length_nil, List.length_take, List.length_drop, Int.toNat_natCast, Nat.add_zero, Nat.zero_add, Int.natCast_add, Int.natCast_one] at *); omega)
  | ((simp only [List.length_map]); (refine Nat.le_trans (Nat.add_le_add_right (List.length_filter_le _ _) _) ?_); walk_at "bnd"))

section
variable {P : Program} {w : World} {K : Fr} {mg : Str → Option Value} {base : Heap} {CB CC CN CM : Addr}
/-- the two own exceptions -/
structure Xs (K : Fr) (mg : Str → Option Value) (CN CM : Addr) : Prop where
  xN : XfC K CN
  xM : XfC K CM
  fN : PySem.W.findIn K (.ref CN) "room" = some none
  fM : PySem.W.findIn K (.ref CM) "fault" = some none
  nN : mg "NotARoom" = some (.ref CN)
  nM : mg "Mismatch" = some (.ref CM)
  eNN : exmOne K (.ref CN) (.ref CN) = some true
  eMN : exmOne K (.ref CM) (.ref CN) = some false
  eMM : exmOne K (.ref CM) (.ref CM) = some true
def R_lref (CN CM : Addr) (ds : List D) (d : D) : Prop := (∃ d', R_ou ds d' ∧ d = .non) ∨ (∃ x, X_ou CN CM ds CN "room" x ∧ d = .tup [.str "room", x]) ∨ (∃ x, X_ou CN CM ds CM "fault" x ∧ d = .tup [.str "fault", x])
theorem sc__law_refused : FnScope ["_law_orders_here", "_law_room", "_law_leaving", "_law_stranger", "missed"] ["_law_orders_here", "_law_room", "_law_leaving"] (defScope s__law_refused) := ⟨rfl, rfl, rfl, by decide +kernel, rfl, by decide +kernel, by decide +kernel⟩
theorem ok_lrefused (T : At K mg "_law_refused" s__law_refused ["_law_orders_here", "_law_room", "_law_leaving"]) (B : Bi mg) (Z : Xs K mg CN CM) (G__other : Has P w K mg base (L2.CX P w) "other_unbeaten" 4 ["orders", "room", "leaving"] (spX K R_ou (X_ou CN CM))) :
    Has P w K mg base CX0 "_law_refused" 5 ["_law_orders_here", "_law_room", "_law_leaving"] (spD K (R_lref CN CM)) := by
  refine ok_H T sc__law_refused (fun ds d h => by rcases h with ⟨_, ⟨_, _, _, _, _, _, _, _, _, rfl, _⟩, _⟩ | ⟨_, ⟨_, _, _, _, _, _, _, _, _, rfl, _⟩, _⟩ | ⟨_, ⟨_, _, _, _, _, _, _, _, _, rfl, _⟩, _⟩ <;> rfl) (fun f cdv A outer s H E hr => ⟨_, (pss_cons (ps_tryAs rfl rfl sc__law_refused.nd (fun W pn xe tk po => pss_one (ps_expr (pe_callHX tk G__other hr (by decide) rfl (pa_cons (pv 0) (pa_cons (pv 1) (pa_cons (pv 2) pa_nil)))))) (ClsOk.cons (c := .ref CN) (i := 3) ⟨rfl, rfl, .inl Z.nN⟩ rfl rfl (fun a oe cls d pn hz hf => pss_one (ps_ret (pe_tup (pa_cons pe_str (pa_cons (pe_xf Z.xN Z.fN hz hf (pv 3)) pa_nil))))) (ClsOk.cons (c := .ref CM) (i := 4) ⟨rfl, rfl, .inl Z.nM⟩ rfl rfl (fun a oe cls d pn hz hf => pss_one (ps_ret (pe_tup (pa_cons pe_str (pa_cons (pe_xf Z.xM Z.fM hz hf (pv 4)) pa_nil))))) .nil))) (pss_one (ps_ret pe_non))), ?_⟩)
  rintro ds d (⟨d', hr', rfl⟩ | ⟨x, hx, rfl⟩ | ⟨x, hx, rfl⟩)
  · have h0 := hr'
    obtain ⟨b, os, n, v, room, lv, res, O, U, rfl, rfl⟩ := hr'
    refine sd_seq (sd_try_ok (by walk_at "evd") h0 ?_)
    apply sd_retE (p := Or.inl rfl)
    · walk_at "evd"
    · rfl
  · have h0 := hx
    obtain ⟨b, os, n, v, room, lv, O, _, _, rfl, _⟩ := hx
    refine sd_seq (sd_try_ex (by walk_at "evd") h0 (fun Dn d v k f hd rx => ?_))
    exact ⟨true, Z.eNN, fun _ a ha => cl_ret k f (by simp [init]) hd rx (Or.inl rfl), fun h => by cases h⟩
  · have h0 := hx
    obtain ⟨b, os, n, v, room, lv, O, _, _, rfl, _⟩ := hx
    refine sd_seq (sd_try_ex (by walk_at "evd") h0 (fun Dn d v k f hd rx => ?_))
    exact ⟨false, Z.eMN, fun h => (by cases h), fun _ => ⟨true, Z.eMM, fun _ a ha => cl_ret k f (by simp [init]) hd rx (Or.inl rfl), fun h => by cases h⟩⟩
end
end DL

set_option Elab.async false
set_option linter.all false
set_option maxRecDepth 100000
set_option maxHeartbeats 4000000
namespace DL
open PySem L2 PySem.W
local macro_rules | `(tactic| walk_at "evd") => `(tactic| first
  | with_reducible exact evd_int
  | with_reducible exact evd_str
  | with_reducible exact evd_bl
  | with_reducible exact evd_non
  | ((with_reducible apply evd_var); rfl)
  | walk_at "evn"
  | ((with_reducible apply EvN.ev); walk_at "evn")
  | ((with_reducible apply evd_op) <;> (try walk_at "evd"))
  | ((with_reducible apply evd_un) <;> (try walk_at "evd"))
  | ((with_reducible apply evb_test) <;> (try walk_at "evd"))
  | ((with_reducible apply evb_B) <;> (try walk_at "evd"))
  | with_reducible exact evb_yes
  | ((with_reducible apply evb_not) <;> (try walk_at "evd"))
  | ((with_reducible apply evb_and) <;> (try walk_at "evd"))
  | ((with_reducible apply evb_or) <;> (try walk_at "evd"))
  | ((with_reducible apply evd_andV) <;> (try walk_at "evd"))
  | ((with_reducible apply evd_orV) <;> (try walk_at "evd"))
  | ((with_reducible apply evd_notV) <;> (try walk_at "evd"))
  | ((with_reducible apply evd_chain) <;> (try walk_at "evd"))
  | walk_at "evd2")
local macro_rules | `(tactic| walk_at "evn") => `(tactic| first
  | ((with_reducible apply evn_cat) <;> (try walk_at "evd"))
  | ((with_reducible apply evn_lst) <;> (try walk_at "evd"))
  | ((with_reducible apply evn_slL) <;> (try walk_at "evd"))
  | ((with_reducible apply evn_lc) <;> (try walk_at "evd"))
  | ((with_reducible apply evn_listRg) <;> (try walk_at "evd"))
  | ((with_reducible apply evn_revL) <;> (try walk_at "evd"))
  | focus ((with_reducible apply evn_keysE); (rfl); (all_goals (try walk_at "evd")))
  | focus ((with_reducible apply evn_cb (r := rSrtI _)); (focus walk_at "evd"); (all_goals (try walk_at "rc")))
  | focus ((with_reducible apply evn_cb (r := rSrtR _)); (focus walk_at "evd"); (all_goals (try walk_at "rc")))
  | focus ((with_reducible apply evn_cb (r := rSrtP _)); (focus walk_at "evd"); (all_goals (try walk_at "rc")))
  | focus ((with_reducible apply evn_cb (r := rSrtD _)); (focus walk_at "evd"); (all_goals (try walk_at "rc")))
  | focus ((with_reducible apply evn_cb (r := rListOf _)); (focus walk_at "evd"); (all_goals (try walk_at "rc"))))
local macro_rules | `(tactic| walk_at "evd2") => `(tactic| first
  | ((with_reducible apply evd_tupL) <;> (try walk_at "evd"))
  | ((with_reducible apply evd_tupF) <;> (try walk_at "evd"))
  | ((with_reducible apply evd_tup) <;> (try walk_at "evd"))
  | with_reducible exact eva_nil
  | ((with_reducible apply eva_cons) <;> (try walk_at "evd"))
  | with_reducible exact evp_none
  | ((with_reducible apply evp_some) <;> (try walk_at "evd"))
  | focus ((with_reducible apply evd_slT); (focus walk_at "evd"); (all_goals (try walk_at "evd")))
  | focus ((with_reducible apply evd_slU); (focus walk_at "evd"); (all_goals (try walk_at "evd")))
  | exact gd_name
  | exact gd_two
  | ((with_reducible apply iv_list) <;> (try walk_at "evd"))
  | focus ((with_reducible apply iv_tup); walk_at "evd")
  | focus ((with_reducible apply iv_ftu); walk_at "evd")
  | ((with_reducible apply iv_enumQ) <;> (try walk_at "evd"))
  | ((with_reducible apply iv_rng1) <;> (try walk_at "evd"))
  | ((with_reducible apply iv_rng2) <;> (try walk_at "evd"))
  | ((with_reducible apply iv_enum) <;> (try walk_at "evd"))
  | ((with_reducible apply evd_tupRg) <;> (try walk_at "evd"))
  | ((with_reducible apply evr_1) <;> (try walk_at "evd"))
  | ((with_reducible apply evr_2) <;> (try walk_at "evd"))
  | focus ((with_reducible apply evd_call); (focus walk_at "evd"); (all_goals (try walk_at "rel")))
  | ((with_reducible apply evd_lenSet) <;> (try walk_at "evd"))
  | walk_at "evd3"
  | ((with_reducible apply evd_tix) <;> (try walk_at "evd"))
  | focus ((with_reducible apply evd_bmL); (focus walk_at "evd"); (all_goals (try walk_at "evd")))
  | focus ((with_reducible apply evd_cb); (focus walk_at "evd"); (all_goals (try walk_at "rc")))
  | walk_at "rc"
  | (intro _; walk_at "evd"))
local macro_rules | `(tactic| walk_at "evd3") => `(tactic| first
  | focus ((with_reducible apply evd_fld); (focus walk_at "evd"); (all_goals (try first | rfl | assumption | walk_at "fact")))
  | focus ((with_reducible apply evd_make); (focus walk_at "evd"); (all_goals (try walk_at "rel")))
  | focus ((with_reducible apply evd_meth); (focus walk_at "evd"); (focus walk_at "evd"); (all_goals (try first | rfl | walk_at "rel")))
  | focus ((with_reducible apply evd_prop); (focus walk_at "evd"); (all_goals (try walk_at "rel")))
  | focus ((with_reducible apply evd_spc); (focus walk_at "evd"); (all_goals (try walk_at "rel")))
  | focus ((with_reducible apply evd_isiO); (focus walk_at "evd"); (all_goals (try walk_at "fact")))
  | focus ((with_reducible apply evd_isi); (focus walk_at "evd"); (all_goals (try first | rfl | decide +kernel)))
  | ((with_reducible apply evd_cval) <;> (try walk_at "fact"))
  | focus ((with_reducible apply evd_inME); (rfl); (all_goals (try walk_at "evd")))
  | focus ((with_reducible apply evd_get2I); (rfl); (all_goals (try walk_at "evd")))
  | focus ((with_reducible apply evd_get2R); (rfl); (all_goals (try walk_at "evd")))
  | focus ((with_reducible apply evd_getME); (rfl); (all_goals (try walk_at "evd")))
  | focus ((with_reducible apply evd_getLI); (focus walk_at "evd"); (all_goals (try walk_at "evd")))
  | focus ((with_reducible apply evd_getDI); (focus walk_at "evd"); (all_goals (try walk_at "evd")))
  | focus ((with_reducible apply evd_getDR); (focus walk_at "evd"); (all_goals (try walk_at "evd")))
  | focus ((with_reducible apply evd_getLE); (focus walk_at "evd"); (all_goals (try walk_at "evd")))
  | focus ((with_reducible apply evd_getDE); (focus walk_at "evd"); (all_goals (try walk_at "evd")))
  | ((with_reducible apply evm_new)))
local macro_rules | `(tactic| walk_at "rc") => `(tactic| first
  | with_reducible apply rv_add
  | with_reducible apply rv_sub
  | with_reducible apply rv_cmp
  | with_reducible apply ru_neg
  | with_reducible apply rv_eqI
  | with_reducible apply rv_neI
  | with_reducible apply rv_eqS
  | with_reducible apply rv_neS
  | with_reducible apply rv_inT
  | with_reducible apply rv_inL
  | with_reducible apply rv_notInT
  | with_reducible apply rv_notInL
  | with_reducible apply rc_lenL
  | with_reducible apply rc_lenT
  | with_reducible apply rc_lenF
  | with_reducible apply rc_lenA
  | with_reducible apply rc_lenU
  | with_reducible apply rn_srtIL
  | with_reducible apply rn_srtIT
  | with_reducible apply rn_srtIA
  | with_reducible apply rn_srtP
  | with_reducible apply rn_srtR
  | with_reducible apply rn_srtDE
  | with_reducible apply rn_listL
  | with_reducible apply rn_listT
  | with_reducible apply rn_listA
  | with_reducible apply rc_abs
  | with_reducible apply rc_sum
  | with_reducible apply rc_int
  | walk_at "rc2")
local macro_rules | `(tactic| walk_at "rc2") => `(tactic| first
  | with_reducible apply rv_ixT0I
  | with_reducible apply rv_ixTZI
  | with_reducible apply rv_ixU0I
  | with_reducible apply rv_ixUZI
  | with_reducible apply rv_ixL0I
  | with_reducible apply rv_ixLZI
  | with_reducible apply rv_ixF0I
  | with_reducible apply rv_ixFZI
  | with_reducible apply rv_ixL0R
  | with_reducible apply rv_ixTR
  | with_reducible apply rv_ixL0L
  | with_reducible apply rv_ixTL
  | with_reducible apply rv_ixL0U
  | with_reducible apply rv_ixTU
  | with_reducible apply rv_ixQ
  | with_reducible apply rv_ixQ0
  | with_reducible apply rv_ixQZ
  | with_reducible apply rv_ix20
  | with_reducible apply rv_ix21
  | with_reducible apply rv_ixTI
  | with_reducible apply rv_ixUI
  | with_reducible apply rv_ixLI
  | with_reducible apply rv_ixFI
  | with_reducible apply rv_ixLR
  | with_reducible apply rv_ixLL
  | with_reducible apply rv_ixLU
  | with_reducible apply rv_mul
  | with_reducible apply rv_fdiv
  | with_reducible apply rv_mod
  | with_reducible apply rv_pow
  | with_reducible apply rv_ixL
  | with_reducible apply rv_ixF
  | with_reducible apply rv_ixT
  | with_reducible apply rv_ixU
  | with_reducible apply rv_ixA
  | with_reducible apply rv_catT
  | with_reducible apply rv_eqTI
  | with_reducible apply rv_neTI
  | with_reducible apply rv_eqLI
  | with_reducible apply rv_neLI
  | with_reducible apply rv_eqTR
  | with_reducible apply rv_inLR
  | with_reducible apply rv_notInLR
  | with_reducible apply rm_lix
  | with_reducible apply rn_srtIL'
  | with_reducible apply rn_srtR'
  | with_reducible apply rn_srtP'
  | with_reducible apply rv_inT'
  | with_reducible apply rv_inL'
  | with_reducible apply rv_notInT'
  | with_reducible apply rv_notInL'
  | with_reducible apply rc_sum'
  | with_reducible apply rc_min'
  | with_reducible apply rm_lix')
local macro_rules | `(tactic| walk_at "bnd") => `(tactic| first
  | omega
  | exact map_snoc
  | exact map_cat
  | ((have hszl := szl); (simp only [List.length_map, List.length_range, List.length_append, List.length_cons, List.length_nil, List.length_take, List.length_drop, Int.toNat_natCast, Nat.add_zero, Nat.zero_add, Int.natCast_add, Int.natCast_one] at *); omega)
  | ((simp only [List.length_map]); (refine Nat.le_trans (Nat.add_le_add_right (List.length_filter_le _ _) _) ?_); walk_at "bnd"))

section
variable {P : Program} {w : World} {K : Fr} {mg : Str → Option Value} {base : Heap} {CB CC CN CM : Addr}
theorem evd_callX {K : Fr} {ρ : Env} {t : TA} {ds : List D} {d : D} {rel : List D → D → Prop} {rex : List D → Addr → Str → D → Prop} (h : EvA K t ρ ds) (hr : rel ds d) : EvD K (tCallSD (spX K rel rex) [] (fun _ _ _ _ => False) t) ρ d := .mk fun k Q q =>
  h k _ fun vs S1 H1 g1 r1 => ⟨S1, ds, g1.sh, by rw [List.append_nil]; exact r1, Or.inl ⟨d, hr, fun v S2 H2 g2 r2 => q v S2 H2 (g1.trans g2) r2⟩⟩
theorem sm_same {q : Nat} {ds : List D} (hl : ds.length ≤ 1000000) (h : ∀ d ∈ ds, Sm q d d) : Sm (q + 1) (.tup ds) (.tup ds) := .tup rfl hl fun k a b ha hb => by
  rw [ha] at hb
  cases hb
  exact h _ (List.mem_of_getElem? ha)
theorem sm_row {q : Nat} {r : List Int} (hl : r.length ≤ 1000000) : Sm (q + 1) (dR r) (dR r) := sm_same (by rw [List.length_map]; exact hl) fun d hd => by
  obtain ⟨i, _, rfl⟩ := List.mem_map.mp hd
  exact .int _ _
theorem r_ltable {rs : List (List Int)} (h : rs.length ≤ 1000 ∧ ∀ r ∈ rs, r.length ≤ 100) : R_ltable [.lst (rs.map fun o => .tup (o.map D.int))] (.dct (emb dRs (ltab rs))) := ⟨rs, h.1, h.2, rfl, rfl⟩
local macro_rules | `(tactic| walk_at "rel") => `(tactic| with_reducible apply r_ltable)
theorem tab_fold : ∀ (zs : List (List Int × List Int)) (l : List (List Int × List (List Int))) (f : List Int), (getA (zs.foldl tabS l) f).getD [] = (getA l f).getD [] ++ (zs.filter fun z => decide (z.1 = f)).map (·.2)
  | [], l, f => by simp
  | z :: zs, l, f => by
    rw [List.foldl_cons, tab_fold zs, List.filter_cons]
    show (getA (putA l z.1 _) f).getD [] ++ _ = _
    rw [getA_putA]
    by_cases e : f = z.1
    · subst e
      rw [if_pos rfl, if_pos (decide_eq_true rfl), Option.getD_some, List.map_cons, List.append_assoc]
      rfl
    · rw [if_neg e, if_neg (fun h => e (of_decide_eq_true h).symm)]
theorem ltab_get (rs : List (List Int)) (f : List Int) : (getA (ltab rs) f).getD [] = ((rs.flatMap tabZ).filter fun z => decide (z.1 = f)).map (·.2) := by
  unfold ltab
  rw [tab_fold]
  rfl
theorem tabZ_len (r : List Int) : (tabZ r).length = r.length := by
  unfold tabZ fcs
  rw [List.length_map, List.length_map, List.length_range]
theorem flat_len : ∀ {rs : List (List Int)}, (∀ r ∈ rs, r.length ≤ 100) → (rs.flatMap tabZ).length ≤ rs.length * 100
  | [], _ => Nat.zero_le _
  | r :: rs, h => by
    rw [List.flatMap_cons, List.length_append, tabZ_len, List.length_cons]
    have := flat_len (rs := rs) fun q hq => h q (List.mem_cons_of_mem _ hq)
    have := h r List.mem_cons_self
    omega
theorem ltab_len {rs : List (List Int)} (h : ∀ r ∈ rs, r.length ≤ 100) (f : List Int) : ((getA (ltab rs) f).getD []).length ≤ rs.length * 100 := by
  rw [ltab_get, List.length_map]
  exact Nat.le_trans (List.length_filter_le _ _) (flat_len h)
def R_lfaces (ds : List D) (d : D) : Prop := ∃ (b : Bool) (os : List (List Int)) (n v : Nat) (whole : List (List Int)), Ord os n v ∧ whole.length ≤ 1000 ∧ (∀ r ∈ whole, r.length ≤ 100) ∧
  (∀ r ∈ whole, ∀ k : Nat, k < r.length → ∃ o, ((getA (ltab whole) (r.take k ++ r.drop (k + 1))).getD []).filter (fun x => !decide (x = r)) = [o] ∧ o.length ≤ 100 ∧ OU os n v r (r.getD k 0) o) ∧ ds = [ordD b os, dRs whole] ∧ d = .bl true
theorem sc__law_faces_right : FnScope ["_law_orders_here", "_law_whole", "_law_table_here", "_law_room", "_law_k", "_law_others", "_law_other"] ["_law_orders_here", "_law_whole"] (defScope s__law_faces_right) := ⟨rfl, rfl, rfl, by decide +kernel, rfl, by decide +kernel, by decide +kernel⟩
theorem ok_lfaces (T : At K mg "_law_faces_right" s__law_faces_right ["_law_orders_here", "_law_whole"]) (B : Bi mg) (G__law_table : Has P w K mg base CX0 "_law_table" 1 ["_law_rooms_here"] (spD K R_ltable)) (G__law_same : Has P w K mg base CX0 "_law_same" 5 ["_law_actual", "_law_due"] (spD K (R_lsame 4))) (G_other_unbeaten : Has P w K mg base (L2.CX P w) "other_unbeaten" 4 ["orders", "room", "leaving"] (spX K R_ou (X_ou CN CM))) :
    Has P w K mg base CX0 "_law_faces_right" 6 ["_law_orders_here", "_law_whole"] (spD K R_lfaces) := by
  refine ok_H T sc__law_faces_right (fun ds d h => by obtain ⟨_, _, _, _, _, _, _, _, _, rfl, _⟩ := h; rfl) (fun f cdv A outer s H E hr => ⟨_, (pss_cons (ps_set (i := 2) sc__law_faces_right.nd rfl (by first | exact Or.inl rfl | exact Or.inr rfl) (pe_callH G__law_table hr (by decide) rfl (pa_cons (pv 1) pa_nil)))
        (pss_cons (ps_for PassesOwn.never rfl (pi_lK K (pv 1)) (pg_name (i := 3) sc__law_faces_right.nd rfl (by first | exact Or.inl rfl | exact Or.inr rfl)) (pss_one (ps_for PassesOwn.never rfl (pi_range1 rfl B.range (pa_cons (pe_callB (cl_len K) rfl B.len PySem.boot_len (pa_cons (pv 3) pa_nil)) pa_nil)) (pg_name (i := 4) sc__law_faces_right.nd rfl (by first | exact Or.inl rfl | exact Or.inr rfl)) (pss_cons (ps_setLc (i := 5) (own := [("_law_other", 6)]) (by rfl) sc__law_faces_right.nd rfl rfl (sw_true rfl rfl rfl (by decide +kernel)) (pi_lK K (pe_dget (hu_of hr) (pv 2) (pe_op (op_catK K) (pe_slice (sl_tK K) (pv 3) po_none (po_some (pv 4))) (pe_slice (sl_tK K) (pv 3) (po_some (pe_op op_add (pv 4) (pe_int))) po_none)) (fun _ _ => rfl))) (blkOk_by (N := ["_law_orders_here", "_law_whole", "_law_table_here", "_law_room", "_law_k", "_law_others", "_law_other"]) (sc := (defScope s__law_faces_right)) (by decide +kernel)) (fun _ _ _ _ _ => pg_name (i := 6) sc__law_faces_right.nd rfl (by first | exact Or.inl rfl | exact Or.inr rfl)) (fun _ _ _ _ _ => pts_one (pt_cmpR (op_neK K hr) (pv 6) (pv 3) (nomark _))) (fun _ _ _ _ _ => pv 6))
        (pss_one (ps_if (PW.pt (pw_or (pt_cmpR op_ne (pe_callB (cl_len K) rfl B.len PySem.boot_len (pa_cons (pv 5) pa_nil)) (pe_int) (nomark _)) (pw_or1 (pt_not (pt_val (pe_callH G__law_same hr (by decide) rfl (pa_cons (pe_callHX takes0 G_other_unbeaten hr (by decide) rfl (pa_cons (pv 0) (pa_cons (pv 3) (pa_cons (pe_ix (ix_tK K) (pv 3) (pv 4) (fun _ _ => rfl)) pa_nil)))) (pa_cons (pe_ix (ix_lK K) (pv 5) (pe_int) (fun _ _ => rfl)) pa_nil)))))))) (pss_one (ps_ret (pe_bl))) (pss_nil)))))))
        (pss_one (ps_ret (pe_bl))))), ?_⟩)
  rintro ds d ⟨b, os, n, v, whole, O, hw, hb, h, rfl, rfl⟩
  apply sd_seq
  apply sd_set
  · walk_at "evd"
    exact ⟨hw, hb⟩
  apply sd_seq
  apply sd_for (e := dR) (items := whole) (Inv := fun _ ρ => ∃ x y z t, ρ = [.im (ordD b os), .im (dRs whole), .im (.dct (emb dRs (ltab whole))), x, y, z, t])
  · walk_at "evd"
  · exact ⟨_, _, _, _, rfl⟩
  · rintro i r ρ1 ha ⟨x, y, z, t, rfl⟩
    have hm := List.mem_of_getElem? ha
    have hr := hb r hm
    refine ⟨_, _, gd_name, ?_⟩
    apply sd_for (e := fun k : Nat => D.int (k : Nat)) (items := List.range r.length) (Inv := fun _ ρ => ∃ y z t, ρ = [.im (ordD b os), .im (dRs whole), .im (.dct (emb dRs (ltab whole))), .im (dR r), y, z, t])
    · apply iv_rngN
      · walk_at "evd"
      · rw [List.length_map]
      · omega
    · exact ⟨_, _, _, rfl⟩
    · rintro k b1 ρ2 hk ⟨y, z, t, rfl⟩
      obtain rfl := rng_at hk
      have hkl := rng_lt hk
      obtain ⟨o, ho, hol, U⟩ := h r hm k hkl
      obtain ⟨l, hl⟩ : ∃ l, getA (ltab whole) (r.take k ++ r.drop (k + 1)) = some l := by
        cases e : getA (ltab whole) (r.take k ++ r.drop (k + 1)) with
        | none => rw [e] at ho; cases ho
        | some l => exact ⟨l, rfl⟩
      rw [hl, Option.getD_some] at ho
      refine ⟨_, _, gd_name, ?_⟩
      apply sd_seq
      apply sd_set (d := .lst ([o].map dR))
      · apply EvN.ev
        rw [← ho]
        apply evn_lc (e := dR) (items := l)
        · apply iv_list
          apply evd_getDE (r := r.take k ++ r.drop (k + 1)) (f := dRs)
          · walk_at "evd"
          · apply EvD.is
            · walk_at "evd"
              have := szl
              rw [cut_hi, cut_lo1, List.length_take, List.length_drop, List.length_map]
              omega
            · rw [cut_hi, cut_lo1, ← List.map_take, ← List.map_drop, ← List.map_append]
          · exact hl
        · intro a _
          exact gd_name
        · intro a _
          walk_at "evd"
        · intro a _ _
          walk_at "evd"
        · have := ltab_len hb (r.take k ++ r.drop (k + 1))
          rw [hl, Option.getD_some] at this
          omega
      apply sd_if (b := false)
      · apply EvB.is
        · apply evb_or
          · walk_at "evd"
          · intro _
            refine evb_not (b := true) ?_
            apply evb_B
            apply evd_call (d := .bl true)
            · apply eva_cons
              · apply evd_callX (d := dR o)
                · walk_at "evd"
                  exact hkl
                · exact ⟨b, os, n, v, r, r.getD k 0, o, O, U, rfl, rfl⟩
              · apply eva_cons
                · apply evd_op
                  · walk_at "evd"
                  · walk_at "evd"
                  · exact rv_ixL (d := dR o) rfl
                · exact eva_nil
            · exact ⟨1, dR o, dR o, by omega, sm_row (by omega), rfl, rfl⟩
        · rfl
      · intro c
        cases c
      · intro _
        apply sd_next
        exact ⟨_, _, _, rfl⟩
    · rintro ρ2 ⟨y, z, t, rfl⟩
      exact ⟨_, _, _, _, rfl⟩
  · rintro ρ1 ⟨x, y, z, t, rfl⟩
    apply sd_retE (p := Or.inl rfl)
    · walk_at "evd"
    · rfl
end
end DL

set_option Elab.async false
set_option linter.all false
namespace DL
/-- what the books and the chain of the orders must be -/
structure BkOk (os : List (List Int)) (n v : Nat) (whole : List (List Int)) (terms : List (List Int × Int)) : Prop where
  nd : ((unb os n v ++ [ownP n v]).map sortI).Nodup
  eq : sortR ((unb os n v ++ [ownP n v]).map sortI) = whole
  len : whole.length ≤ 1000
  good : ∀ r ∈ whole, Good ((v : Int) + n) n r
  two : ∀ f ∈ (fcnt whole).map (·.1), (getA (fcnt whole) f).getD 0 = 2
  lnd : ∀ r ∈ unb os n v, (least os n v r).Nodup
  ch : chT (cT os n v) = terms
  tlen : terms.length ≤ 1000
  blen : (bdT terms).length ≤ 1000
  tgood : ∀ t ∈ terms, Good ((v : Int) + n) n t.1
  abs : (terms.map fun t => if t.2 < 0 then -t.2 else t.2).sum = terms.length
  bd : chT (bdT terms) = []
  ond : ((oddR terms).map sortI).Nodup
  odd : sortR ((oddR terms).map sortI) = whole
end DL

set_option Elab.async false
set_option linter.all false
set_option maxHeartbeats 4000000
namespace DL
/-! ### sums with one or two terms -/
theorem sum_zero {α : Type} {W : List α} {f : α → Int} (h : ∀ x ∈ W, f x = 0) : (W.map f).sum = 0 := by
  induction W with
  | nil => rfl
  | cons a W ih =>
    rw [List.map_cons, List.sum_cons, h a List.mem_cons_self, ih fun x hx => h x (List.mem_cons_of_mem _ hx)]
    rfl
theorem sum_one {α : Type} {W : List α} {f : α → Int} {a : α} (nd : W.Nodup) (ha : a ∈ W) (h : ∀ x ∈ W, x ≠ a → f x = 0) : (W.map f).sum = f a := by
  induction W with
  | nil => cases ha
  | cons b W ih =>
    obtain ⟨h1, h2⟩ := List.nodup_cons.mp nd
    rw [List.map_cons, List.sum_cons]
    rcases List.mem_cons.mp ha with e | q
    · subst e
      rw [sum_zero fun x hx => h x (List.mem_cons_of_mem _ hx) fun e => h1 (e ▸ hx)]
      omega
    · rw [ih h2 q fun x hx hn => h x (List.mem_cons_of_mem _ hx) hn, h b List.mem_cons_self fun e => h1 (e ▸ q)]
      omega
theorem sum_two {α : Type} {W : List α} {f : α → Int} {a b : α} (nd : W.Nodup) (ha : a ∈ W) (hb : b ∈ W) (hab : a ≠ b) (h : ∀ x ∈ W, x ≠ a → x ≠ b → f x = 0) : (W.map f).sum = f a + f b := by
  induction W with
  | nil => cases ha
  | cons c W ih =>
    obtain ⟨h1, h2⟩ := List.nodup_cons.mp nd
    rw [List.map_cons, List.sum_cons]
    rcases List.mem_cons.mp ha with e | qa
    · subst e
      rw [sum_one h2 ((List.mem_cons.mp hb).resolve_left (Ne.symm hab)) fun x hx hn => h x (List.mem_cons_of_mem _ hx) (fun e => h1 (e ▸ hx)) hn]
    · rcases List.mem_cons.mp hb with e | qb
      · subst e
        rw [sum_one h2 qa fun x hx hn => h x (List.mem_cons_of_mem _ hx) hn (fun e => h1 (e ▸ hx))]
        omega
      · rw [ih h2 qa qb fun x hx hn hm => h x (List.mem_cons_of_mem _ hx) hn hm, h c List.mem_cons_self (fun e => h1 (e ▸ qa)) (fun e => h1 (e ▸ qb))]
        omega
theorem sum_flat {α β : Type} (W : List α) (g : α → List β) (f : β → Int) : ((W.flatMap g).map f).sum = (W.map fun a => ((g a).map f).sum).sum := by
  induction W with
  | nil => rfl
  | cons a W ih => rw [List.flatMap_cons, List.map_append, List.sum_append, ih, List.map_cons, List.sum_cons]
theorem filter_one {α : Type} {W : List α} {q : α → Bool} {a : α} (nd : W.Nodup) (ha : a ∈ W) (h : ∀ x ∈ W, q x = true ↔ x = a) : W.filter q = [a] := by
  induction W with
  | nil => cases ha
  | cons b W ih =>
    obtain ⟨h1, h2⟩ := List.nodup_cons.mp nd
    have hb := h b List.mem_cons_self
    rcases List.mem_cons.mp ha with e | qa
    · subst e
      rw [List.filter_cons_of_pos (hb.mpr rfl), List.filter_eq_nil_iff.mpr]
      intro x hx hq
      exact h1 (((h x (List.mem_cons_of_mem _ hx)).mp hq) ▸ hx)
    · rw [List.filter_cons_of_neg (fun e => h1 ((hb.mp e) ▸ qa)), ih h2 qa fun x hx => h x (List.mem_cons_of_mem _ hx)]
theorem count_sum (L : List (List Int)) (f : List Int) : ((L.count f : Nat) : Int) = (L.map fun x => if x = f then (1 : Int) else 0).sum := by
  induction L with
  | nil => rfl
  | cons a L ih =>
    rw [List.count_cons, List.map_cons, List.sum_cons, ← ih]
    by_cases e : a = f
    · rw [if_pos e, if_pos (by simp [e])]
      omega
    · rw [if_neg e, if_neg (by simpa using e)]
      omega
/-! ### the sums of a chain -/
def tot (ts : List (List Int × Int)) (g : List Int) : Int := (ts.map fun t => if sortI t.1 = g then t.2 * osign t.1 else 0).sum
theorem sumA_get (ts : List (List Int × Int)) (g : List Int) : (getA (sumA ts) g).getD 0 = tot ts g := by
  have key : ∀ (ts : List (List Int × Int)) (l : List (List Int × Int)), (getA (ts.foldl sumS l) g).getD 0 = (getA l g).getD 0 + tot ts g := by
    intro ts
    induction ts with
    | nil => intro l; show _ = _ + 0; rw [Int.add_zero]; rfl
    | cons t ts ih =>
      intro l
      rw [List.foldl_cons, ih]
      unfold tot sumS
      rw [getA_putA, List.map_cons, List.sum_cons]
      by_cases e : g = sortI t.1
      · rw [if_pos e, if_pos e.symm, e, Option.getD_some]
        omega
      · rw [if_neg e, if_neg (Ne.symm e)]
        omega
  have := key ts []
  unfold sumA
  rw [this]
  show (0 : Int) + _ = _
  omega
theorem sumA_mem (ts : List (List Int × Int)) (g : List Int) : g ∈ (sumA ts).map (·.1) ↔ ∃ t ∈ ts, sortI t.1 = g := by
  have key : ∀ (ts : List (List Int × Int)) (l : List (List Int × Int)), g ∈ (ts.foldl sumS l).map (·.1) ↔ g ∈ l.map (·.1) ∨ ∃ t ∈ ts, sortI t.1 = g := by
    intro ts
    induction ts with
    | nil => intro l; simp
    | cons t ts ih =>
      intro l
      rw [List.foldl_cons, ih]
      unfold sumS
      rw [keys_putA]
      have e1 : g ∈ (if sortI t.1 ∈ l.map (·.1) then l.map (·.1) else l.map (·.1) ++ [sortI t.1]) ↔ g ∈ l.map (·.1) ∨ g = sortI t.1 := by
        split
        · rename_i h
          exact ⟨Or.inl, fun q => q.elim id fun e => e ▸ h⟩
        · rw [List.mem_append, List.mem_singleton]
      rw [e1]
      constructor
      · rintro ((h | h) | ⟨t', h, h'⟩)
        · exact Or.inl h
        · exact Or.inr ⟨t, List.mem_cons_self, h.symm⟩
        · exact Or.inr ⟨t', List.mem_cons_of_mem _ h, h'⟩
      · rintro (h | ⟨t', h, h'⟩)
        · exact Or.inl (Or.inl h)
        · rcases List.mem_cons.mp h with q | q
          · subst q
            exact Or.inl (Or.inr h'.symm)
          · exact Or.inr ⟨t', q, h'⟩
  have := key ts []
  unfold sumA
  rw [this]
  simp
theorem chT_zero {ts : List (List Int × Int)} (h : ∀ g, (∃ t ∈ ts, sortI t.1 = g) → tot ts g = 0) : chT ts = [] := by
  unfold chT
  rw [List.filter_eq_nil_iff.mpr]
  · rfl
  · intro g hg
    have hg := (sumA_mem ts g).mp (mem_sortR.mp hg)
    rw [sumA_get, h g hg]
    decide
theorem sortR_perm {a b : List (List Int)} (p : a.Perm b) : sortR a = sortR b :=
  srtd_uniq (fun _ _ => llt_tot) (sortBy_srtd llt_swo a) (sortBy_srtd llt_swo b) (((sortBy_perm llt a).trans p).trans (sortBy_perm llt b).symm)
theorem sortP_map (L : List (List Int)) (c : List Int → Int) : sortP (L.map fun r => (r, c r)) = (sortR L).map fun r => (r, c r) := by
  refine srtd_uniq (fun a b h1 h2 => plt_tot h1 h2) (sortBy_srtd plt_swo _) ?_ ((sortBy_perm plt _).trans ((sortBy_perm llt L).symm.map _))
  have h := sortBy_srtd llt_swo L
  rw [show SrtO.Srtd plt ((sortR L).map fun r => (r, c r)) ↔ _ from List.pairwise_map]
  refine h.imp fun {a b} q => ?_
  unfold plt
  by_cases e : b = a
  · subst e
    rw [if_pos rfl]
    exact decide_eq_false (by omega)
  · rw [if_neg e]
    exact q
theorem tot_map {W : List (List Int)} (nd : W.Nodup) {h : List Int → List Int × Int} (hs : ∀ r ∈ W, sortI (h r).1 = r) {g : List Int} (hg : g ∈ W) : tot (W.map h) g = (h g).2 * osign (h g).1 := by
  unfold tot
  rw [List.map_map]
  have e := sum_one (f := (fun t : List Int × Int => if sortI t.1 = g then t.2 * osign t.1 else 0) ∘ h) nd hg fun x hx hn => by
    show (if sortI (h x).1 = g then _ else _) = _
    rw [hs x hx, if_neg hn]
  rw [e]
  show (if sortI (h g).1 = g then _ else _) = _
  rw [hs g hg, if_pos rfl]
theorem chT_map {W : List (List Int)} (nd : W.Nodup) {h : List Int → List Int × Int} (hs : ∀ r ∈ W, sortI (h r).1 = r) {c : List Int → Int} (hc : ∀ r ∈ W, (h r).2 * osign (h r).1 = c r) (hn : ∀ r ∈ W, c r ≠ 0) : chT (W.map h) = (sortR W).map fun r => (r, c r) := by
  have hk : ((sumA (W.map h)).map (·.1)).Perm W := perm_nd (sumA_nd _) nd fun g => by
    rw [sumA_mem]
    constructor
    · rintro ⟨t, ht, e⟩
      obtain ⟨r, hr, rfl⟩ := List.mem_map.mp ht
      rw [hs r hr] at e
      exact e ▸ hr
    · exact fun hg => ⟨h g, List.mem_map.mpr ⟨g, hg, rfl⟩, hs g hg⟩
  have hv : ∀ r ∈ sortR W, (getA (sumA (W.map h)) r).getD 0 = c r := fun r hr => by
    have hr := mem_sortR.mp hr
    rw [sumA_get, tot_map nd hs hr, hc r hr]
  unfold chT
  rw [sortR_perm hk, List.filter_eq_self.mpr]
  · exact List.map_congr_left fun r hr => by rw [hv r hr]
  · intro r hr
    rw [hv r hr]
    have := hn r (mem_sortR.mp hr)
    simpa using this
/-! ### how many rooms -/
def cntS : Nat → Nat → Nat
  | 0, _ => 1
  | s + 1, m => ((List.range (m - s)).map fun k => cntS s (m - (k + 1))).sum
theorem subs_cnt : ∀ (s : Nat) (l : List Int), (subs s l).length = cntS s l.length
  | 0, l => rfl
  | s + 1, l => by
    show ((List.range (l.length - s)).flatMap fun k => (subs s (l.drop (k + 1))).map fun r => l.getD k 0 :: r).length = _
    rw [List.length_flatMap]
    unfold cntS
    congr 1
    refine List.map_congr_left fun k _ => ?_
    rw [List.length_map, subs_cnt s, List.length_drop]
theorem cnt_le : ∀ s, s ≤ 4 → ∀ m, m ≤ 9 → cntS s m ≤ 126 := by decide
section
variable {os : List (List Int)} {n v : Nat}
theorem Ord.unb_few (O : Ord os n v) : (unb os n v).length ≤ 126 := by
  unfold unb
  refine Nat.le_trans (List.length_filter_le _ _) ?_
  rw [subs_cnt, len_rgZ]
  exact cnt_le n O.n4 _ O.nv
theorem cf_own : cf os n v (ownP n v) = -1 := if_pos rfl
theorem Ord.cf_unb (O : Ord os n v) {r : List Int} (h : r ∈ unb os n v) : cf os n v r = osign (least os n v r) := if_neg (O.unb_ne h)
theorem cf_abs (os : List (List Int)) (n v : Nat) (r : List Int) : (cf os n v r).natAbs = 1 := by
  unfold cf
  split
  · rfl
  · exact osign_abs _
/-- the rooms of the book, in order -/
def whl (os : List (List Int)) (n v : Nat) : List (List Int) := sortR (unb os n v ++ [ownP n v])
theorem mem_whl {r : List Int} : r ∈ whl os n v ↔ InW os n v r := by
  unfold whl InW
  rw [mem_sortR, List.mem_append, List.mem_singleton]
  exact Or.comm
theorem Ord.un_nd (O : Ord os n v) : (unb os n v ++ [ownP n v]).Nodup := by
  rw [List.nodup_append]
  refine ⟨unb_nd, List.nodup_cons.mpr ⟨by simp, List.nodup_nil⟩, fun a ha b hb e => O.own_unb ?_⟩
  rw [← List.mem_singleton.mp hb, ← e]
  exact ha
theorem Ord.whl_nd (O : Ord os n v) : (whl os n v).Nodup := (sortBy_perm llt _).nodup_iff.mpr O.un_nd
theorem Ord.whl_len (O : Ord os n v) : (whl os n v).length ≤ 127 := by
  unfold whl
  rw [(sortBy_perm llt _).length_eq, List.length_append, List.length_singleton]
  have := O.unb_few
  omega
theorem fcs_nd {r : List Int} (nd : r.Nodup) : (fcs r).Nodup := by
  unfold fcs List.Nodup
  rw [List.pairwise_map, List.pairwise_iff_getElem]
  intro i j hi hj hij
  rw [List.length_range] at hi hj
  rw [List.getElem_range, List.getElem_range, face_dl nd (List.getElem?_eq_getElem hi), face_dl nd (List.getElem?_eq_getElem hj)]
  intro e
  have h1 : r[i] ∈ dl r r[j] := mem_dl.mpr ⟨List.getElem_mem _, List.pairwise_iff_getElem.mp nd i j hi hj hij⟩
  rw [← e] at h1
  exact not_dl _ _ h1
theorem Ord.two (O : Ord os n v) {f : List Int} (hf : f ∈ (whl os n v).flatMap fcs) : (((whl os n v).flatMap fcs).count f : Nat) = 2 := by
  obtain ⟨r, hr, hfr⟩ := List.mem_flatMap.mp hf
  have hw := mem_whl.mp hr
  have hnd := (hw.rom O).1.nd
  obtain ⟨l, hl, rfl⟩ := (mem_fcs hnd).mp hfr
  obtain ⟨res, l', _, X⟩ := O.other hw hl
  have hg : ∀ x ∈ whl os n v, ((fcs x).map fun y => if y = dl r l then (1 : Int) else 0).sum = if dl r l ∈ fcs x then 1 else 0 := fun x hx => by
    have hxn := ((mem_whl.mp hx).rom O).1.nd
    by_cases e : dl r l ∈ fcs x
    · rw [if_pos e, sum_one (fcs_nd hxn) e fun y hy hn => if_neg hn, if_pos rfl]
    · rw [if_neg e]
      exact sum_zero fun y hy => if_neg fun q : y = dl r l => e (q ▸ hy)
  have key : (((whl os n v).flatMap fcs).count (dl r l) : Int) = 2 := by
    rw [count_sum, sum_flat, List.map_congr_left hg, sum_two O.whl_nd hr (mem_whl.mpr X.inw) (Ne.symm X.ne) fun x hx h1 h2 => if_neg fun q => ?_]
    · rw [if_pos hfr, if_pos ((mem_fcs (X.inw.rom O).1.nd).mpr ⟨l', X.mem, X.face.symm⟩)]
      rfl
    · obtain ⟨l2, hl2, e⟩ := (mem_fcs ((mem_whl.mp hx).rom O).1.nd).mp q
      rcases X.only x l2 (mem_whl.mp hx) hl2 e.symm with z | z
      · exact h1 z
      · exact h2 z
  exact Int.ofNat.inj key
/-- what a room gives to the boundary at a face -/
theorem tot_row {r : List Int} (h : Asc r) (c : Int) (g : List Int) : tot (bdRow (r, c)) g = (if g ∈ fcs r then c * (-1) ^ ltc r ((r.filter fun x => !decide (x ∈ g)).getD 0 0) else 0) := by
  unfold tot bdRow
  rw [List.map_map]
  have hf : ∀ k, k < r.length → (fcs r).getD k [] = dl r (r.getD k 0) := fun k hk => by
    unfold fcs
    rw [List.getD_eq_getElem?_getD, List.getElem?_map, List.getElem?_range hk, List.getD_eq_getElem?_getD, List.getElem?_eq_getElem hk]
    exact face_dl h.nd (List.getElem?_eq_getElem hk)
  have hv : ∀ k, k < r.length → ((fun t : List Int × Int => if sortI t.1 = g then t.2 * osign t.1 else 0) ∘ fun k : Nat => ((fcs r).getD k [], c * (1 - 2 * (((k : Nat) : Int) % 2)))) k = if dl r (r.getD k 0) = g then c * (-1) ^ k else 0 := fun k hk => by
    show (if sortI ((fcs r).getD k []) = g then c * (1 - 2 * (((k : Nat) : Int) % 2)) * osign ((fcs r).getD k []) else 0) = _
    rw [hf k hk, asc_sort (dl_asc h), osign_asc (dl_asc h), Int.mul_one, sign_pow]
  by_cases e : g ∈ fcs r
  · rw [if_pos e]
    obtain ⟨l, hl, rfl⟩ := (mem_fcs h.nd).mp e
    obtain ⟨k, hk⟩ := List.mem_iff_getElem?.mp hl
    have hkl := (List.getElem?_eq_some_iff.mp hk).1
    have hkg : r.getD k 0 = l := by rw [List.getD_eq_getElem?_getD, hk]; rfl
    have e1 : (r.filter fun x => !decide (x ∈ dl r l)) = [l] := filter_one h.nd hl fun x hx => by
      rw [Bool.not_eq_true', decide_eq_false_iff_not, mem_dl]
      constructor
      · intro q
        apply Classical.byContradiction
        intro q2
        exact q ⟨hx, q2⟩
      · rintro rfl q
        exact q.2 rfl
    rw [e1]
    show _ = c * (-1) ^ ltc r l
    rw [ltc_ix h hk]
    rw [sum_one List.nodup_range (List.mem_range.mpr hkl) fun j hj hn => ?_]
    · rw [hv k hkl, hkg, if_pos rfl]
    · have hj := List.mem_range.mp hj
      rw [hv j hj, if_neg]
      intro q
      have h1 : r.getD j 0 ∈ dl r l := by
        refine mem_dl.mpr ⟨?_, ?_⟩
        · rw [List.getD_eq_getElem?_getD, List.getElem?_eq_getElem hj]
          exact List.getElem_mem _
        · rw [← hkg, List.getD_eq_getElem?_getD, List.getD_eq_getElem?_getD, List.getElem?_eq_getElem hj, List.getElem?_eq_getElem hkl]
          intro z
          have z : r[j] = r[k] := z
          rcases Nat.lt_or_gt_of_ne hn with w | w
          · exact List.pairwise_iff_getElem.mp h.nd j k hj hkl w z
          · exact List.pairwise_iff_getElem.mp h.nd k j hkl hj w z.symm
      rw [← q] at h1
      exact not_dl _ _ h1
  · rw [if_neg e]
    exact sum_zero fun k hk => by
      have hk := List.mem_range.mp hk
      rw [hv k hk, if_neg]
      intro q
      refine e ((mem_fcs h.nd).mpr ⟨r.getD k 0, ?_, q.symm⟩)
      rw [List.getD_eq_getElem?_getD, List.getElem?_eq_getElem hk]
      exact List.getElem_mem _
theorem out_of {r : List Int} (nd : r.Nodup) {l : Int} (hl : l ∈ r) : (r.filter fun x => !decide (x ∈ dl r l)).getD 0 0 = l := by
  have e1 : (r.filter fun x => !decide (x ∈ dl r l)) = [l] := filter_one nd hl fun x hx => by
    rw [Bool.not_eq_true', decide_eq_false_iff_not, mem_dl]
    constructor
    · intro q
      apply Classical.byContradiction
      intro q2
      exact q ⟨hx, q2⟩
    · rintro rfl q
      exact q.2 rfl
  rw [e1]
  rfl
def trm (os : List (List Int)) (n v : Nat) : List (List Int × Int) := (whl os n v).map fun r => (r, cf os n v r)
theorem Ord.bd0 (O : Ord os n v) : chT (bdT (trm os n v)) = [] := by
  have hall : ∀ g, tot (bdT (trm os n v)) g = ((whl os n v).map fun r => if g ∈ fcs r then cf os n v r * (-1) ^ ltc r ((r.filter fun x => !decide (x ∈ g)).getD 0 0) else 0).sum := fun g => by
    unfold bdT tot trm
    rw [sum_flat, List.map_map]
    congr 1
    refine List.map_congr_left fun r hr => ?_
    exact tot_row ((mem_whl.mp hr).rom O).2 _ _
  refine chT_zero fun g hg => ?_
  obtain ⟨t, ht, rfl⟩ := hg
  unfold bdT trm at ht
  obtain ⟨q, hq, hm⟩ := List.mem_flatMap.mp ht
  obtain ⟨r, hr, rfl⟩ := List.mem_map.mp hq
  have hw := mem_whl.mp hr
  obtain ⟨hR, hRa⟩ := hw.rom O
  obtain ⟨k, hk, rfl⟩ := List.mem_map.mp hm
  have hk : k < r.length := List.mem_range.mp hk
  have hfk : (fcs r).getD k [] ∈ fcs r := by
    rw [List.getD_eq_getElem?_getD, List.getElem?_eq_getElem (by rw [fcs_length]; exact hk)]
    exact List.getElem_mem _
  obtain ⟨l, hl, e⟩ := (mem_fcs hR.nd).mp hfk
  show tot _ (sortI ((fcs r).getD k [])) = 0
  rw [e, asc_sort (dl_asc hRa)]
  rw [e] at hfk
  obtain ⟨res, l', _, X⟩ := O.other hw hl
  obtain ⟨hS, hSa⟩ := X.inw.rom O
  rw [hall, sum_two O.whl_nd hr (mem_whl.mpr X.inw) (Ne.symm X.ne) fun x hx h1 h2 => if_neg fun q => ?_]
  · rw [if_pos hfk, if_pos ((mem_fcs hS.nd).mpr ⟨l', X.mem, X.face.symm⟩), out_of hR.nd hl, ← X.face, out_of hS.nd X.mem]
    exact X.sgn
  · obtain ⟨l2, hl2, e⟩ := (mem_fcs ((mem_whl.mp hx).rom O).1.nd).mp q
    rcases X.only x l2 (mem_whl.mp hx) hl2 e.symm with z | z
    · exact h1 z
    · exact h2 z
theorem map_id_of {α : Type} {L : List α} {f : α → α} (h : ∀ x ∈ L, f x = x) : L.map f = L := by
  have := List.map_congr_left (f := f) (g := id) fun x hx => h x hx
  rw [this, List.map_id]
theorem bdRow_len (t : List Int × Int) : (bdRow t).length = t.1.length := by
  unfold bdRow
  rw [List.length_map, List.length_range]
theorem bd_len {ts : List (List Int × Int)} {k : Nat} (h : ∀ t ∈ ts, t.1.length = k) : (bdT ts).length = ts.length * k := by
  unfold bdT
  induction ts with
  | nil => simp
  | cons t ts ih =>
    rw [List.flatMap_cons, List.length_append, bdRow_len, h t List.mem_cons_self, ih fun x hx => h x (List.mem_cons_of_mem _ hx), List.length_cons, Nat.succ_mul]
    omega
theorem Ord.bk0 (O : Ord os n v) : BkOk os n v (whl os n v) (trm os n v) := by
  have hasc : ∀ r ∈ unb os n v ++ [ownP n v], sortI r = r := fun r hr => by
    have : InW os n v r := by
      rcases List.mem_append.mp hr with h | h
      · exact Or.inr h
      · exact Or.inl (List.mem_singleton.mp h)
    exact asc_sort (this.rom O).2
  have hid := map_id_of hasc
  have hlen := O.whl_len
  have htl : (trm os n v).length = (whl os n v).length := List.length_map _
  have hodd : oddR (trm os n v) = whl os n v := by
    unfold oddR trm
    rw [List.filter_eq_self.mpr]
    · rw [List.map_map]
      exact map_id_of fun x _ => rfl
    · intro t ht
      obtain ⟨r, _, rfl⟩ := List.mem_map.mp ht
      have := cf_abs os n v r
      show decide (cf os n v r % 2 = 1) = true
      rw [decide_eq_true_iff]
      omega
  have hoid : (whl os n v).map sortI = whl os n v := map_id_of fun r hr => asc_sort ((mem_whl.mp hr).rom O).2
  have hss : sortR (whl os n v) = whl os n v := sortR_perm (sortBy_perm llt _)
  refine ⟨by rw [hid]; exact O.un_nd, by rw [hid]; rfl, by omega, fun r hr => ((mem_whl.mp hr).rom O).1.good O, fun f hf => ?_, fun r hr => (O.least_perm hr).nodup_iff.mpr (O.mem_unb.mp hr).1.nd, ?_, by omega, ?_, fun t ht => ?_, ?_, O.bd0, by rw [hodd, hoid]; exact O.whl_nd, by rw [hodd, hoid, hss]⟩
  · rw [fcnt_get, O.two ((fcnt_keys _ f).mp hf)]
    rfl
  · have e : cT os n v = (unb os n v ++ [ownP n v]).map fun r => if r = ownP n v then (ownP n v, -1) else (least os n v r, 1) := by
      unfold cT
      rw [List.map_append]
      congr 1
      · refine List.map_congr_left fun r hr => ?_
        rw [if_neg (O.unb_ne hr)]
      · show _ = [if _ then _ else _]
        rw [if_pos rfl]
    rw [e]
    refine chT_map O.un_nd (fun r hr => ?_) (c := cf os n v) (fun r hr => ?_) fun r hr h0 => ?_
    · rcases List.mem_append.mp hr with h | h
      · rw [if_neg (O.unb_ne h)]
        show sortI (least os n v r) = r
        have hm := O.mem_unb.mp h
        rw [sortI_perm ((O.least_perm h).nodup_iff.mpr hm.1.nd) (O.least_perm h), asc_sort hm.2.1]
      · rw [List.mem_singleton.mp h, if_pos rfl]
        exact asc_sort own_rom.2
    · rcases List.mem_append.mp hr with h | h
      · rw [if_neg (O.unb_ne h), O.cf_unb h]
        exact Int.one_mul _
      · rw [List.mem_singleton.mp h, if_pos rfl, cf_own]
        show -1 * osign (ownP n v) = -1
        rw [osign_asc own_rom.2]
        rfl
    · have := cf_abs os n v r
      rw [h0] at this
      cases this
  · rw [bd_len (k := n), htl]
    · have := O.n4
      have : (whl os n v).length * n ≤ 127 * 4 := Nat.mul_le_mul hlen this
      omega
    · intro t ht
      obtain ⟨r, hr, rfl⟩ := List.mem_map.mp ht
      exact ((mem_whl.mp hr).rom O).1.len
  · obtain ⟨r, hr, rfl⟩ := List.mem_map.mp ht
    exact ((mem_whl.mp hr).rom O).1.good O
  · have : ∀ ts : List (List Int × Int), (∀ t ∈ ts, t.2.natAbs = 1) → (ts.map fun t => if t.2 < 0 then -t.2 else t.2).sum = ts.length := by
      intro ts
      induction ts with
      | nil => intro _; rfl
      | cons t ts ih =>
        intro h
        rw [List.map_cons, List.sum_cons, ih fun x hx => h x (List.mem_cons_of_mem _ hx), List.length_cons]
        have := h t List.mem_cons_self
        split <;> omega
    exact this _ fun t ht => by
      obtain ⟨r, hr, rfl⟩ := List.mem_map.mp ht
      exact cf_abs os n v r
/-- the law's own whole and terms -/
theorem Ord.whl_of (O : Ord os n v) {rooms : List (List Int)} (p : rooms.Perm (unb os n v)) : sortR (rooms ++ [ownP n v]) = whl os n v := sortR_perm (p.append_right _)
theorem Ord.trm_of (O : Ord os n v) {rooms : List (List Int)} (p : rooms.Perm (unb os n v)) : sortP ((ownP n v, -1) :: rooms.map fun room => (room, osign ((frows os n v).map fun row => fst row room))) = trm os n v := by
  have e : ((ownP n v, -1) :: rooms.map fun room => (room, osign ((frows os n v).map fun row => fst row room))) = (ownP n v :: rooms).map fun r => (r, cf os n v r) := by
    rw [List.map_cons, cf_own]
    congr 1
    refine List.map_congr_left fun r hr => ?_
    rw [O.cf_unb (p.mem_iff.mp hr)]
    rfl
  rw [e, sortP_map]
  unfold trm whl
  rw [sortR_perm (((p.cons (ownP n v))).trans (List.perm_append_singleton _ _).symm)]
end
end DL

set_option Elab.async false
set_option linter.all false
set_option maxHeartbeats 4000000
namespace DL
/-! ### drawn orders are orders -/
theorem ordV_state (c : Int) (n : Nat) : ∀ m, m ≤ n → (((List.range m).foldl (ordS n) (rgI 0 n, [], c)).1 ++ ((List.range m).foldl (ordS n) (rgI 0 n, [], c)).2.1).Perm (rgI 0 n) ∧ ((List.range m).foldl (ordS n) (rgI 0 n, [], c)).1.length + m = n := by
  intro m
  induction m with
  | zero =>
    intro _
    refine ⟨by rw [show ((List.range 0).foldl (ordS n) (rgI 0 n, [], c)) = (rgI 0 n, [], c) from rfl, List.append_nil], ?_⟩
    show (rgI 0 (n : Int)).length + 0 = n
    unfold rgI
    rw [List.length_map, List.length_range]
    omega
  | succ m ih =>
    intro hm
    obtain ⟨h1, h2⟩ := ih (by omega)
    rw [List.range_succ, List.foldl_append]
    generalize (List.range m).foldl (ordS n) (rgI 0 n, [], c) = s at h1 h2 ⊢
    show ((s.1.eraseIdx (s.2.2 % ((n : Int) - m)).toNat) ++ (s.2.1 ++ [s.1.getD (s.2.2 % ((n : Int) - m)).toNat 0])).Perm _ ∧ (s.1.eraseIdx (s.2.2 % ((n : Int) - m)).toNat).length + (m + 1) = n
    have hlt : (s.2.2 % ((n : Int) - m)).toNat < s.1.length := by
      have := Int.emod_lt_of_pos s.2.2 (show (0 : Int) < (n : Int) - m by omega)
      have := Int.emod_nonneg s.2.2 (show (n : Int) - m ≠ 0 by omega)
      omega
    generalize (s.2.2 % ((n : Int) - m)).toNat = i at hlt
    refine ⟨?_, ?_⟩
    · refine List.Perm.trans ?_ h1
      have e := at_split (List.getElem?_eq_getElem hlt)
      have hg : s.1.getD i 0 = s.1[i] := by rw [List.getD_eq_getElem?_getD, List.getElem?_eq_getElem hlt]; rfl
      rw [hg, List.eraseIdx_eq_take_drop_succ]
      have p1 : (s.1.take i ++ s.1.drop (i + 1) ++ (s.2.1 ++ [s.1[i]])).Perm (s.1[i] :: (s.1.take i ++ s.1.drop (i + 1) ++ s.2.1)) := by
        rw [← List.append_assoc]
        exact List.perm_append_singleton _ _
      have p2 : (s.1[i] :: (s.1.take i ++ s.1.drop (i + 1))).Perm s.1 := by
        have := (List.perm_middle (a := s.1[i]) (l₁ := s.1.take i) (l₂ := s.1.drop (i + 1))).symm
        rwa [← e] at this
      exact p1.trans (by rw [← List.cons_append]; exact p2.append_right _)
    · rw [List.length_eraseIdx, if_pos hlt]
      omega
theorem ordV_perm (c : Int) (n : Nat) : (ordV c n).Perm (rgI 0 n) := by
  obtain ⟨h1, h2⟩ := ordV_state c n n (Nat.le_refl _)
  unfold ordV
  rw [List.length_eq_zero_iff.mp (by omega : ((List.range n).foldl (ordS n) (rgI 0 n, [], c)).1.length = 0), List.nil_append] at h1
  exact h1
theorem srt_of {o : List Int} {v : Nat} (h : o.Perm (rgI 0 v)) : sortI o = rgI 0 v := by
  rw [sortI_perm (h.nodup_iff.mpr (rgI_nd _ _)) h, asc_sort (rgI_asc _ _)]
theorem ordersV_ok (xs : List Int) {d v : Nat} : (ordersV xs d v).length = d ∧ ∀ o ∈ ordersV xs d v, o.Perm (rgI 0 v) := by
  have key : ∀ m, m ≤ d - 1 → ∀ way : Int, (((List.range m).foldl (fun os k => mixS way os (k + 1)) ((List.range d).map fun k => ordV (cellV xs (2 + k)) v))).length = d ∧
      ∀ o ∈ ((List.range m).foldl (fun os k => mixS way os (k + 1)) ((List.range d).map fun k => ordV (cellV xs (2 + k)) v)), o.Perm (rgI 0 v) := by
    intro m
    induction m with
    | zero =>
      intro _ way
      refine ⟨by rw [show (List.range 0) = [] from rfl, List.foldl_nil, List.length_map, List.length_range], fun o ho => ?_⟩
      rw [show (List.range 0) = [] from rfl, List.foldl_nil] at ho
      obtain ⟨k, _, rfl⟩ := List.mem_map.mp ho
      exact ordV_perm _ _
    | succ m ih =>
      intro hm way
      obtain ⟨h1, h2⟩ := ih (by omega) way
      rw [List.range_succ, List.foldl_append]
      generalize (List.range m).foldl (fun os k => mixS way os (k + 1)) ((List.range d).map fun k => ordV (cellV xs (2 + k)) v) = os at h1 h2 ⊢
      show (mixS way os (m + 1)).length = d ∧ ∀ o ∈ mixS way os (m + 1), o.Perm (rgI 0 v)
      have hget : ∀ os : List (List Int), os.length = d → (∀ o ∈ os, o.Perm (rgI 0 v)) → (os.getD (m + 1 - 1) []).Perm (rgI 0 v) := fun os h1 h2 => by
        refine h2 _ ?_
        rw [List.getD_eq_getElem?_getD, List.getElem?_eq_getElem (by omega)]
        exact List.getElem_mem _
      have hset : ∀ (os : List (List Int)) (x : List Int), os.length = d → (∀ o ∈ os, o.Perm (rgI 0 v)) → x.Perm (rgI 0 v) → (os.set (m + 1) x).length = d ∧ ∀ o ∈ os.set (m + 1) x, o.Perm (rgI 0 v) := fun os x h1 h2 hx => by
        refine ⟨by rw [List.length_set, h1], fun o ho => ?_⟩
        rcases List.mem_or_eq_of_mem_set ho with q | q
        · exact h2 o q
        · rw [q]; exact hx
      unfold mixS
      have s1 : ((if way = 1 then fun os : List (List Int) => os.set (m + 1) (os.getD (m + 1 - 1) []) else id) os).length = d ∧ ∀ o ∈ ((if way = 1 then fun os : List (List Int) => os.set (m + 1) (os.getD (m + 1 - 1) []) else id) os), o.Perm (rgI 0 v) := by
        by_cases e : way = 1
        · rw [if_pos e]
          exact hset os _ h1 h2 (hget os h1 h2)
        · rw [if_neg e]
          exact ⟨h1, h2⟩
      generalize (if way = 1 then fun os : List (List Int) => os.set (m + 1) (os.getD (m + 1 - 1) []) else id) os = os1 at s1
      by_cases e : way = 2
      · rw [if_pos e]
        exact hset os1 _ s1.1 s1.2 ((List.reverse_perm _).trans (hget os1 s1.1 s1.2))
      · rw [if_neg e]
        exact s1
  exact key (d - 1) (Nat.le_refl _) _
theorem ordersV_ord (xs : List Int) {d v : Nat} (h1 : 1 ≤ d) (h4 : d ≤ 4) (hv : 1 ≤ v) (hv5 : v ≤ 5) : Ord (ordersV xs d v) d v :=
  ⟨(ordersV_ok xs).1, h1, h4, hv, by omega, by omega, fun o ho => srt_of ((ordersV_ok xs).2 o ho)⟩
/-! ### the law's unbeaten rooms are the program's -/
section
variable {os : List (List Int)} {n v : Nat}
theorem Ord.lunb_eq (O : Ord os n v) : ((subs n (rgI 0 ((n + v : Nat) : Int))).filter fun room => !((rgI 0 ((n + v : Nat) : Int)).any (lbeat (frows os n v) room))) = unb os n v := by
  have ec : (((n + v : Nat) : Int)) = (v : Int) + n := by omega
  unfold unb
  rw [ec]
  refine List.filter_congr fun room hr => ?_
  rw [Bool.eq_iff_iff, Bool.not_eq_true', List.any_eq_false, decide_eq_true_iff]
  have e1 : ((aia (frows os n v) room).length : Int) = 0 ↔ aia (frows os n v) room = [] := by
    rw [← List.length_eq_zero_iff]
    omega
  rw [e1, O.ub_iff]
  unfold Ub Bt
  have e2 : ∀ p, lbeat (frows os n v) room p = true ↔ ∀ i, i < n → posO os n v i (mO os n v i room) < posO os n v i p := fun p => by
    unfold lbeat
    rw [List.all_eq_true, mem_rows_get (Q := fun row => decide (ixOf p row > ixOf (fst row room) row) = true), frows_len]
    refine forall_congr' fun i => forall_congr' fun hi => ?_
    rw [decide_eq_true_iff]
    exact Iff.rfl
  constructor
  · rintro h p ⟨h1, h2, h3⟩
    exact h p (mem_rgI.mpr ⟨h1, h2⟩) ((e2 p).mpr h3)
  · intro h p hp hb
    have := mem_rgI.mp hp
    exact h p ⟨this.1, this.2, (e2 p).mp hb⟩
/-! ### things renamed -/
structure Ren (n v : Nat) (π : Int → Int) : Prop where
  lo : ∀ p : Int, 0 ≤ p → p < v → 0 ≤ π p ∧ π p < v
  hi : ∀ p : Int, (v : Int) ≤ p → p < (v : Int) + n → π p = p
  inj : ∀ p q : Int, 0 ≤ p → p < v → 0 ≤ q → q < v → π p = π q → p = q
  onto : ∀ q : Int, 0 ≤ q → q < (v : Int) → ∃ p : Int, 0 ≤ p ∧ p < (v : Int) ∧ π p = q
variable {π : Int → Int}
theorem Ren.bd (R : Ren n v π) {p : Int} (h0 : 0 ≤ p) (h1 : p < (v : Int) + n) : 0 ≤ π p ∧ π p < (v : Int) + n := by
  by_cases h : p < v
  · have := R.lo p h0 h
    omega
  · rw [R.hi p (by omega) h1]
    omega
theorem Ren.inj' (R : Ren n v π) {p q : Int} (h0 : 0 ≤ p) (h1 : p < (v : Int) + n) (h2 : 0 ≤ q) (h3 : q < (v : Int) + n) (e : π p = π q) : p = q := by
  by_cases hp : p < v <;> by_cases hq : q < v
  · exact R.inj p q h0 hp h2 hq e
  · have := R.lo p h0 hp
    rw [R.hi q (by omega) h3] at e
    omega
  · have := R.lo q h2 hq
    rw [R.hi p (by omega) h1] at e
    omega
  · rw [R.hi p (by omega) h1, R.hi q (by omega) h3] at e
    exact e
theorem Ren.onto' (R : Ren n v π) {q : Int} (h0 : 0 ≤ q) (h1 : q < (v : Int) + n) : ∃ p, 0 ≤ p ∧ p < (v : Int) + n ∧ π p = q := by
  by_cases h : q < v
  · obtain ⟨p, a, b, c⟩ := R.onto q h0 h
    exact ⟨p, a, by omega, c⟩
  · exact ⟨q, h0, h1, R.hi q (by omega) h1⟩
theorem Ren.map_nd (R : Ren n v π) {l : List Int} (nd : l.Nodup) (hb : ∀ p ∈ l, 0 ≤ p ∧ p < (v : Int) + n) : (l.map π).Nodup := by
  unfold List.Nodup
  rw [List.pairwise_map, List.pairwise_iff_getElem]
  intro i j hi hj hij e
  have h1 := hb _ (List.getElem_mem hi)
  have h2 := hb _ (List.getElem_mem hj)
  exact List.pairwise_iff_getElem.mp nd i j hi hj hij (R.inj' h1.1 h1.2 h2.1 h2.2 e)
theorem Ren.ord (R : Ren n v π) (O : Ord os n v) : Ord (os.map fun o => o.map π) n v := by
  refine ⟨by rw [List.length_map, O.len], O.n1, O.n4, O.v1, O.v8, O.nv, fun o' ho => ?_⟩
  obtain ⟨o, ho2, rfl⟩ := List.mem_map.mp ho
  have hm : ∀ p : Int, p ∈ o ↔ 0 ≤ p ∧ p < v := fun p => O.mem (p := p) ho2
  have hb : ∀ p ∈ o, 0 ≤ p ∧ p < (v : Int) + n := fun p hp => by have := (hm p).mp hp; omega
  refine srt_of (perm_nd (R.map_nd (O.nd ho2) hb) (rgI_nd _ _) fun q => ?_)
  rw [List.mem_map, mem_rgI]
  constructor
  · rintro ⟨p, hp, rfl⟩
    have := (hm p).mp hp
    exact R.lo p this.1 this.2
  · rintro ⟨h1, h2⟩
    obtain ⟨p, a, b, c⟩ := R.onto q h1 h2
    exact ⟨p, (hm p).mpr ⟨a, b⟩, c⟩
theorem Ren.frows (R : Ren n v π) (O : Ord os n v) : frows (os.map fun o => o.map π) n v = (frows os n v).map fun row => row.map π := by
  unfold DL.frows
  rw [List.map_map]
  refine List.map_congr_left fun i hi => ?_
  have hi := List.mem_range.mp hi
  show frow n v i _ = (frow n v i (os.getD i [])).map π
  unfold frow
  rw [List.map_cons, List.map_append]
  have e1 : (os.map fun o => o.map π).getD i [] = (os.getD i []).map π := by
    rw [List.getD_eq_getElem?_getD, List.getElem?_map, List.getD_eq_getElem?_getD, List.getElem?_eq_getElem (by rw [O.len]; exact hi)]
    rfl
  rw [e1, R.hi _ (by omega) (by omega)]
  congr 2
  exact (map_id_of fun p hp => by
    obtain ⟨k, hk, _, rfl⟩ := mem_others.mp hp
    exact R.hi _ (by omega) (by omega)).symm
theorem ixOf_map {l : List Int} {p : Int} (h : ∀ q ∈ l, π q = π p → q = p) : ixOf (π p) (l.map π) = ixOf p l := by
  induction l with
  | nil => rfl
  | cons a l ih =>
    rw [List.map_cons]
    show (if π a = π p then 0 else ixOf (π p) (l.map π) + 1) = (if a = p then 0 else ixOf p l + 1)
    by_cases e : a = p
    · rw [if_pos e, if_pos (by rw [e])]
    · rw [if_neg e, if_neg fun q => e (h a List.mem_cons_self q), ih fun q hq => h q (List.mem_cons_of_mem _ hq)]
theorem Ren.pos (R : Ren n v π) (O : Ord os n v) {i : Nat} (hi : i < n) {p : Int} (h0 : 0 ≤ p) (h1 : p < (v : Int) + n) : posO (os.map fun o => o.map π) n v i (π p) = posO os n v i p := by
  unfold posO
  rw [R.frows O]
  have e : ((DL.frows os n v).map fun row => row.map π).getD i [] = ((DL.frows os n v).getD i []).map π := by
    rw [List.getD_eq_getElem?_getD, List.getElem?_map, List.getD_eq_getElem?_getD, List.getElem?_eq_getElem (by rw [frows_len]; exact hi)]
    rfl
  rw [e]
  refine ixOf_map fun q hq e => ?_
  rw [frows_get os hi, O.row_mem hi] at hq
  exact R.inj' hq.1 hq.2 h0 h1 e
def ren (π : Int → Int) (r : List Int) : List Int := sortI (r.map π)
theorem Ren.rom (R : Ren n v π) {r : List Int} (h : Rom n v r) : Rom n v (ren π r) ∧ Asc (ren π r) ∧ ∀ q, q ∈ ren π r ↔ ∃ p, p ∈ r ∧ π p = q := by
  have nd := R.map_nd h.nd h.bd
  have ha := sortI_asc nd
  have hm : ∀ q, q ∈ ren π r ↔ ∃ p, p ∈ r ∧ π p = q := fun q => by
    unfold ren
    rw [mem_sortI, List.mem_map]
  refine ⟨⟨?_, ha.nd, fun q hq => ?_⟩, ha, hm⟩
  · unfold ren
    rw [sortI_len, List.length_map, h.len]
  · obtain ⟨p, hp, rfl⟩ := (hm q).mp hq
    have := h.bd p hp
    exact R.bd this.1 this.2
theorem Ren.ub (R : Ren n v π) (O : Ord os n v) {r : List Int} (h : Rom n v r) : Ub n v (posO (os.map fun o => o.map π) n v) (mO (os.map fun o => o.map π) n v) (ren π r) ↔ Ub n v (posO os n v) (mO os n v) r := by
  obtain ⟨h1, h2, h3⟩ := R.rom h
  have A := O.ab
  have A' := (R.ord O).ab
  have hne : r ≠ [] := fun e => by
    have := h.len
    rw [e] at this
    have := O.n1
    simp at *
    omega
  have hm : ∀ i, i < n → mO (os.map fun o => o.map π) n v i (ren π r) = π (mO os n v i r) := fun i hi => by
    obtain ⟨a, b⟩ := A.mn i hi r hne h.bd
    have hb := h.bd _ a
    refine A'.is hi h1.bd ((h3 _).mpr ⟨_, a, rfl⟩) fun q hq => ?_
    obtain ⟨p, hp, rfl⟩ := (h3 q).mp hq
    have hb2 := h.bd p hp
    rw [R.pos O hi hb.1 hb.2, R.pos O hi hb2.1 hb2.2]
    exact b p hp
  have hb : ∀ i, i < n → 0 ≤ mO os n v i r ∧ mO os n v i r < (v : Int) + n := fun i hi => h.bd _ (A.mn i hi r hne h.bd).1
  unfold Ub Bt
  constructor
  · rintro hu p ⟨p0, p1, p2⟩
    have := R.bd p0 p1
    refine hu (π p) ⟨this.1, this.2, fun i hi => ?_⟩
    rw [hm i hi, R.pos O hi (hb i hi).1 (hb i hi).2, R.pos O hi p0 p1]
    exact p2 i hi
  · rintro hu q ⟨q0, q1, q2⟩
    obtain ⟨p, p0, p1, rfl⟩ := R.onto' q0 q1
    refine hu p ⟨p0, p1, fun i hi => ?_⟩
    have := q2 i hi
    rwa [hm i hi, R.pos O hi (hb i hi).1 (hb i hi).2, R.pos O hi p0 p1] at this
theorem Ren.unb (R : Ren n v π) (O : Ord os n v) : ((DL.unb os n v).map (ren π)).Perm (DL.unb (os.map fun o => o.map π) n v) := by
  refine perm_nd ?_ unb_nd fun q => ?_
  · unfold List.Nodup
    rw [List.pairwise_map]
    have h := (unb_nd (os := os) (n := n) (v := v))
    rw [List.pairwise_iff_getElem]
    intro i j hi hj hij e
    have h1 := O.mem_unb.mp (List.getElem_mem hi)
    have h2 := O.mem_unb.mp (List.getElem_mem hj)
    refine List.pairwise_iff_getElem.mp h i j hi hj hij (asc_ext h1.2.1 h2.2.1 fun p => ?_)
    have m1 := (R.rom h1.1).2.2 (π p)
    have m2 := (R.rom h2.1).2.2 (π p)
    rw [e] at m1
    constructor
    · intro hp
      have hb := h1.1.bd p hp
      obtain ⟨p', hp', e'⟩ := m2.mp (m1.mpr ⟨p, hp, rfl⟩)
      have hb' := h2.1.bd p' hp'
      rw [← R.inj' hb'.1 hb'.2 hb.1 hb.2 e']
      exact hp'
    · intro hp
      have hb := h2.1.bd p hp
      obtain ⟨p', hp', e'⟩ := m1.mp (m2.mpr ⟨p, hp, rfl⟩)
      have hb' := h1.1.bd p' hp'
      rw [← R.inj' hb'.1 hb'.2 hb.1 hb.2 e']
      exact hp'
  · rw [List.mem_map, (R.ord O).mem_unb]
    constructor
    · rintro ⟨r, hr, rfl⟩
      obtain ⟨a, b, c⟩ := O.mem_unb.mp hr
      exact ⟨(R.rom a).1, (R.rom a).2.1, (R.ub O a).mpr c⟩
    · rintro ⟨a, b, c⟩
      have ha : Asc ((rgI 0 ((v : Int) + n)).filter fun p => decide (π p ∈ q)) := List.Pairwise.filter _ (rgI_asc _ _)
      have hm : ∀ p, p ∈ ((rgI 0 ((v : Int) + n)).filter fun p => decide (π p ∈ q)) ↔ (0 ≤ p ∧ p < (v : Int) + n) ∧ π p ∈ q := fun p => by
        rw [List.mem_filter, mem_rgI, decide_eq_true_iff]
      have hb : ∀ p ∈ ((rgI 0 ((v : Int) + n)).filter fun p => decide (π p ∈ q)), 0 ≤ p ∧ p < (v : Int) + n := fun p hp => ((hm p).mp hp).1
      have hp : (((rgI 0 ((v : Int) + n)).filter fun p => decide (π p ∈ q)).map π).Perm q := perm_nd (R.map_nd ha.nd hb) a.nd fun x => by
        rw [List.mem_map]
        constructor
        · rintro ⟨p, hp, rfl⟩
          exact ((hm p).mp hp).2
        · intro hx
          have hxb := a.bd x hx
          obtain ⟨p, p0, p1, rfl⟩ := R.onto' hxb.1 hxb.2
          exact ⟨p, (hm p).mpr ⟨⟨p0, p1⟩, hx⟩, rfl⟩
      have hrom : Rom n v ((rgI 0 ((v : Int) + n)).filter fun p => decide (π p ∈ q)) := ⟨by
        have := hp.length_eq
        rw [List.length_map] at this
        rw [this, a.len], ha.nd, hb⟩
      have e : ren π ((rgI 0 ((v : Int) + n)).filter fun p => decide (π p ∈ q)) = q := by
        unfold ren
        rw [sortI_perm (hp.nodup_iff.mpr a.nd) hp, asc_sort b]
      refine ⟨_, O.mem_unb.mpr ⟨hrom, ha, ?_⟩, e⟩
      rw [← R.ub O hrom, e]
      exact c
/-- the images of the law -/
def img (im : List Int) (p : Int) : Int := im.getD p.toNat 0
theorem img_ren {im : List Int} (h : im.Perm (rgI 0 v)) : Ren n v (img (im ++ ownP n v)) := by
  have hl : im.length = v := by
    rw [h.length_eq]
    unfold rgI
    rw [List.length_map, List.length_range]
    omega
  have nd : im.Nodup := h.nodup_iff.mpr (rgI_nd _ _)
  have hlo : ∀ p : Int, 0 ≤ p → p < v → im[p.toNat]? = some (img (im ++ ownP n v) p) := fun p h0 h1 => by
    unfold img
    have hlt : p.toNat < im.length := by omega
    rw [List.getD_eq_getElem?_getD, List.getElem?_append_left hlt, List.getElem?_eq_getElem hlt]
    rfl
  refine ⟨fun p h0 h1 => ?_, fun p h0 h1 => ?_, fun p q h0 h1 h2 h3 e => ?_, fun q h0 h1 => ?_⟩
  · have := h.mem_iff.mp (List.mem_of_getElem? (hlo p h0 h1))
    exact mem_rgI.mp this
  · unfold img
    rw [List.getD_eq_getElem?_getD, List.getElem?_append_right (by omega), hl]
    unfold ownP rgI
    rw [List.getElem?_map, List.getElem?_range (by omega)]
    show (v : Int) + ((p.toNat - v : Nat) : Int) = p
    omega
  · have a := hlo p h0 h1
    have b := hlo q h2 h3
    rw [← e] at b
    have := ixOf_nd nd a
    have := ixOf_nd nd b
    omega
  · have hm := h.mem_iff.mpr (mem_rgI.mpr ⟨h0, h1⟩)
    obtain ⟨k, hk⟩ := List.mem_iff_getElem?.mp hm
    have hkl := (List.getElem?_eq_some_iff.mp hk).1
    have := hlo k (by omega) (by omega)
    rw [Int.toNat_natCast, hk] at this
    exact ⟨k, by omega, by omega, (Option.some.inj this).symm⟩
end
end DL

set_option Elab.async false
set_option linter.all false
set_option maxRecDepth 100000
set_option maxHeartbeats 4000000
namespace DL
open PySem L2 PySem.W
local macro_rules | `(tactic| walk_at "evd") => `(tactic| first
  | with_reducible exact evd_int
  | with_reducible exact evd_str
  | with_reducible exact evd_bl
  | with_reducible exact evd_non
  | ((with_reducible apply evd_var); rfl)
  | walk_at "evn"
  | ((with_reducible apply EvN.ev); walk_at "evn")
  | ((with_reducible apply evd_op) <;> (try walk_at "evd"))
  | ((with_reducible apply evd_un) <;> (try walk_at "evd"))
  | ((with_reducible apply evb_test) <;> (try walk_at "evd"))
  | ((with_reducible apply evb_B) <;> (try walk_at "evd"))
  | with_reducible exact evb_yes
  | ((with_reducible apply evb_not) <;> (try walk_at "evd"))
  | ((with_reducible apply evb_and) <;> (try walk_at "evd"))
  | ((with_reducible apply evb_or) <;> (try walk_at "evd"))
  | ((with_reducible apply evd_andV) <;> (try walk_at "evd"))
  | ((with_reducible apply evd_orV) <;> (try walk_at "evd"))
  | ((with_reducible apply evd_notV) <;> (try walk_at "evd"))
  | ((with_reducible apply evd_chain) <;> (try walk_at "evd"))
  | walk_at "evd2")
local macro_rules | `(tactic| walk_at "evn") => `(tactic| first
  | ((with_reducible apply evn_cat) <;> (try walk_at "evd"))
  | ((with_reducible apply evn_lst) <;> (try walk_at "evd"))
  | ((with_reducible apply evn_slL) <;> (try walk_at "evd"))
  | ((with_reducible apply evn_lc) <;> (try walk_at "evd"))
  | ((with_reducible apply evn_listRg) <;> (try walk_at "evd"))
  | ((with_reducible apply evn_revL) <;> (try walk_at "evd"))
  | focus ((with_reducible apply evn_keysE); (rfl); (all_goals (try walk_at "evd")))
  | focus ((with_reducible apply evn_cb (r := rSrtI _)); (focus walk_at "evd"); (all_goals (try walk_at "rc")))
  | focus ((with_reducible apply evn_cb (r := rSrtR _)); (focus walk_at "evd"); (all_goals (try walk_at "rc")))
  | focus ((with_reducible apply evn_cb (r := rSrtP _)); (focus walk_at "evd"); (all_goals (try walk_at "rc")))
  | focus ((with_reducible apply evn_cb (r := rSrtD _)); (focus walk_at "evd"); (all_goals (try walk_at "rc")))
  | focus ((with_reducible apply evn_cb (r := rListOf _)); (focus walk_at "evd"); (all_goals (try walk_at "rc"))))
local macro_rules | `(tactic| walk_at "evd2") => `(tactic| first
  | ((with_reducible apply evd_tupL) <;> (try walk_at "evd"))
  | ((with_reducible apply evd_tupF) <;> (try walk_at "evd"))
  | ((with_reducible apply evd_tup) <;> (try walk_at "evd"))
  | with_reducible exact eva_nil
  | ((with_reducible apply eva_cons) <;> (try walk_at "evd"))
  | with_reducible exact evp_none
  | ((with_reducible apply evp_some) <;> (try walk_at "evd"))
  | focus ((with_reducible apply evd_slT); (focus walk_at "evd"); (all_goals (try walk_at "evd")))
  | focus ((with_reducible apply evd_slU); (focus walk_at "evd"); (all_goals (try walk_at "evd")))
  | exact gd_name
  | exact gd_two
  | ((with_reducible apply iv_list) <;> (try walk_at "evd"))
  | focus ((with_reducible apply iv_tup); walk_at "evd")
  | focus ((with_reducible apply iv_ftu); walk_at "evd")
  | ((with_reducible apply iv_enumQ) <;> (try walk_at "evd"))
  | ((with_reducible apply iv_rng1) <;> (try walk_at "evd"))
  | ((with_reducible apply iv_rng2) <;> (try walk_at "evd"))
  | ((with_reducible apply iv_enum) <;> (try walk_at "evd"))
  | ((with_reducible apply evd_tupRg) <;> (try walk_at "evd"))
  | ((with_reducible apply evr_1) <;> (try walk_at "evd"))
  | ((with_reducible apply evr_2) <;> (try walk_at "evd"))
  | focus ((with_reducible apply evd_call); (focus walk_at "evd"); (all_goals (try walk_at "rel")))
  | ((with_reducible apply evd_lenSet) <;> (try walk_at "evd"))
  | walk_at "evd3"
  | ((with_reducible apply evd_tix) <;> (try walk_at "evd"))
  | focus ((with_reducible apply evd_bmL); (focus walk_at "evd"); (all_goals (try walk_at "evd")))
  | focus ((with_reducible apply evd_cb); (focus walk_at "evd"); (all_goals (try walk_at "rc")))
  | walk_at "rc"
  | (intro _; walk_at "evd"))
local macro_rules | `(tactic| walk_at "evd3") => `(tactic| first
  | focus ((with_reducible apply evd_fld); (focus walk_at "evd"); (all_goals (try first | rfl | assumption | walk_at "fact")))
  | focus ((with_reducible apply evd_make); (focus walk_at "evd"); (all_goals (try walk_at "rel")))
  | focus ((with_reducible apply evd_meth); (focus walk_at "evd"); (focus walk_at "evd"); (all_goals (try first | rfl | walk_at "rel")))
  | focus ((with_reducible apply evd_prop); (focus walk_at "evd"); (all_goals (try walk_at "rel")))
  | focus ((with_reducible apply evd_spc); (focus walk_at "evd"); (all_goals (try walk_at "rel")))
  | focus ((with_reducible apply evd_isiO); (focus walk_at "evd"); (all_goals (try walk_at "fact")))
  | focus ((with_reducible apply evd_isi); (focus walk_at "evd"); (all_goals (try first | rfl | decide +kernel)))
  | ((with_reducible apply evd_cval) <;> (try walk_at "fact"))
  | focus ((with_reducible apply evd_inME); (rfl); (all_goals (try walk_at "evd")))
  | focus ((with_reducible apply evd_get2I); (rfl); (all_goals (try walk_at "evd")))
  | focus ((with_reducible apply evd_get2R); (rfl); (all_goals (try walk_at "evd")))
  | focus ((with_reducible apply evd_getME); (rfl); (all_goals (try walk_at "evd")))
  | focus ((with_reducible apply evd_getLI); (focus walk_at "evd"); (all_goals (try walk_at "evd")))
  | focus ((with_reducible apply evd_getDI); (focus walk_at "evd"); (all_goals (try walk_at "evd")))
  | focus ((with_reducible apply evd_getDR); (focus walk_at "evd"); (all_goals (try walk_at "evd")))
  | focus ((with_reducible apply evd_getLE); (focus walk_at "evd"); (all_goals (try walk_at "evd")))
  | focus ((with_reducible apply evd_getDE); (focus walk_at "evd"); (all_goals (try walk_at "evd")))
  | ((with_reducible apply evm_new)))
local macro_rules | `(tactic| walk_at "rc") => `(tactic| first
  | with_reducible apply rv_add
  | with_reducible apply rv_sub
  | with_reducible apply rv_cmp
  | with_reducible apply ru_neg
  | with_reducible apply rv_eqI
  | with_reducible apply rv_neI
  | with_reducible apply rv_eqS
  | with_reducible apply rv_neS
  | with_reducible apply rv_inT
  | with_reducible apply rv_inL
  | with_reducible apply rv_notInT
  | with_reducible apply rv_notInL
  | with_reducible apply rc_lenL
  | with_reducible apply rc_lenT
  | with_reducible apply rc_lenF
  | with_reducible apply rc_lenA
  | with_reducible apply rc_lenU
  | with_reducible apply rn_srtIL
  | with_reducible apply rn_srtIT
  | with_reducible apply rn_srtIA
  | with_reducible apply rn_srtP
  | with_reducible apply rn_srtR
  | with_reducible apply rn_srtDE
  | with_reducible apply rn_listL
  | with_reducible apply rn_listT
  | with_reducible apply rn_listA
  | with_reducible apply rc_abs
  | with_reducible apply rc_sum
  | with_reducible apply rc_int
  | walk_at "rc2")
local macro_rules | `(tactic| walk_at "rc2") => `(tactic| first
  | with_reducible apply rv_ixT0I
  | with_reducible apply rv_ixTZI
  | with_reducible apply rv_ixU0I
  | with_reducible apply rv_ixUZI
  | with_reducible apply rv_ixL0I
  | with_reducible apply rv_ixLZI
  | with_reducible apply rv_ixF0I
  | with_reducible apply rv_ixFZI
  | with_reducible apply rv_ixL0R
  | with_reducible apply rv_ixTR
  | with_reducible apply rv_ixL0L
  | with_reducible apply rv_ixTL
  | with_reducible apply rv_ixL0U
  | with_reducible apply rv_ixTU
  | with_reducible apply rv_ixQ
  | with_reducible apply rv_ixQ0
  | with_reducible apply rv_ixQZ
  | with_reducible apply rv_ix20
  | with_reducible apply rv_ix21
  | with_reducible apply rv_ixTI
  | with_reducible apply rv_ixUI
  | with_reducible apply rv_ixLI
  | with_reducible apply rv_ixFI
  | with_reducible apply rv_ixLR
  | with_reducible apply rv_ixLL
  | with_reducible apply rv_ixLU
  | with_reducible apply rv_mul
  | with_reducible apply rv_fdiv
  | with_reducible apply rv_mod
  | with_reducible apply rv_pow
  | with_reducible apply rv_ixL
  | with_reducible apply rv_ixF
  | with_reducible apply rv_ixT
  | with_reducible apply rv_ixU
  | with_reducible apply rv_ixA
  | with_reducible apply rv_catT
  | with_reducible apply rv_eqTI
  | with_reducible apply rv_neTI
  | with_reducible apply rv_eqLI
  | with_reducible apply rv_neLI
  | with_reducible apply rv_eqTR
  | with_reducible apply rv_inLR
  | with_reducible apply rv_notInLR
  | with_reducible apply rm_lix
  | with_reducible apply rn_srtIL'
  | with_reducible apply rn_srtR'
  | with_reducible apply rn_srtP'
  | with_reducible apply rv_inT'
  | with_reducible apply rv_inL'
  | with_reducible apply rv_notInT'
  | with_reducible apply rv_notInL'
  | with_reducible apply rc_sum'
  | with_reducible apply rc_min'
  | with_reducible apply rm_lix')
local macro_rules | `(tactic| walk_at "bnd") => `(tactic| first
  | omega
  | exact map_snoc
  | exact map_cat
  | ((have hszl := szl); (simp only [List.length_map, List.length_range, List.length_append, List.length_cons, List.length_nil, List.length_take, List.length_drop, Int.toNat_natCast, Nat.add_zero, Nat.zero_add, Int.natCast_add, Int.natCast_one] at *); omega)
  | ((simp only [List.length_map]); (refine Nat.le_trans (Nat.add_le_add_right (List.length_filter_le _ _) _) ?_); walk_at "bnd"))

section
variable {P : Program} {w : World} {K : Fr} {mg : Str → Option Value} {base : Heap} {CB CC CN CM : Addr}
def R_lbook (ds : List D) (d : D) : Prop := ∃ (b : Bool) (os : List (List Int)) (n v : Nat) (N : Int) (whole : List (List Int)) (terms : List (List Int × Int)), Ord os n v ∧ N = (v : Int) + n ∧ BkOk os n v whole terms ∧ ds = [ordD b os, .int N, .int (n : Nat), dRs whole, dTs terms] ∧ d = .bl true
theorem r_ub {b : Bool} {os : List (List Int)} {n v : Nat} {whole : List (List Int)} {terms : List (List Int × Int)} (O : Ord os n v) (U : BkOk os n v whole terms) : R_unbeaten_book CB [ordD b os] (.obj CB (bookF ((v : Int) + n) n whole)) := ⟨b, os, n, v, O, U.nd, rfl, by rw [U.eq]⟩
theorem r_uc {b : Bool} {os : List (List Int)} {n v : Nat} {whole : List (List Int)} {terms : List (List Int × Int)} (O : Ord os n v) (U : BkOk os n v whole terms) : R_unbeaten_chain CC [ordD b os] (.obj CC (chainF ((v : Int) + n) n terms)) := ⟨b, os, n, v, O, U.lnd, rfl, by rw [U.ch]⟩
theorem sm_rows {q : Nat} {rs : List (List Int)} (hl : rs.length ≤ 1000000) (h : ∀ r ∈ rs, r.length ≤ 1000000) : Sm (q + 1 + 1) (.tup (rs.map dR)) (.tup (rs.map dR)) := sm_same (by rw [List.length_map]; exact hl) fun d hd => by
  obtain ⟨r, hr, rfl⟩ := List.mem_map.mp hd
  exact sm_row (h r hr)
theorem sm_terms {q : Nat} {ts : List (List Int × Int)} (hl : ts.length ≤ 1000000) (h : ∀ t ∈ ts, t.1.length ≤ 1000000) : Sm (q + 1 + 1 + 1) (.tup (ts.map dT)) (.tup (ts.map dT)) := sm_same (by rw [List.length_map]; exact hl) fun d hd => by
  obtain ⟨t, ht, rfl⟩ := List.mem_map.mp hd
  refine sm_same (show 2 ≤ 1000000 by decide) fun d hd => ?_
  rcases List.mem_cons.mp hd with e | hd
  · rw [e]; exact sm_row (h t ht)
  · rw [List.mem_singleton.mp hd]; exact .int _ _
theorem sm_3 {q : Nat} {a b : Int} {d : D} (h : Sm q d d) : Sm (q + 1) (.tup [.int a, .int b, d]) (.tup [.int a, .int b, d]) := sm_same (show 3 ≤ 1000000 by decide) fun x hx => by
  rcases List.mem_cons.mp hx with e | hx
  · rw [e]; exact .int _ _
  rcases List.mem_cons.mp hx with e | hx
  · rw [e]; exact .int _ _
  · rw [List.mem_singleton.mp hx]; exact h
local macro_rules | `(tactic| walk_at "rel") => `(tactic| first | assumption | with_reducible apply r_boundary | with_reducible apply r_odd_book | with_reducible exact r_Chain_len)
local macro_rules | `(tactic| walk_at "fact") => `(tactic| first | exact Zs.cB (by assumption) | exact Zs.cC (by assumption) | exact Zs.nB (by assumption) _ (by simp) | exact Zs.nC (by assumption) _ (by simp))
theorem sc__law_book_right : FnScope ["_law_orders_here", "_law_n", "_law_d", "_law_whole", "_law_terms_here", "_law_book", "_law_chain"] ["_law_orders_here", "_law_n", "_law_d", "_law_whole", "_law_terms_here"] (defScope s__law_book_right) := ⟨rfl, rfl, rfl, by decide +kernel, rfl, by decide +kernel, by decide +kernel⟩
theorem ok_lbook (T : At K mg "_law_book_right" s__law_book_right ["_law_orders_here", "_law_n", "_law_d", "_law_whole", "_law_terms_here"]) (B : Bi mg) (Z : Zs K mg CB CC) (G__law_same : Has P w K mg base CX0 "_law_same" 6 ["_law_actual", "_law_due"] (spD K (R_lsame 5)))
    (G_unbeaten_book : Has P w K mg base CX0 "unbeaten_book" 8 ["orders"] (spD K (R_unbeaten_book CB))) (G_unbeaten_chain : Has P w K mg base CX0 "unbeaten_chain" 8 ["orders"] (spD K (R_unbeaten_chain CC))) (G_is_signed : Has P w K mg base CX0 "is_signed" 5 ["chain"] (spD K (R_is_signed CC)))
    (G_Book_is_two_each : HasP P w K mg base CB "is_two_each" 3 (spD K (R_is_even CB))) (G_Book_is_even : HasP P w K mg base CB "is_even" 4 (spD K (R_is_even CB))) (G_Chain_boundary : HasM P w K mg base CC "boundary" 4 (spD K (R_boundary CC))) (G_Chain_odd_book : HasM P w K mg base CC "odd_book" 4 (spD K (R_odd_book CB CC)))
    (G_Chain___len__ : HasS P w K mg base CC "__len__" 1 (spD K (R_Chain_len CC))) (G_Book___eq__ : HasS P w K mg base CB "__eq__" 1 (spD K (R_Book_eq CB))) :
    Has P w K mg base CX0 "_law_book_right" 9 ["_law_orders_here", "_law_n", "_law_d", "_law_whole", "_law_terms_here"] (spD K R_lbook) := by
  refine ok_H T sc__law_book_right (fun ds d h => by obtain ⟨_, _, _, _, _, _, _, _, _, _, rfl, _⟩ := h; rfl) (fun f cdv A outer s H E hr => ⟨_, (pss_cons (ps_set (i := 5) sc__law_book_right.nd rfl (by first | exact Or.inl rfl | exact Or.inr rfl) (pe_callH G_unbeaten_book hr (by decide) rfl (pa_cons (pv 0) pa_nil)))
        (pss_cons (ps_if (pt_not (pt_val (pe_callH G__law_same hr (by decide) rfl (pa_cons (pe_tup (pa_cons (pe_fldK K (pv 5)) (pa_cons (pe_fldK K (pv 5)) (pa_cons (pe_fldK K (pv 5)) pa_nil)))) (pa_cons (pe_tup (pa_cons (pv 1) (pa_cons (pv 2) (pa_cons (pe_tupleK K rfl B.tuple (pv 3)) pa_nil)))) pa_nil))))) (pss_one (ps_ret (pe_bl))) (pss_nil))
        (pss_cons (ps_if (pt_not (pt_val (pe_callH G__law_same hr (by decide) rfl (pa_cons (pe_tup (pa_cons (pe_propH G_Book_is_two_each hr (by decide) (pv 5)) (pa_cons (pe_propH G_Book_is_even hr (by decide) (pv 5)) pa_nil))) (pa_cons (pe_tup (pa_cons (pe_bl) (pa_cons (pe_bl) pa_nil))) pa_nil))))) (pss_one (ps_ret (pe_bl))) (pss_nil))
        (pss_cons (ps_set (i := 6) sc__law_book_right.nd rfl (by first | exact Or.inl rfl | exact Or.inr rfl) (pe_callH G_unbeaten_chain hr (by decide) rfl (pa_cons (pv 0) pa_nil)))
        (pss_cons (ps_if (pt_not (pt_val (pe_callH G__law_same hr (by decide) rfl (pa_cons (pe_tup (pa_cons (pe_fldK K (pv 6)) (pa_cons (pe_fldK K (pv 6)) (pa_cons (pe_fldK K (pv 6)) pa_nil)))) (pa_cons (pe_tup (pa_cons (pv 1) (pa_cons (pv 2) (pa_cons (pe_tupleK K rfl B.tuple (pv 4)) pa_nil)))) pa_nil))))) (pss_one (ps_ret (pe_bl))) (pss_nil))
        (pss_cons (ps_if (PW.pt (pw_or (pt_not (pt_val (pe_callH G__law_same hr (by decide) rfl (pa_cons (pe_callH G_is_signed hr (by decide) rfl (pa_cons (pv 6) pa_nil)) (pa_cons (pe_bl) pa_nil))))) (pw_or1 (pt_not (pt_val (pe_callH G__law_same hr (by decide) rfl (pa_cons (pe_lenO G_Chain___len__ hr (by decide) rfl B.len (pe_methH G_Chain_boundary hr (by decide) (pv 6))) (pa_cons (pe_int) pa_nil)))))))) (pss_one (ps_ret (pe_bl))) (pss_nil))
        (pss_one (ps_ret (pe_cmpR (op_eqO G_Book___eq__ hr (by decide)) (pe_methH G_Chain_odd_book hr (by decide) (pv 6)) (pv 5) (nomark _)))))))))), ?_⟩)
  rintro ds d ⟨b, os, n, v, N, whole, terms, O, rfl, U, rfl, rfl⟩
  have h1 := O.n1
  have h4 := O.n4
  have h5 := O.v1
  have h6 := O.v8
  have h9 := O.nv
  have hl := U.len
  have hz := szl
  have hE : R_is_even CB [.obj CB (bookF ((v : Int) + n) n whole)] (.bl true) := r_is_even ⟨h1, hl, fun r hr => ⟨(U.good r hr).len, by omega⟩, U.two⟩
  have hG : ∀ t ∈ terms, Good ((v : Int) + n) n t.1 := U.tgood
  apply sd_seq
  apply sd_set
  · apply evd_call
    · walk_at "evd"
    · exact r_ub O U
  apply sd_seq
  apply sd_if (b := false)
  · refine evb_not (b := true) ?_
    apply evb_B
    apply evd_call (d := .bl true)
    · walk_at "evd"
      all_goals exact Nat.le_trans (show _ ≤ 3 from Nat.le_refl _) (by decide)
    · exact ⟨3, _, _, by omega, sm_3 (sm_rows (by omega) fun r hr => by have := (U.good r hr).few; omega), rfl, rfl⟩
  · intro c; cases c
  intro _
  apply sd_next
  apply sd_seq
  apply sd_if (b := false)
  · refine evb_not (b := true) ?_
    apply evb_B
    apply evd_call (d := .bl true)
    · walk_at "evd"
      all_goals exact Nat.le_trans (show _ ≤ 2 from Nat.le_refl _) (by decide)
    · exact ⟨1, .tup [.bl true, .bl true], .tup [.bl true, .bl true], by omega, sm_same (by decide) fun d hd => by
        rcases List.mem_cons.mp hd with e | hd
        · rw [e]; exact .bl _ _
        · rw [List.mem_singleton.mp hd]; exact .bl _ _, rfl, rfl⟩
  · intro c; cases c
  intro _
  apply sd_next
  apply sd_seq
  apply sd_set
  · apply evd_call
    · walk_at "evd"
    · exact r_uc O U
  apply sd_seq
  apply sd_if (b := false)
  · refine evb_not (b := true) ?_
    apply evb_B
    apply evd_call (d := .bl true)
    · walk_at "evd"
      all_goals exact Nat.le_trans (show _ ≤ 3 from Nat.le_refl _) (by decide)
    · exact ⟨4, _, _, by omega, sm_3 (sm_terms (by have := U.tlen; omega) fun t ht => by have := (hG t ht).few; omega), rfl, rfl⟩
  · intro c; cases c
  intro _
  apply sd_next
  apply sd_seq
  apply sd_if (b := false)
  · apply EvB.is (a := (!true || !true))
    · apply evb_or
      · refine evb_not (b := true) ?_
        apply evb_B
        apply evd_call (d := .bl true)
        · apply eva_cons
          · apply evd_call
            · walk_at "evd"
            · exact r_is_signed ⟨by omega, by omega, h1, U.tlen, U.blen, hG, U.abs, U.bd⟩
          · walk_at "evd"
        · exact ⟨0, .bl true, .bl true, by omega, .bl _ _, rfl, rfl⟩
      · intro _
        refine evb_not (b := true) ?_
        apply evb_B
        apply evd_call (d := .bl true)
        · apply eva_cons
          · refine evd_spc (fs := chainF ((v : Int) + n) (n - 1) (chT (bdT terms))) (n := ((chT (bdT terms)).length : Nat)) ?_ r_Chain_len ?_
            · walk_at "evd"
              exact ⟨by omega, by omega, h1, U.tlen, U.blen, hG⟩
            · intro _
              rw [U.bd]
              exact ⟨by decide, by decide⟩
          · walk_at "evd"
        · exact ⟨0, .int 0, .int 0, by omega, .int _ _, by rw [U.bd]; rfl, rfl⟩
    · rfl
  · intro c; cases c
  intro _
  apply sd_next
  apply sd_retE (p := Or.inl rfl)
  · apply evd_op
    · walk_at "evd"
      exact ⟨by omega, by omega, h1, by omega, U.tlen, hG, U.ond⟩
    · walk_at "evd"
    · rw [U.odd]
      exact rv_eqO r_Book_eq
  · rfl
end
end DL

set_option Elab.async false
set_option linter.all false
set_option maxRecDepth 100000
set_option maxHeartbeats 4000000
/-! DL18: t[::-1]. -/
namespace HT
open PySem PySem.Spec PyProof.Rows
section
variable {prog : Program} {w : World} {A : Around} {E : Value → Shared → Prop} {s : Shared}
theorem rev_adjust (n : Nat) : Builtin.Slice.sliceAdjust none none (-1) (n : Int) = ((n : Int) - 1, -1) := by
  unfold Builtin.Slice.sliceAdjust
  rfl
theorem rev_places (n : Nat) : Builtin.Slice.slicePlaces ((n : Int) - 1) (-1) (-1) = n := by
  unfold Builtin.Slice.slicePlaces
  have h1 : ¬ ((-1 : Int) > 0) := by omega
  have e : ((n : Int) - 1 - -1 - 1) / (- -1) = (n : Int) - 1 := by
    rw [show (- -1 : Int) = 1 by decide, Int.ediv_one]
    omega
  simp only [h1, if_false, e]
  split <;> omega
theorem sliceApplied_rev {sl : Addr} {vs : Value} {n : Nat} {Q : Int × Int × Nat → Shared → Prop} (hs : s.heap.IsSliceOf sl .none .none vs) (ps : IsPart vs (some (-1)))
    (h : Q ((n : Int) - 1, -1, n) s) : wpAny (model prog w) A (Builtin.Slice.sliceApplied (.ref sl) (pure (n : Int))) Q E s := by
  obtain ⟨os, hos, hcs, hds⟩ := id hs
  unfold Builtin.Slice.sliceApplied Builtin.Slice.sliceFields
  refine wpAny_bind (wpAny_bind (wpAny_field hos hds (x := .none) rfl (wpAny_bind (wpAny_field hos hds (x := .none) rfl (wpAny_bind (wpAny_field hos hds (x := vs) rfl (wpAny_pure ?_)))))))
  refine wpAny_bind (slicePart_ ps ?_)
  show wpAny _ _ (if ((-1 : Int) == 0) = true then _ else _) _ _ s
  rw [if_neg (by decide)]
  refine wpAny_bind (slicePart_none (wpAny_bind (slicePart_none (wpAny_bind (wpAny_pure ?_)))))
  show wpAny _ _ (match Builtin.Slice.sliceAdjust none none (-1) (n : Int) with | (lo, hi) => pure (lo, (-1 : Int), Builtin.Slice.slicePlaces lo hi (-1))) _ _ s
  rw [rev_adjust n]
  show wpAny _ _ (pure ((n : Int) - 1, (-1 : Int), Builtin.Slice.slicePlaces ((n : Int) - 1) (-1) (-1))) _ _ s
  rw [rev_places]
  exact wpAny_pure h
theorem pick_rev (xs : Array Value) : ((List.range xs.size).filterMap fun (m : Nat) => xs[((xs.size : Int) - 1 + (m : Int) * (-1)).toNat]?).toArray = xs.toList.reverse.toArray := by
  congr 1
  have e : ∀ (l : List Value) (k : Nat), k ≤ l.length → ((List.range k).filterMap fun (m : Nat) => l[((l.length : Int) - 1 + (m : Int) * (-1)).toNat]?) = l.reverse.take k := by
    intro l k
    induction k with
    | zero => intro _; rfl
    | succ k ih =>
      intro hk
      rw [List.range_succ, List.filterMap_append, ih (by omega), List.take_succ]
      congr 1
      have e1 : ((l.length : Int) - 1 + (k : Int) * (-1)).toNat = l.length - 1 - k := by omega
      rw [List.filterMap_cons, e1, List.getElem?_reverse (by omega)]
      cases l[l.length - 1 - k]? <;> rfl
  have := e xs.toList xs.size (by simp)
  rw [List.take_of_length_le (by simp)] at this
  rw [← this]
  simp
theorem getItem_tuple_rev {t sl : Addr} {items : Array Value} {vs : Value} {Q : Value → Shared → Prop} (ht : IsTup s.heap t items) (hs : s.heap.IsSliceOf sl .none .none vs) (ps : IsPart vs (some (-1)))
    (h : Q (.ref s.heap.objs.size) { s with heap := s.heap.push { cls := .type "tuple", data := .seq items.toList.reverse.toArray } })
    (hsz : items.size ≤ sizeLine) : wpAny (model prog w) A (getItem (.ref t) (.ref sl)) Q E s := by
  have htake : sizeOk (.seq items.toList.reverse.toArray) := by
    show items.toList.reverse.toArray.size ≤ sizeLine
    rw [List.size_toArray, List.length_reverse, Array.length_toList]
    omega
  obtain ⟨os, hos, hcs, hds⟩ := id hs
  have hTs : s.TypeIs (.ref sl) "slice" := ⟨os, hos, hcs⟩
  unfold getItem
  try with_reducible refine wpAny_holding ?_
  first | refine wpAny_bind (wpAny_pure ?_) | skip
  refine wpAny_bind (wpAny_sequenceKey ht.typeIs (by decide) ?_)
  refine wpAny_bind (wpAny_callSpecial?_slot (name := Str.ofString "__getitem__") ht.typeIs PyProof.Rows.slot_tuple_getitem
    (wpAny_call_entry PyProof.Rows.slot_tuple_getitem ht.typeIs entry_tuple_getitem ?_ (args_tuple_getitem _ _)))
  show wpAny _ _ (Builtin.Tuple.tupleItemsOf (.ref t) >>= _) _ _ s
  refine wpAny_bind (tupleItemsOf_ ht ?_)
  refine wpAny_bind (wpAny_typeOf hTs ?_)
  rw [if_pos (by decide)]
  refine wpAny_bind (sliceApplied_rev hs ps ?_)
  have hno : ¬ ((((items.size : Int) - 1) == 0 && (-1 : Int) == 1 && items.size == items.size) = true) := by
    intro q
    rw [Bool.and_eq_true, Bool.and_eq_true] at q
    have q1 : (-1 : Int) = 1 := eq_of_beq q.1.2
    omega
  show wpAny _ _ (if (((items.size : Int) - 1) == 0 && (-1 : Int) == 1 && items.size == items.size) = true then _ else _) _ _ s
  rw [if_neg hno, pick_rev]
  first
    | exact wpAny_bind (m := Builtin.Tuple.tupleExact _) (wpAny_newObj_type (wpAny_pure ⟨_, rfl, wpAny_pure h⟩) htake)
    | exact wpAny_bind (m := Builtin.Tuple.tupleExact _) (wpAny_newObj_type (wpAny_bind (wpAny_pure (wpAny_pure ⟨_, rfl, wpAny_pure h⟩))) htake)
    | exact wpAny_bind (wpAny_bind (m := Builtin.Tuple.tupleExact _) (wpAny_newObj_type (wpAny_pure (wpAny_pure ⟨_, rfl, wpAny_pure h⟩)) htake))
    | exact wpAny_bind (wpAny_bind (m := Builtin.Tuple.tupleExact _) (wpAny_newObj_type (wpAny_pure ⟨_, rfl, wpAny_pure h⟩) htake))
end
end HT
namespace DL
open PySem L2 PySem.Spec PyProof.Rows
def tRevT (K : Fr) (te : TE) : TE := fun σ H Q => te σ H fun x H1 => ∃ a xs, x = .ref a ∧ SqT K H1 a xs ∧ ∀ p, H1 p = none → Q (.ref p) (upd H1 p (.tup xs.reverse))
theorem pe_revTK (K : Fr) {X : Cx} {e : Expr} {te : TE} {k : Nat} {p1 p2 p3 pos : Pos} (he : PE X e te) (hK : X.K = K := by rfl) : PE X (.Subscript e (.Slice none none (some (.UnaryOp .USub (.Constant (.int 1) k p1) p2)) p3) pos) (tRevT K te) := by
  subst hK
  refine ⟨fun pins s σ H Q I h => ?_⟩
  refine Subscript_ (thn (he.run pins s σ H _ I h) fun v s1 ⟨x, H1, I1, r1, q1⟩ => ?_)
  obtain ⟨a, xs, ex, hx, q⟩ := q1
  subst ex
  cases r1
  have hst : PO X (some (.UnaryOp .USub (.Constant (.int 1) k p1) p2)) (tPart (tUn (rU fun i => .int (-i)) (tC (.int 1)))) := po_some (pe_un un_neg pe_int)
  refine wpAny_Slice (thn (po_none.run pins s1 σ H1 (fun o H2 => o = none ∧ H2 = H1) I1 ⟨rfl, rfl⟩) fun vl s2 ⟨l, H2, I2, pl, el, e2⟩ => ?_)
  subst el e2
  refine thn (po_none.run pins s2 σ H2 (fun o H3 => o = none ∧ H3 = H2) I2 ⟨rfl, rfl⟩) fun vu s3 ⟨u, H3, I3, pu, eu, e3⟩ => ?_
  subst eu e3
  refine thn (hst.run pins s3 σ H3 (fun o H4 => o = some (-1) ∧ H4 = H3) I3 ⟨1, rfl, -1, rfl, rfl, rfl⟩) fun vs s4 ⟨o, H4, I4, ps, eo, e4⟩ => ?_
  subst eo e4
  cases pl
  cases pu
  have I5 : Inv X pins σ H4 { s4 with heap := s4.heap.push { cls := .type "slice", data := .fields #[.none, .none, vs] } } := I4.kept (t' := s4.toks) fun b ob q => Heap.get?_push_of_some _ q
  obtain ⟨its, r, ht, hz⟩ := I5.tuple hx
  have hlen := r.length
  show wpAny (model X.prog X.w) X.A (subscriptTail e (.Slice none none (some (.UnaryOp .USub (.Constant (.int 1) k p1) p2)) p3) (.ref a) (.ref s4.heap.objs.size)) (EP X pins σ Q) X.xe { s4 with heap := s4.heap.push { cls := .type "slice", data := .fields #[.none, .none, vs] } }
  refine tail_any (ops := [.ref a, .ref s4.heap.objs.size]) ht.typeIs (PyProof.Rows.slot_tuple_getitem.lookup) ?_ (by with_unfolding_all rfl)
  refine HT.getItem_tuple_rev ht (Heap.IsSliceOf.new _ .none .none vs) ps ?_ (by rw [List.size_toArray]; omega)
  refine ⟨.ref _, _, I5.laid (t' := s4.toks) (o := .tup xs.reverse) (fun b ob q => Heap.get?_push_of_some _ q) (Nat.le_refl _) ?_, rfl, q _ (I5.hok.fresh (Nat.le_refl _))⟩
  exact ⟨by rw [List.length_reverse]; exact hz, _, r.reverse, IsTup.new _ _⟩
theorem evd_revT {K : Fr} {te : TE} {ρ : Env} {ds : List D} (h : EvD K te ρ (.tup ds)) : EvD K (tRevT K te) ρ (.tup ds.reverse) := .mk fun k Q q => h k _ fun v S1 H1 g1 r => by
  cases r with
  | tup h r => exact ⟨_, _, rfl, Or.inl (Or.inl (g1.sh _ _ h)), fun p hp => q _ _ _ (g1.trans (Gr.add g1.sh hp)) (.tup upd_same ((r.mono (Gr.add g1.sh hp).ss).rev))⟩
/-- is not None -/
theorem rv_isNotN {K : Fr} : RvD K (fun x y H Q => y = .non ∧ Q (.bl (!decide (x = .non))) H) .non .non (.bl false) := .mk fun {S H v1 v2} e r1 r2 Q q => by
  cases r1
  cases r2
  exact ⟨rfl, q _ _ _ (Gr.refl e) (.bl _)⟩
end DL

set_option Elab.async false
set_option linter.all false
set_option maxRecDepth 100000
set_option maxHeartbeats 4000000
namespace DL
open PySem L2 PySem.W
local macro_rules | `(tactic| walk_at "evd") => `(tactic| first
  | with_reducible exact evd_int
  | with_reducible exact evd_str
  | with_reducible exact evd_bl
  | with_reducible exact evd_non
  | ((with_reducible apply evd_var); rfl)
  | walk_at "evn"
  | ((with_reducible apply EvN.ev); walk_at "evn")
  | ((with_reducible apply evd_op) <;> (try walk_at "evd"))
  | ((with_reducible apply evd_un) <;> (try walk_at "evd"))
  | ((with_reducible apply evb_test) <;> (try walk_at "evd"))
  | ((with_reducible apply evb_B) <;> (try walk_at "evd"))
  | with_reducible exact evb_yes
  | ((with_reducible apply evb_not) <;> (try walk_at "evd"))
  | ((with_reducible apply evb_and) <;> (try walk_at "evd"))
  | ((with_reducible apply evb_or) <;> (try walk_at "evd"))
  | ((with_reducible apply evd_andV) <;> (try walk_at "evd"))
  | ((with_reducible apply evd_orV) <;> (try walk_at "evd"))
  | ((with_reducible apply evd_notV) <;> (try walk_at "evd"))
  | ((with_reducible apply evd_chain) <;> (try walk_at "evd"))
  | walk_at "evd2")
local macro_rules | `(tactic| walk_at "evn") => `(tactic| first
  | ((with_reducible apply evn_cat) <;> (try walk_at "evd"))
  | ((with_reducible apply evn_lst) <;> (try walk_at "evd"))
  | ((with_reducible apply evn_slL) <;> (try walk_at "evd"))
  | ((with_reducible apply evn_lc) <;> (try walk_at "evd"))
  | ((with_reducible apply evn_listRg) <;> (try walk_at "evd"))
  | ((with_reducible apply evn_revL) <;> (try walk_at "evd"))
  | focus ((with_reducible apply evn_keysE); (rfl); (all_goals (try walk_at "evd")))
  | focus ((with_reducible apply evn_cb (r := rSrtI _)); (focus walk_at "evd"); (all_goals (try walk_at "rc")))
  | focus ((with_reducible apply evn_cb (r := rSrtR _)); (focus walk_at "evd"); (all_goals (try walk_at "rc")))
  | focus ((with_reducible apply evn_cb (r := rSrtP _)); (focus walk_at "evd"); (all_goals (try walk_at "rc")))
  | focus ((with_reducible apply evn_cb (r := rSrtD _)); (focus walk_at "evd"); (all_goals (try walk_at "rc")))
  | focus ((with_reducible apply evn_cb (r := rListOf _)); (focus walk_at "evd"); (all_goals (try walk_at "rc"))))
local macro_rules | `(tactic| walk_at "evd2") => `(tactic| first
  | ((with_reducible apply evd_tupL) <;> (try walk_at "evd"))
  | ((with_reducible apply evd_tupF) <;> (try walk_at "evd"))
  | ((with_reducible apply evd_tup) <;> (try walk_at "evd"))
  | with_reducible exact eva_nil
  | ((with_reducible apply eva_cons) <;> (try walk_at "evd"))
  | with_reducible exact evp_none
  | ((with_reducible apply evp_some) <;> (try walk_at "evd"))
  | focus ((with_reducible apply evd_slT); (focus walk_at "evd"); (all_goals (try walk_at "evd")))
  | focus ((with_reducible apply evd_slU); (focus walk_at "evd"); (all_goals (try walk_at "evd")))
  | exact gd_name
  | exact gd_two
  | ((with_reducible apply iv_list) <;> (try walk_at "evd"))
  | focus ((with_reducible apply iv_tup); walk_at "evd")
  | focus ((with_reducible apply iv_ftu); walk_at "evd")
  | ((with_reducible apply iv_enumQ) <;> (try walk_at "evd"))
  | ((with_reducible apply iv_rng1) <;> (try walk_at "evd"))
  | ((with_reducible apply iv_rng2) <;> (try walk_at "evd"))
  | ((with_reducible apply iv_enum) <;> (try walk_at "evd"))
  | ((with_reducible apply evd_tupRg) <;> (try walk_at "evd"))
  | ((with_reducible apply evr_1) <;> (try walk_at "evd"))
  | ((with_reducible apply evr_2) <;> (try walk_at "evd"))
  | focus ((with_reducible apply evd_call); (focus walk_at "evd"); (all_goals (try walk_at "rel")))
  | ((with_reducible apply evd_lenSet) <;> (try walk_at "evd"))
  | walk_at "evd3"
  | ((with_reducible apply evd_tix) <;> (try walk_at "evd"))
  | focus ((with_reducible apply evd_bmL); (focus walk_at "evd"); (all_goals (try walk_at "evd")))
  | focus ((with_reducible apply evd_cb); (focus walk_at "evd"); (all_goals (try walk_at "rc")))
  | walk_at "rc"
  | (intro _; walk_at "evd"))
local macro_rules | `(tactic| walk_at "evd3") => `(tactic| first
  | focus ((with_reducible apply evd_fld); (focus walk_at "evd"); (all_goals (try first | rfl | assumption | walk_at "fact")))
  | focus ((with_reducible apply evd_make); (focus walk_at "evd"); (all_goals (try walk_at "rel")))
  | focus ((with_reducible apply evd_meth); (focus walk_at "evd"); (focus walk_at "evd"); (all_goals (try first | rfl | walk_at "rel")))
  | focus ((with_reducible apply evd_prop); (focus walk_at "evd"); (all_goals (try walk_at "rel")))
  | focus ((with_reducible apply evd_spc); (focus walk_at "evd"); (all_goals (try walk_at "rel")))
  | focus ((with_reducible apply evd_isiO); (focus walk_at "evd"); (all_goals (try walk_at "fact")))
  | focus ((with_reducible apply evd_isi); (focus walk_at "evd"); (all_goals (try first | rfl | decide +kernel)))
  | ((with_reducible apply evd_cval) <;> (try walk_at "fact"))
  | focus ((with_reducible apply evd_inME); (rfl); (all_goals (try walk_at "evd")))
  | focus ((with_reducible apply evd_get2I); (rfl); (all_goals (try walk_at "evd")))
  | focus ((with_reducible apply evd_get2R); (rfl); (all_goals (try walk_at "evd")))
  | focus ((with_reducible apply evd_getME); (rfl); (all_goals (try walk_at "evd")))
  | focus ((with_reducible apply evd_getLI); (focus walk_at "evd"); (all_goals (try walk_at "evd")))
  | focus ((with_reducible apply evd_getDI); (focus walk_at "evd"); (all_goals (try walk_at "evd")))
  | focus ((with_reducible apply evd_getDR); (focus walk_at "evd"); (all_goals (try walk_at "evd")))
  | focus ((with_reducible apply evd_getLE); (focus walk_at "evd"); (all_goals (try walk_at "evd")))
  | focus ((with_reducible apply evd_getDE); (focus walk_at "evd"); (all_goals (try walk_at "evd")))
  | ((with_reducible apply evm_new)))
local macro_rules | `(tactic| walk_at "rc") => `(tactic| first
  | with_reducible apply rv_add
  | with_reducible apply rv_sub
  | with_reducible apply rv_cmp
  | with_reducible apply ru_neg
  | with_reducible apply rv_eqI
  | with_reducible apply rv_neI
  | with_reducible apply rv_eqS
  | with_reducible apply rv_neS
  | with_reducible apply rv_inT
  | with_reducible apply rv_inL
  | with_reducible apply rv_notInT
  | with_reducible apply rv_notInL
  | with_reducible apply rc_lenL
  | with_reducible apply rc_lenT
  | with_reducible apply rc_lenF
  | with_reducible apply rc_lenA
  | with_reducible apply rc_lenU
  | with_reducible apply rn_srtIL
  | with_reducible apply rn_srtIT
  | with_reducible apply rn_srtIA
  | with_reducible apply rn_srtP
  | with_reducible apply rn_srtR
  | with_reducible apply rn_srtDE
  | with_reducible apply rn_listL
  | with_reducible apply rn_listT
  | with_reducible apply rn_listA
  | with_reducible apply rc_abs
  | with_reducible apply rc_sum
  | with_reducible apply rc_int
  | walk_at "rc2")
local macro_rules | `(tactic| walk_at "rc2") => `(tactic| first
  | with_reducible apply rv_ixT0I
  | with_reducible apply rv_ixTZI
  | with_reducible apply rv_ixU0I
  | with_reducible apply rv_ixUZI
  | with_reducible apply rv_ixL0I
  | with_reducible apply rv_ixLZI
  | with_reducible apply rv_ixF0I
  | with_reducible apply rv_ixFZI
  | with_reducible apply rv_ixL0R
  | with_reducible apply rv_ixTR
  | with_reducible apply rv_ixL0L
  | with_reducible apply rv_ixTL
  | with_reducible apply rv_ixL0U
  | with_reducible apply rv_ixTU
  | with_reducible apply rv_ixQ
  | with_reducible apply rv_ixQ0
  | with_reducible apply rv_ixQZ
  | with_reducible apply rv_ix20
  | with_reducible apply rv_ix21
  | with_reducible apply rv_ixTI
  | with_reducible apply rv_ixUI
  | with_reducible apply rv_ixLI
  | with_reducible apply rv_ixFI
  | with_reducible apply rv_ixLR
  | with_reducible apply rv_ixLL
  | with_reducible apply rv_ixLU
  | with_reducible apply rv_mul
  | with_reducible apply rv_fdiv
  | with_reducible apply rv_mod
  | with_reducible apply rv_pow
  | with_reducible apply rv_ixL
  | with_reducible apply rv_ixF
  | with_reducible apply rv_ixT
  | with_reducible apply rv_ixU
  | with_reducible apply rv_ixA
  | with_reducible apply rv_catT
  | with_reducible apply rv_eqTI
  | with_reducible apply rv_neTI
  | with_reducible apply rv_eqLI
  | with_reducible apply rv_neLI
  | with_reducible apply rv_eqTR
  | with_reducible apply rv_inLR
  | with_reducible apply rv_notInLR
  | with_reducible apply rm_lix
  | with_reducible apply rn_srtIL'
  | with_reducible apply rn_srtR'
  | with_reducible apply rn_srtP'
  | with_reducible apply rv_inT'
  | with_reducible apply rv_inL'
  | with_reducible apply rv_notInT'
  | with_reducible apply rv_notInL'
  | with_reducible apply rc_sum'
  | with_reducible apply rc_min'
  | with_reducible apply rm_lix')
local macro_rules | `(tactic| walk_at "bnd") => `(tactic| first
  | omega
  | exact map_snoc
  | exact map_cat
  | ((have hszl := szl); (simp only [List.length_map, List.length_range, List.length_append, List.length_cons, List.length_nil, List.length_take, List.length_drop, Int.toNat_natCast, Nat.add_zero, Nat.zero_add, Int.natCast_add, Int.natCast_one] at *); omega)
  | ((simp only [List.length_map]); (refine Nat.le_trans (Nat.add_le_add_right (List.length_filter_le _ _) _) ?_); walk_at "bnd"))

section
variable {P : Program} {w : World} {K : Fr} {mg : Str → Option Value} {base : Heap} {CB CC CN CM : Addr}
theorem evd_pick {α : Type} {ρ : Env} {tc tl : TE} {f : α → D} {l : List α} {c : Int} (hc : EvD K tc ρ (.int c)) (hl : EvD K tl ρ (.lst (l.map f))) (hne : l ≠ []) :
    ∃ a ∈ l, EvD K (tOp (rIxL K) tl (tOp (rI (fun _ j => 0 < j) fun i j => V.int (i % j)) (tCB (fun xs H Q => (∃ i, xs = [V.int i] ∧ Q (V.int i) H) ∨ ∃ k, xs = [V.bl k] ∧ Q (V.int (if k = true then 1 else 0)) H) (tCons tc tNil)) (tCB (rLenS K) (tCons tl tNil)))) ρ (f a) := by
  have hp := List.length_pos_iff.mpr hne
  have hlen : ((l.map f).length : Int) = l.length := by rw [List.length_map]
  have h1 := Int.emod_lt_of_pos c (show (0 : Int) < ((l.map f).length : Int) by omega)
  have h2 := Int.emod_nonneg c (show ((l.map f).length : Int) ≠ 0 by omega)
  have hlt : (c % ((l.map f).length : Int)).toNat < l.length := by omega
  refine ⟨l[(c % ((l.map f).length : Int)).toNat], List.getElem_mem _, ?_⟩
  refine evd_op (d2 := .int ((c % ((l.map f).length : Int)).toNat : Nat)) hl (EvD.is (evd_op (evd_cb (eva_cons hc eva_nil) rc_int) (evd_cb (eva_cons hl eva_nil) rc_lenL) (rv_mod (by omega))) (by rw [Int.toNat_of_nonneg h2])) (rv_ixL (at_nat ?_))
  rw [List.getElem?_map, List.getElem?_eq_getElem hlt]
  rfl
theorem sd_pick {α : Type} {ρ : Env} {tc tl : TE} {f : α → D} {l : List α} {c : Int} {i : Nat} {Q : Out → Prop} (hc : EvD K tc ρ (.int c)) (hl : EvD K tl ρ (.lst (l.map f))) (hne : l ≠ []) (next : ∀ a ∈ l, Q (.nx (ρ.set i (.im (f a))))) :
    SD K (tAsg (tOp (rIxL K) tl (tOp (rI (fun _ j => 0 < j) fun i j => V.int (i % j)) (tCB (fun xs H Q => (∃ i, xs = [V.int i] ∧ Q (V.int i) H) ∨ ∃ k, xs = [V.bl k] ∧ Q (V.int (if k = true then 1 else 0)) H) (tCons tc tNil)) (tCB (rLenS K) (tCons tl tNil)))) (gName i)) ρ Q := by
  obtain ⟨a, ha, hev⟩ := evd_pick hc hl hne
  exact sd_set hev (next a ha)
/-! ### what other_unbeaten refuses -/
section
variable {os : List (List Int)} {n v : Nat} {b : Bool}
theorem ref_leaving (O : Ord os n v) {r : List Int} {p : Int} (h : InW os n v r) (hp : p ∉ r) : R_lref CN CM [ordD b os, dR r, .int p] (.tup [.str "fault", .str "leaving"]) := by
  obtain ⟨hR, hRa⟩ := h.rom O
  have G := hR.good O
  refine Or.inr (Or.inr ⟨_, ⟨b, os, n, v, r, p, O, G.few, G.nd, rfl, Or.inr (Or.inr ⟨rfl, rfl, rfl, G, (asc_sort hRa).symm, fun ho => ?_, hp⟩)⟩, rfl⟩)
  exact O.ub_iff.mpr (O.mem_unb.mp (h.resolve_left ho)).2.2
theorem ref_none (O : Ord os n v) {r : List Int} {p : Int} (h : InW os n v r) (hp : p ∈ r) : R_lref CN CM [ordD b os, dR r, .int p] .non := by
  obtain ⟨res, l', U, _⟩ := O.other h hp
  exact Or.inl ⟨dR res, ⟨b, os, n, v, r, p, res, O, U, rfl, rfl⟩, rfl⟩
theorem ref_fault (O : Ord os n v) {r : List Int} {p : Int} (hl : r.length ≤ 100) (hn : r.Nodup) (h : rfault ((v : Int) + n) n r ≠ "" ∨ r ≠ sortI r) : R_lref CN CM [ordD b os, dR r, .int p] (.tup [.str "room", dR r]) :=
  Or.inr (Or.inl ⟨_, ⟨b, os, n, v, r, p, O, hl, hn, rfl, Or.inl ⟨rfl, rfl, rfl, h⟩⟩, rfl⟩)
theorem ref_beaten (O : Ord os n v) {r : List Int} {p : Int} (h : r ∈ subs n (rgI 0 ((v : Int) + n))) (hw : r ∉ whl os n v) : R_lref CN CM [ordD b os, dR r, .int p] (.tup [.str "room", dR r]) := by
  obtain ⟨hR, hRa⟩ := subs_rom h
  have G := hR.good O
  refine Or.inr (Or.inl ⟨_, ⟨b, os, n, v, r, p, O, G.few, G.nd, rfl, Or.inr (Or.inl ⟨rfl, rfl, rfl, G, (asc_sort hRa).symm, fun e => hw (mem_whl.mpr (Or.inl e)), fun e => hw (mem_whl.mpr (Or.inr ?_))⟩)⟩, rfl⟩)
  exact O.mem_unb.mpr ⟨hR, hRa, O.ub_iff.mp e⟩
theorem out_ne {r : List Int} (h : Rom n v r) (hv : 1 ≤ v) : ((List.range (v + n)).filter fun k : Nat => !decide ((k : Int) ∈ r)) ≠ [] := fun e => by
  have hs : ∀ x ∈ rgI 0 ((v : Int) + n), x ∈ r := fun x hx => by
    have hx := mem_rgI.mp hx
    apply Classical.byContradiction
    intro hn
    have : x.toNat ∈ ((List.range (v + n)).filter fun k : Nat => !decide ((k : Int) ∈ r)) := List.mem_filter.mpr ⟨List.mem_range.mpr (by omega), by
      rw [Int.toNat_of_nonneg hx.1]
      simpa using hn⟩
    rw [e] at this
    cases this
  have := nodup_le (rgI_nd _ _) hs
  rw [len_rgZ, h.len] at this
  omega
theorem rev_ne {r : List Int} (h : Asc r) (h2 : 2 ≤ r.length) : r.reverse ≠ sortI r.reverse := fun e => by
  have ha := sortI_asc ((List.reverse_perm r).nodup_iff.mpr h.nd)
  rw [← e] at ha
  have h1 := List.pairwise_iff_getElem.mp h 0 (r.length - 1) (by omega) (by omega) (by omega)
  have h3 := List.pairwise_iff_getElem.mp ha 0 (r.length - 1) (by rw [List.length_reverse]; omega) (by rw [List.length_reverse]; omega) (by omega)
  rw [List.getElem_reverse, List.getElem_reverse] at h3
  have e1 : r.length - 1 - (r.length - 1) = 0 := by omega
  simp only [Nat.sub_zero, e1] at h3
  omega
theorem sm_room {q : Nat} {r : List Int} {x : Str} (hl : r.length ≤ 1000000) : Sm (q + 1 + 1) (.tup [.str x, dR r]) (.tup [.str x, dR r]) := sm_same (show 2 ≤ 1000000 by decide) fun d hd => by
  rcases List.mem_cons.mp hd with e | hd
  · rw [e]; exact .str _ _
  · rw [List.mem_singleton.mp hd]; exact sm_row hl
theorem sm_fault {q : Nat} {x y : Str} : Sm (q + 1) (.tup [.str x, .str y]) (.tup [.str x, .str y]) := sm_same (show 2 ≤ 1000000 by decide) fun d hd => by
  rcases List.mem_cons.mp hd with e | hd
  · rw [e]; exact .str _ _
  · rw [List.mem_singleton.mp hd]; exact .str _ _
end
local macro_rules | `(tactic| walk_at "evd3") => `(tactic| ((with_reducible apply evd_revT) <;> (try walk_at "evd")))
def R_lrefs (ds : List D) (d : D) : Prop := ∃ (b : Bool) (xs : List Int) (os : List (List Int)) (n v : Nat), xs.length ≤ 1000000 ∧ Ord os n v ∧ ds = [dF xs, ordD b os, .int ((v : Int) + n), .int (n : Nat), dRs (whl os n v)] ∧ d = .bl true
theorem sc__law_refusals_right : FnScope ["_law_script", "_law_orders_here", "_law_n", "_law_d", "_law_whole", "_law_room", "_law_outside", "_law_p", "_law_place", "_law_longer", "_law_beaten", "_law_other", "_law_stranger"] ["_law_script", "_law_orders_here", "_law_n", "_law_d", "_law_whole"] (defScope s__law_refusals_right) := ⟨rfl, rfl, rfl, by decide +kernel, rfl, by decide +kernel, by decide +kernel⟩
theorem ok_lrefs (T : At K mg "_law_refusals_right" s__law_refusals_right ["_law_script", "_law_orders_here", "_law_n", "_law_d", "_law_whole"]) (B : Bi mg)
    (G__law_same : Has P w K mg base CX0 "_law_same" 6 ["_law_actual", "_law_due"] (spD K (R_lsame 5)))
    (G__law_cell : Has P w K mg base CX0 "_law_cell" 1 ["_law_script", "_law_k"] (spD K R_cell))
    (G__law_rooms : Has P w K mg base CX0 "_law_rooms" 6 ["_law_items", "_law_size"] (spD K (R_lrooms 5)))
    (G__law_refused : Has P w K mg base CX0 "_law_refused" 5 ["_law_orders_here", "_law_room", "_law_leaving"] (spD K (R_lref CN CM))) :
    Has P w K mg base CX0 "_law_refusals_right" 7 ["_law_script", "_law_orders_here", "_law_n", "_law_d", "_law_whole"] (spD K R_lrefs) := by
  refine ok_H T sc__law_refusals_right (fun ds d h => by obtain ⟨_, _, _, _, _, _, _, rfl, _⟩ := h; rfl) (fun f cdv A outer s H E hr => ⟨_, (pss_cons (ps_set (i := 5) sc__law_refusals_right.nd rfl (by first | exact Or.inl rfl | exact Or.inr rfl) (pe_ix (ix_lK K) (pv 4) (pe_op op_mod (pe_callTy call_int1 rfl B.int (by decide +kernel) (pa_cons (pe_callH G__law_cell hr (by decide) rfl (pa_cons (pv 0) (pa_cons (pe_int) pa_nil))) pa_nil)) (pe_callB (cl_len K) rfl B.len PySem.boot_len (pa_cons (pv 4) pa_nil))) (fun _ _ => rfl)))
        (pss_cons (ps_setLc (i := 6) (own := [("_law_p", 7)]) (by rfl) sc__law_refusals_right.nd rfl rfl (sw_true rfl rfl rfl (by decide +kernel)) (pi_range1 rfl B.range (pa_cons (pv 2) pa_nil)) (blkOk_by (N := ["_law_script", "_law_orders_here", "_law_n", "_law_d", "_law_whole", "_law_room", "_law_outside", "_law_p", "_law_place", "_law_longer", "_law_beaten", "_law_other", "_law_stranger"]) (sc := (defScope s__law_refusals_right)) (by decide +kernel)) (fun _ _ _ _ _ => pg_name (i := 7) sc__law_refusals_right.nd rfl (by first | exact Or.inl rfl | exact Or.inr rfl)) (fun _ _ _ _ _ => pts_one (pt_cmpR (op_notInK K) (pv 7) (pv 5) (by rfl))) (fun _ _ _ _ _ => pv 7))
        (pss_cons (ps_set (i := 8) sc__law_refusals_right.nd rfl (by first | exact Or.inl rfl | exact Or.inr rfl) (pe_ix (ix_lK K) (pv 6) (pe_op op_mod (pe_callTy call_int1 rfl B.int (by decide +kernel) (pa_cons (pe_callH G__law_cell hr (by decide) rfl (pa_cons (pv 0) (pa_cons (pe_int) pa_nil))) pa_nil)) (pe_callB (cl_len K) rfl B.len PySem.boot_len (pa_cons (pv 6) pa_nil))) (fun _ _ => rfl)))
        (pss_cons (ps_if (pt_not (pt_val (pe_callH G__law_same hr (by decide) rfl (pa_cons (pe_callH G__law_refused hr (by decide) rfl (pa_cons (pv 1) (pa_cons (pv 5) (pa_cons (pv 8) pa_nil)))) (pa_cons (pe_tup (pa_cons (pe_str) (pa_cons (pe_str) pa_nil))) pa_nil))))) (pss_one (ps_ret (pe_bl))) (pss_nil))
        (pss_cons (ps_if (pt_cmpR op_notN (pe_callH G__law_refused hr (by decide) rfl (pa_cons (pv 1) (pa_cons (pv 5) (pa_cons (pe_ix (ix_tK K) (pv 5) (pe_un un_neg (pe_int)) (fun _ _ => rfl)) pa_nil)))) (pe_non) (nomark _)) (pss_one (ps_ret (pe_bl))) (pss_nil))
        (pss_cons (ps_set (i := 9) sc__law_refusals_right.nd rfl (by first | exact Or.inl rfl | exact Or.inr rfl) (pe_tupleK K rfl B.tuple (pe_callB (cl_srtI K) rfl B.sorted (by decide +kernel) (pa_cons (pe_op (op_catK K) (pv 5) (pe_tup (pa_cons (pv 8) pa_nil))) pa_nil))))
        (pss_cons (ps_if (pt_not (pt_val (pe_callH G__law_same hr (by decide) rfl (pa_cons (pe_callH G__law_refused hr (by decide) rfl (pa_cons (pv 1) (pa_cons (pv 9) (pa_cons (pv 8) pa_nil)))) (pa_cons (pe_tup (pa_cons (pe_str) (pa_cons (pv 9) pa_nil))) pa_nil))))) (pss_one (ps_ret (pe_bl))) (pss_nil))
        (pss_cons (ps_if (PW.pt (pw_and (pt_cmpR op_gt (pv 3) (pe_int) (nomark _)) (pw_and1 (pt_not (pt_val (pe_callH G__law_same hr (by decide) rfl (pa_cons (pe_callH G__law_refused hr (by decide) rfl (pa_cons (pv 1) (pa_cons (pe_revTK K (pv 5)) (pa_cons (pe_ix (ix_tK K) (pv 5) (pe_int) (fun _ _ => rfl)) pa_nil)))) (pa_cons (pe_tup (pa_cons (pe_str) (pa_cons (pe_revTK K (pv 5)) pa_nil))) pa_nil)))))))) (pss_one (ps_ret (pe_bl))) (pss_nil))
        (pss_cons (ps_setLc (i := 10) (own := [("_law_other", 11)]) (by rfl) sc__law_refusals_right.nd rfl rfl (sw_true rfl rfl rfl (by decide +kernel)) (pi_lK K (pe_callH G__law_rooms hr (by decide) rfl (pa_cons (pe_tupRg rfl rfl B.tuple (prg_1 rfl B.range (pv 2))) (pa_cons (pv 3) pa_nil)))) (blkOk_by (N := ["_law_script", "_law_orders_here", "_law_n", "_law_d", "_law_whole", "_law_room", "_law_outside", "_law_p", "_law_place", "_law_longer", "_law_beaten", "_law_other", "_law_stranger"]) (sc := (defScope s__law_refusals_right)) (by decide +kernel)) (fun _ _ _ _ _ => pg_name (i := 11) sc__law_refusals_right.nd rfl (by first | exact Or.inl rfl | exact Or.inr rfl)) (fun _ _ _ _ _ => pts_one (pt_cmpR (op_notInDK K hr) (pv 11) (pv 4) (by rfl))) (fun _ _ _ _ _ => pv 11))
        (pss_cons (ps_if (pt_cmpR op_eq (pe_callB (cl_len K) rfl B.len PySem.boot_len (pa_cons (pv 10) pa_nil)) (pe_int) (nomark _)) (pss_one (ps_ret (pe_bl))) (pss_nil))
        (pss_cons (ps_set (i := 12) sc__law_refusals_right.nd rfl (by first | exact Or.inl rfl | exact Or.inr rfl) (pe_ix (ix_lK K) (pv 10) (pe_op op_mod (pe_callTy call_int1 rfl B.int (by decide +kernel) (pa_cons (pe_callH G__law_cell hr (by decide) rfl (pa_cons (pv 0) (pa_cons (pe_int) pa_nil))) pa_nil)) (pe_callB (cl_len K) rfl B.len PySem.boot_len (pa_cons (pv 10) pa_nil))) (fun _ _ => rfl)))
        (pss_cons (ps_if (pt_not (pt_val (pe_callH G__law_same hr (by decide) rfl (pa_cons (pe_callH G__law_refused hr (by decide) rfl (pa_cons (pv 1) (pa_cons (pv 12) (pa_cons (pe_ix (ix_tK K) (pv 12) (pe_int) (fun _ _ => rfl)) pa_nil)))) (pa_cons (pe_tup (pa_cons (pe_str) (pa_cons (pv 12) pa_nil))) pa_nil))))) (pss_one (ps_ret (pe_bl))) (pss_nil))
        (pss_one (ps_ret (pe_callH G__law_same hr (by decide) rfl (pa_cons (pe_callH G__law_refused hr (by decide) rfl (pa_cons (pv 1) (pa_cons (pv 12) (pa_cons (pv 2) pa_nil)))) (pa_cons (pe_tup (pa_cons (pe_str) (pa_cons (pv 12) pa_nil))) pa_nil))))))))))))))))), ?_⟩)
  rintro ds d ⟨b, xs, os, n, v, hx, O, rfl, rfl⟩
  have h1 := O.n1
  have h4 := O.n4
  have h5 := O.v1
  have h6 := O.v8
  have h9 := O.nv
  have hz := szl
  have hwl := O.whl_len
  have hwn : whl os n v ≠ [] := fun e => by
    have : ownP n v ∈ whl os n v := mem_whl.mpr (Or.inl rfl)
    rw [e] at this
    cases this
  have hrev : ∀ {r : List Int} {te : TE} (ρ : Env), EvD K te ρ (dR r) → EvD K (tRevT K te) ρ (dR r.reverse) := fun {r te} ρ h => EvD.is (evd_revT h) (by
    show D.tup _ = D.tup (r.reverse.map D.int)
    rw [List.map_reverse])
  have two : ∀ a b : D, [a, b].length ≤ sizeLine := fun a b => Nat.le_trans (show 2 ≤ 2 from Nat.le_refl _) (by decide)
  apply sd_seq
  apply sd_pick (c := cellV xs 9) (f := dR) (l := whl os n v)
  · walk_at "evd"
    exact ⟨xs, 9, hx, by decide, rfl, rfl⟩
  · walk_at "evd"
  · exact hwn
  intro r hr
  have hw := mem_whl.mp hr
  obtain ⟨hR, hRa⟩ := hw.rom O
  have hrl := hR.len
  -- the places outside
  apply sd_seq
  apply sd_set (d := .lst (((List.range (v + n)).filter fun k : Nat => !decide ((k : Int) ∈ r)).map fun k : Nat => D.int ((k : Nat) : Int)))
  · apply EvN.ev
    apply evn_lc (e := fun k : Nat => D.int ((k : Nat) : Int)) (items := List.range (v + n))
    · apply iv_rngN
      · walk_at "evd"
      · rfl
      · omega
    · intro a _
      exact gd_name
    · intro a _
      walk_at "evd"
    · intro a _ _
      walk_at "evd"
    · rw [List.length_range]; omega
  apply sd_seq
  apply sd_pick (c := cellV xs 10) (f := fun k : Nat => D.int ((k : Nat) : Int)) (l := (List.range (v + n)).filter fun k : Nat => !decide ((k : Int) ∈ r))
  · walk_at "evd"
    exact ⟨xs, 10, hx, by decide, rfl, rfl⟩
  · walk_at "evd"
  · exact out_ne hR h5
  intro p hp
  obtain ⟨hp1, hp2⟩ := List.mem_filter.mp hp
  have hp1 := List.mem_range.mp hp1
  have hp2 : (p : Int) ∉ r := by simpa using hp2
  -- a place outside leaves
  apply sd_seq
  apply sd_if (b := false)
  · refine evb_not (b := true) ?_
    apply evb_B
    apply evd_call (d := .bl true)
    · apply eva_cons
      · apply evd_call
        · walk_at "evd"
        · exact ref_leaving O hw hp2
      · walk_at "evd"
        exact two _ _
    · exact ⟨1, _, _, by omega, sm_fault, rfl, rfl⟩
  · intro c; cases c
  intro _
  apply sd_next
  -- the last place leaves
  apply sd_seq
  apply sd_if (b := false)
  · apply evb_test
    apply evd_op (d1 := .non) (d2 := .non)
    · apply evd_call
      · walk_at "evd"
        omega
      · refine ref_none O hw ?_
        rw [List.getD_eq_getElem?_getD, List.getElem?_eq_getElem (by omega)]
        exact List.getElem_mem _
    · walk_at "evd"
    · exact rv_isNotN
  · intro c; cases c
  intro _
  apply sd_next
  -- a longer room
  have nd2 : (r ++ [(p : Int)]).Nodup := by
    rw [List.nodup_append]
    refine ⟨hR.nd, List.nodup_cons.mpr ⟨by simp, List.nodup_nil⟩, fun a ha c hc e => hp2 ?_⟩
    rw [← List.mem_singleton.mp hc, ← e]
    exact ha
  have hll : (sortI (r ++ [(p : Int)])).length = n + 1 := by rw [sortI_len, List.length_append, List.length_singleton, hrl]
  apply sd_seq
  apply sd_set (d := dR (sortI (r ++ [(p : Int)])))
  · apply evd_tupL
    apply EvN.ev
    apply evn_cb (r := rSrtI _)
    · apply eva_cons
      · apply EvD.is (d2 := dR (r ++ [(p : Int)]))
        · apply evd_op
          · walk_at "evd"
          · walk_at "evd"
            exact Nat.le_trans (show 1 ≤ 1 from Nat.le_refl _) (by decide)
          · refine rv_catT ?_
            rw [List.length_map]
            show _ + 1 ≤ _
            omega
        · show D.tup _ = D.tup ((r ++ [(p : Int)]).map D.int)
          rw [List.map_append]
          rfl
      · exact eva_nil
    · exact rn_srtIT
  apply sd_seq
  apply sd_if (b := false)
  · refine evb_not (b := true) ?_
    apply evb_B
    apply evd_call (d := .bl true)
    · apply eva_cons
      · apply evd_call
        · walk_at "evd"
        · refine ref_fault O (by omega) (sortI_asc nd2).nd (Or.inl ?_)
          unfold rfault
          rw [if_pos (by omega)]
          decide
      · walk_at "evd"
        exact two _ _
    · exact ⟨2, _, _, by omega, sm_room (by omega), rfl, rfl⟩
  · intro c; cases c
  intro _
  apply sd_next
  -- the room in descending order
  apply sd_seq
  apply sd_if (b := false)
  · apply EvB.is (a := decide ((1 : Int) < (n : Int)) && !true)
    · apply evb_and
      · walk_at "evd"
      · intro c
        have c := of_decide_eq_true c
        refine evb_not (b := true) ?_
        apply evb_B
        apply evd_call (d := .bl true)
        · apply eva_cons
          · apply evd_call (ds := [ordD b os, dR r.reverse, .int (r.getD 0 0)])
            · apply eva_cons
              · walk_at "evd"
              apply eva_cons
              · exact hrev _ (by walk_at "evd")
              · walk_at "evd"
                omega
            · refine ref_fault O (by rw [List.length_reverse]; omega) ((List.reverse_perm r).nodup_iff.mpr hR.nd) (Or.inr (rev_ne hRa (by omega)))
          · apply eva_cons
            · apply evd_tup (ds := [.str "room", dR r.reverse])
              · apply eva_cons
                · walk_at "evd"
                apply eva_cons
                · exact hrev _ (by walk_at "evd")
                · exact eva_nil
              · exact two _ _
            · exact eva_nil
        · exact ⟨2, _, _, by omega, sm_room (r := r.reverse) (by rw [List.length_reverse]; omega), rfl, rfl⟩
    · simp
  · intro c; cases c
  intro _
  apply sd_next
  -- the beaten rooms
  have hfew := subs_few (s := n) (l := rgI 0 ((v : Int) + n)) (by rw [len_rgZ]; omega)
  apply sd_seq
  apply sd_set (d := dRs ((subs n (rgI 0 ((v : Int) + n))).filter fun r => !decide (r ∈ whl os n v)))
  · apply EvN.ev
    apply evn_lc (e := dR) (items := subs n (rgI 0 ((v : Int) + n)))
    · apply iv_list
      apply evd_call
      · walk_at "evd"
        exact RgOk.of_le (by omega) (by omega) (by omega) (by omega)
      · exact ⟨_, n, by omega, by omega, by rw [len_rgZ]; omega, rfl, rfl⟩
    · intro a _
      exact gd_name
    · intro a _
      walk_at "evd"
    · intro a _ _
      walk_at "evd"
    · omega
  generalize hbe : ((subs n (rgI 0 ((v : Int) + n))).filter fun r => !decide (r ∈ whl os n v)) = be
  apply sd_seq
  apply sd_if (b := decide (be.length = 0))
  · apply EvB.is
    · walk_at "evd"
    · rw [List.length_map]
      exact decide_eq_decide.mpr (by omega)
  · intro _
    apply sd_retE (p := Or.inl rfl)
    · walk_at "evd"
    · rfl
  intro c
  have c := of_decide_eq_false c
  have hbn : be ≠ [] := fun e => c (by rw [e]; rfl)
  apply sd_next
  apply sd_seq
  apply sd_pick (c := cellV xs 11) (f := dR) (l := be)
  · walk_at "evd"
    exact ⟨xs, 11, hx, by decide, rfl, rfl⟩
  · walk_at "evd"
  · exact hbn
  intro q hq
  rw [← hbe] at hq
  obtain ⟨hq1, hq2⟩ := List.mem_filter.mp hq
  have hq2 : q ∉ whl os n v := by simpa using hq2
  have hql := (subs_rom hq1).1.len
  apply sd_seq
  apply sd_if (b := false)
  · refine evb_not (b := true) ?_
    apply evb_B
    apply evd_call (d := .bl true)
    · apply eva_cons
      · apply evd_call
        · walk_at "evd"
          omega
        · exact ref_beaten O hq1 hq2
      · walk_at "evd"
        exact two _ _
    · exact ⟨2, _, _, by omega, sm_room (by omega), rfl, rfl⟩
  · intro c; cases c
  intro _
  apply sd_next
  apply sd_retE (d := .bl true) (p := Or.inl rfl)
  · apply evd_call (d := .bl true)
    · apply eva_cons
      · apply evd_call
        · walk_at "evd"
        · exact ref_beaten O hq1 hq2
      · walk_at "evd"
        exact two _ _
    · exact ⟨2, _, _, by omega, sm_room (by omega), rfl, rfl⟩
  · rfl
end
end DL

set_option Elab.async false
set_option linter.all false
set_option maxRecDepth 100000
set_option maxHeartbeats 4000000
/-! DL19: repr of nested lists and tuples of small ints; the law's own def, entered where no repr runs. -/
namespace DL
open PySem L2 PySem.Spec PyProof.Rows
/-! ### repr -/
def rRepr (K : Fr) : List V → Hp → VK → Prop := fun xs H Q => ∃ (a : Addr) (d : PyData), xs = [.ref a] ∧ Dp K H (.ref a) d ∧ d.showable = true ∧ d.hasDict = false ∧ d.depth ≤ 60 ∧ d.shown.length ≤ sizeLine ∧ Q (.str d.shown) H
theorem cl_repr (K : Fr) {X : Cx} (noG : X.A.guards = some []) (room : X.A.units + 64 < cLine) (hK : X.K = K := by rfl) : CallR X (.builtin "repr") (rRepr K) := by
  subst hK
  intro pins s σ H xs us Q I r h
  obtain ⟨a, d, rfl, hd, ok1, ok2, ok3, ok4, q⟩ := h
  obtain ⟨u, rfl, ru⟩ := vals1 r
  obtain ⟨as, rd⟩ := Dp.reads I d _ _ hd ru
  cases ru
  exact repr_of_reads' rd ok1 (PyData.noDict_hsm ok2) noG (by omega) (fun _ _ z => z) (fun h2 u2 tk2 keep2 => ⟨.str _, H, I.kept (t' := tk2) keep2, ⟨u2, rfl⟩, q⟩) ok4
/-- what is shown of such data -/
structure Sho (d : D) (m : Nat) : Prop where
  pl : d.plain = true
  sh : d.py.showable = true
  nd : d.py.hasDict = false
  len : d.py.shown.length ≤ m
  dep : d.py.depth ≤ 2
theorem dig_len : ∀ n : Nat, n < 10 → (PyData.shown (.int (n : Int))).length ≤ 20 := by
  intro n hn
  simp only [PyData.shown]
  revert n
  decide +kernel
theorem dig_sh : ∀ n : Nat, n < 10 → decide (((n : Int)).natAbs.log2 < 1920) = true := by decide +kernel
theorem listText_len (ts : List Str) : (PySem.listText ts).length ≤ piled ts + 2 := by
  cases ts with
  | nil => decide
  | cons t r =>
    have h := textFrom_length_pos r 1 (("[" : Str) ++ (if (0 : Nat) > 0 then ", " else "" : String) ++ t) (Nat.succ_pos 0)
    have z : (listText (t :: r)).length = (textFrom 1 (("[" : Str) ++ (if (0 : Nat) > 0 then ", " else "" : String) ++ t) r).length + 1 := by
      unfold listText
      rw [strLen_append]
      rfl
    rw [z, h, strLen_append, strLen_append, piled_cons]
    have z1 : (("[" : String) : Str).length = 1 := rfl
    have z2 : (((if (0 : Nat) > 0 then ", " else "" : String)) : Str).length = 0 := rfl
    rw [z1, z2]
    omega
theorem tupleText_len (ts : List Str) : (tupleText ts).length ≤ piled ts + 3 := by
  unfold tupleText
  rw [strLen_append, strLen_append]
  have z1 : (("(" : String) : Str).length = 1 := rfl
  have z2 : (((if ts.length == 1 then ",)" else ")" : String)) : Str).length ≤ 2 := by split <;> decide
  rw [z1]
  by_cases e : ts = []
  · subst e
    have z3 : (Str.join ", " []).length = 0 := rfl
    rw [z3]
    omega
  · have := join_length_add ts e
    omega
theorem sho_sq {b : Bool} {ds : List D} {k m : Nat} (h : ∀ d ∈ ds, d.plain = true ∧ d.py.showable = true ∧ d.py.hasDict = false ∧ d.py.shown.length ≤ m ∧ d.py.depth ≤ k) :
    (D.sq b ds).plain = true ∧ (D.sq b ds).py.showable = true ∧ (D.sq b ds).py.hasDict = false ∧ (D.sq b ds).py.shown.length ≤ ds.length * (m + 2) + 3 ∧ (D.sq b ds).py.depth ≤ k + 1 := by
  have key : D.plainA ds = true ∧ PyData.showableAll (D.pyA ds) = true ∧ PyData.hasDictAll (D.pyA ds) = false ∧ piled (PyData.shownAll (D.pyA ds)) ≤ ds.length * (m + 2) ∧ PyData.depthAll (D.pyA ds) ≤ k := by
    induction ds with
    | nil => exact ⟨by rw [D.plainA], by rw [D.pyA, PyData.showableAll], by rw [D.pyA, PyData.hasDictAll], by rw [D.pyA, PyData.shownAll]; exact Nat.zero_le _, by rw [D.pyA, PyData.depthAll]; exact Nat.zero_le _⟩
    | cons d ds ih =>
      obtain ⟨i1, i2, i3, i4, i5⟩ := ih fun x hx => h x (List.mem_cons_of_mem _ hx)
      obtain ⟨h1, h2, h3, h4, h5⟩ := h d List.mem_cons_self
      refine ⟨by rw [D.plainA, h1, i1]; rfl, by rw [D.pyA, PyData.showableAll, h2, i2]; rfl, by rw [D.pyA, PyData.hasDictAll, h3, i3]; rfl, ?_, by rw [D.pyA, PyData.depthAll]; omega⟩
      rw [D.pyA, PyData.shownAll, piled_cons, List.length_cons, Nat.succ_mul]
      omega
  obtain ⟨k1, k2, k3, k4, k5⟩ := key
  cases b with
  | true =>
    show (D.tup ds).plain = true ∧ (D.tup ds).py.showable = true ∧ (D.tup ds).py.hasDict = false ∧ (D.tup ds).py.shown.length ≤ _ ∧ (D.tup ds).py.depth ≤ _
    rw [D.plain, D.py, PyData.showable, PyData.hasDict, PyData.shown, PyData.depth]
    have := tupleText_len (PyData.shownAll (D.pyA ds))
    exact ⟨k1, k2, k3, by omega, by omega⟩
  | false =>
    show (D.lst ds).plain = true ∧ (D.lst ds).py.showable = true ∧ (D.lst ds).py.hasDict = false ∧ (D.lst ds).py.shown.length ≤ _ ∧ (D.lst ds).py.depth ≤ _
    rw [D.plain, D.py, PyData.showable, PyData.hasDict, PyData.shown, PyData.depth]
    have := listText_len (PyData.shownAll (D.pyA ds))
    exact ⟨k1, k2, k3, by omega, by omega⟩
theorem sho_int {i : Int} (h0 : 0 ≤ i) (h1 : i < 10) : (D.int i).plain = true ∧ (D.int i).py.showable = true ∧ (D.int i).py.hasDict = false ∧ (D.int i).py.shown.length ≤ 20 ∧ (D.int i).py.depth ≤ 0 := by
  obtain ⟨n, rfl⟩ : ∃ n : Nat, i = n := ⟨i.toNat, by omega⟩
  have hn : n < 10 := by omega
  refine ⟨by first | rfl | simp [D.plain], ?_, by first | rfl | simp [D.py, PyData.hasDict], ?_, by first | exact Nat.le_refl 0 | simp [D.py, PyData.depth]⟩
  · have e : (D.int (n : Int)).py = .int n := by first | rfl | simp [D.py]
    rw [e, PyData.showable]
    exact dig_sh n hn
  · have e : (D.int (n : Int)).py = .int n := by first | rfl | simp [D.py]
    rw [e]
    exact dig_len n hn
theorem sho_ord {b : Bool} {os : List (List Int)} {n v : Nat} (O : Ord os n v) : (ordD b os).plain = true ∧ (ordD b os).py.showable = true ∧ (ordD b os).py.hasDict = false ∧ (ordD b os).py.shown.length ≤ 4 * 203 + 3 ∧ (ordD b os).py.depth ≤ 2 := by
  unfold ordD
  have hin : ∀ d ∈ os.map (fun o => D.sq b (o.map D.int)), d.plain = true ∧ d.py.showable = true ∧ d.py.hasDict = false ∧ d.py.shown.length ≤ 201 ∧ d.py.depth ≤ 1 := by
    intro d hd
    obtain ⟨o, ho, rfl⟩ := List.mem_map.mp hd
    have hl := O.olen ho
    have h8 := O.v8
    obtain ⟨z1, z2, z3, z4, z5⟩ := sho_sq (b := b) (ds := o.map D.int) (k := 0) (m := 20) fun d hd => by
      obtain ⟨i, hi, rfl⟩ := List.mem_map.mp hd
      have := (O.mem ho).mp hi
      exact sho_int this.1 (by omega)
    refine ⟨z1, z2, z3, ?_, z5⟩
    rw [List.length_map, hl] at z4
    omega
  obtain ⟨z1, z2, z3, z4, z5⟩ := sho_sq (b := b) hin
  refine ⟨z1, z2, z3, ?_, z5⟩
  have h4 := O.n4
  rw [List.length_map, O.len] at z4
  omega
theorem evd_repr {K : Fr} {ρ : Env} {te : TE} {b : Bool} {os : List (List Int)} {n v : Nat} (O : Ord os n v) (h : EvD K te ρ (ordD b os)) : EvD K (tCB (rRepr K) (tCons te tNil)) ρ (.str (ordD b os).py.shown) := by
  obtain ⟨z1, z2, z3, z4, z5⟩ := sho_ord (b := b) O
  refine .mk fun k Q q => h k _ fun x S1 H1 g1 r1 => ?_
  have hr : ∃ a, x = V.ref a := by
    unfold ordD at r1
    cases b with
    | true =>
      have r1 : Rp K S1 x (.tup _) := r1
      cases r1
      exact ⟨_, rfl⟩
    | false =>
      have r1 : Rp K S1 x (.lst _) := r1
      cases r1
      exact ⟨_, rfl⟩
  obtain ⟨a, rfl⟩ := hr
  exact ⟨a, _, rfl, (r1.mono g1.sh).dp z1, z2, z3, by omega, Nat.le_trans z4 (by decide), q _ _ _ g1 (.str _)⟩
end DL

set_option Elab.async false
set_option linter.all false
set_option maxRecDepth 100000
set_option maxHeartbeats 4000000
/-! DL20: the law's own def, entered where no repr runs. -/
namespace DL
open PySem L2 PySem.Spec PyProof.Rows
theorem law_go {P : Program} {w : World} {K : Fr} {mg mb : Str → Option Value} {fa arg : Addr} {fd : FuncData} {st : Stmt} {N : List Str} {sh : Shared} {vals : List Value} {xs : List Int}
    (inK : K.In sh.heap) (nsM : sh.heap.Ns mainGlobals mg) (nsB : sh.heap.Ns builtinsNs mb) (boot : ∀ y : Str, y ≠ "__name__" → mb y = bootBuiltins y) (noL : sh.heap.NoLimit) (noG : sh.gens = #[])
    (obj : sh.heap.get? arg = some { cls := .type "list", data := .seq vals.toArray }) (isI : IntsAre vals xs) (few : xs.length ≤ sizeLine)
    (F : Fun K "law" "law" st fa fd) (bd : ∀ (s : Shared) (u : Value), BindsTo s fd ⟨[u], []⟩ [("_law_script", u)]) (S : FnScope N ["_law_script"] (defScope st))
    (body : ∀ (base : Heap) (cdv : Value) (H : Hp), ∃ t, PSs (cxOf CX0 P w K mg base N "law" (defScope st) fa cdv callerA [] sh H E0).nox (defBody st) t ∧ SD K t (init N [.frz (xs.map D.int)]) (fun o => o = .rt (.bl true))) :
    codeAny (model P w) callerA (.call (.ref fa) ⟨[.ref arg], []⟩) (fun res s2 => res = .ok (.ret (.bool true)) ∧ OldK sh.heap s2.heap ∧ s2.os = sh.os ∧ AllBare s2.gens) sh := by
  have rel := vals_ints isI
  have same := isI.length
  -- what is tracked of the heap: the script alone, unless the module holds it
  let T : HO := .frz { cls := .type "list", data := .seq vals.toArray } (.lst (xs.map V.int))
  let H : Hp := fun c => if c = arg ∧ K.lookup arg = none then some T else none
  have hH : ∀ {c : Addr} {u : HO}, H c = some u → c = arg ∧ K.lookup arg = none ∧ u = T := fun {c u} z => by
    by_cases q : c = arg ∧ K.lookup arg = none
    · have z2 : some T = some u := (if_pos q).symm.trans z
      exact ⟨q.1, q.2, (Option.some.inj z2).symm⟩
    · have z2 : (none : Option HO) = some u := (if_neg q).symm.trans z
      cases z2
  have free : ∀ {c : Addr} {o : Obj}, sh.heap.get? c = some o → (∀ es ep, o.data = .dict es ep → H c = none) := fun {c o} e es ep d => by
    cases q : H c with
    | none => rfl
    | some u =>
      obtain ⟨rfl, _, _⟩ := hH q
      rw [obj] at e
      have d2 := (congrArg Obj.data (Option.some.inj e)).trans d
      cases d2
  have seq : SqL K H arg (xs.map V.int) := by
    cases q : K.lookup arg with
    | none => exact .inl (.inr ⟨_, if_pos ⟨rfl, q⟩⟩)
    | some o =>
      have e := inK arg o q
      rw [obj] at e
      obtain rfl := Option.some.inj e
      refine .inr ⟨_, vals.toArray, _, q, rfl, rfl, rfl, ?_, ?_⟩
      · rw [List.size_toArray, same]
        exact few
      · rw [List.toList_toArray]
        exact rel
  have ok : HOk P w H sh.heap := fun c u z => by
    obtain ⟨rfl, _, rfl⟩ := hH z
    refine ⟨obj, ?_, vals, _, rel, obj⟩
    rw [List.length_map]
    exact few
  have up : ∀ {c : Addr} {m : Str → Option Value}, sh.heap.Ns c m → (hidT sh.heap H).Ns c m := fun {c m} ⟨o, es, ep, e, d, r⟩ => ⟨o, es, ep, hidT_get e (free e es ep d), d, r⟩
  have inB : K.In (hidT sh.heap H) := fun c o e => hidT_get (inK c o e) (by
    cases q : H c with
    | none => rfl
    | some u =>
      obtain ⟨rfl, z, _⟩ := hH q
      rw [e] at z
      cases z)
  obtain ⟨mc, l1, l2⟩ := id noL
  have start0 : Env0 P w K mg (hidT sh.heap H) callerA [] sh H := by
    refine ⟨rfl, ⟨inB, up nsM, ⟨mb, up nsB, boot⟩, ⟨mc, up l1, l2⟩⟩, fun c o e => of_hidT e, ?_, trivial, fun c hc => ?_, ok, .of_eq noG⟩
    · rw [hidT_size]
      exact Nat.le_refl _
    · cases hc
  -- the call
  obtain ⟨oc, od, kV, doc, pm, an, cdv, ct, osl, rfl, lk, hcd⟩ := F.ex
  have kinds : (([("_law_script", Value.ref arg)] : List (Str × Value)).all fun y => (defScope st).names.lookup y.1 == some .local || (defScope st).names.lookup y.1 == some .cell) = true := by
    rw [List.all_eq_true]
    intro y hy
    have e : y.1 = "_law_script" := by
      rw [List.mem_singleton.mp hy]
    rw [e]
    rcases S.par "_law_script" List.mem_cons_self with q | q
    · rw [q]; rfl
    · rw [q]; rfl
  refine Att.call_fn inK noL lk hcd (by decide) (bd sh (.ref arg)) kinds (fun s1 inside => ?_) S.co S.gen S.kind
  obtain ⟨t, pt, hd⟩ := body (hidT sh.heap H) cdv H
  have I : L2.Inv (cxOf CX0 P w K mg (hidT sh.heap H) N "law" (defScope st) fa cdv callerA [] sh H E0) [] (L2.start N [.ref arg]) H s1 :=
    inv_start (us := [.ref arg]) S rfl start0 rfl (.cons rfl .nil) inside
  have fin : ∀ {σ2 : L2.St} {H2 : Hp} {s2 : Shared} {u : Value} {v : V}, L2.Inv (cxOf CX0 P w K mg (hidT sh.heap H) N "law" (defScope st) fa cdv callerA [] sh H E0) [] σ2 H2 s2 → RelV v u → v = .bl true →
      ((Except.ok (.ret u) : Result) = .ok (.ret (.bool true))) ∧ OldK sh.heap s2.heap ∧ s2.os = sh.os ∧ AllBare s2.gens := fun {σ2 H2 s2 u v} J rv hv => by
    subst hv
    have hu : u = Value.bool true := rv
    subst hu
    refine ⟨rfl, OldK.of_keep fun c o e => ?_, J.os, J.bare⟩
    cases q : H c with
    | none => exact J.base.keep c o e q (List.not_mem_nil) (List.not_mem_nil)
    | some u =>
      obtain ⟨rfl, _, rfl⟩ := hH q
      obtain ⟨a1, _⟩ := ok c _ q
      obtain ⟨a2, _⟩ := J.hok c _ (J.base.frzs c _ _ q)
      rw [e] at a1
      obtain rfl := Option.some.inj a1
      exact a2
  have k0 : StOk K H H H H (L2.start N [.ref arg]) (init N [.frz (xs.map D.int)]) := init_ok (fun _ _ z => z) N (.cons (.frz seq (RpA.of_ints xs)) .nil)
  have hrun : t { nx := fun _ _ => False, rt := fun v _ => v = .bl true } (L2.start N [.ref arg]) H := hd _ k0 ⟨fun ρ σ S2 H2 p _ _ => (by cases p), fun ρ σ S2 H2 p _ _ => (by cases p), fun ρ σ S2 H2 p _ _ => (by cases p), fun d v S2 H2 p _ r => by
    cases p
    cases r
    rfl⟩
  refine wpAny_mono (pt.run [] s1 _ H _ (I.wish _) hrun) (fun fl s2 out0 => ?_) fun e s2 z => False.elim z
  · have out := out0.unwish
    cases fl with
    | ret u =>
      obtain ⟨v, σ2, H2, J, rv, hv⟩ := out
      exact fin J rv hv
    | next =>
      obtain ⟨_, _, _, z⟩ := out
      exact z.elim
    | brk =>
      obtain ⟨_, _, _, z⟩ := out
      exact z.elim
    | cont =>
      obtain ⟨_, _, _, z⟩ := out
      exact z.elim
end DL

set_option Elab.async false
set_option linter.all false
set_option maxRecDepth 100000
set_option maxHeartbeats 4000000
/-! DL21: a def that hands out a list of its own; an own list lent to a test. -/
namespace DL
open PySem L2
/-- the promise of a def that hands out a new list -/
def spF (K : Fr) (rel : List D → List D → Prop) : Sp := fun vs H Q _ => ∃ S ds es, Ex S H ∧ RpA K S vs ds ∧ rel ds es ∧ ∀ p ws S' H', Gr S H S' H' → H p = none → S' p = none → H' p = some (.lst ws) → RpA K S' ws es → Q (.ref p) H'
structure SN (K : Fr) (t : TS) (ρ : Env) (es : List D) : Prop where
  run : ∀ {S0 H0 S H : Hp} {σ : L2.St} (Dn : Ends), StOk K S0 H0 S H σ ρ → (∀ p ws S' H', Gr S0 H0 S' H' → H0 p = none → S' p = none → H' p = some (.lst ws) → RpA K S' ws es → Dn.rt (.ref p) H') → t Dn σ H
section
variable {K : Fr} {ρ : Env} {t u : TS} {es : List D}
theorem sn_seq (h : SD K t ρ (fun o => ∃ ρ', o = .nx ρ' ∧ SN K u ρ' es)) : SN K (tSeq t u) ρ es := .mk fun Dn k f =>
  h { Dn with nx := u Dn } k ⟨fun ρ σ S' H' p _ k' => by
    obtain ⟨ρ', e, p⟩ := p
    cases e
    exact p.run Dn k' f, fun ρ σ S' H' p => (by obtain ⟨_, e, _⟩ := p; cases e), fun ρ σ S' H' p => (by obtain ⟨_, e, _⟩ := p; cases e), fun d v S' H' p => (by obtain ⟨_, e, _⟩ := p; cases e)⟩
theorem sn_ret {i : Nat} (hi : ρ[i]? = some (.ml es)) : SN K (tRet (tVar i)) ρ es := .mk fun Dn k f => by
  obtain ⟨p, ws, hs, h0, hS, hH, r⟩ := k.at_ i _ hi
  exact ⟨_, hs, f p ws _ _ k.gr h0 hS hH r⟩
theorem evn_callF {ta : TA} {ds : List D} {rel : List D → List D → Prop} {E : XK} (h : EvA K ta ρ ds) (hr : rel ds es) : EvN K (tCall (spF K rel) [] E ta) ρ es := .mk fun k Q q =>
  h k _ fun vs S1 H1 g1 r1 => ⟨S1, ds, es, g1.sh, by rw [List.append_nil]; exact r1, hr, fun p ws S2 H2 g2 h1 h2 h3 r2 => q p ws S2 H2 (g1.trans g2) h2 (g1.hh.none h1) h3 r2⟩
/-- an own list, lent to a test -/
theorem evb_lend {tt : TT} {b : Bool} {i : Nat} (hi : ρ[i]? = some (.ml es)) (h : EvB K tt (ρ.set i (.im (.lst es))) b) : EvB K tt ρ b := .mk fun {S0 H0 S H σ} k Q q => by
  obtain ⟨S1, k1, e1⟩ := k.freeze hi rfl
  refine h k1 Q fun S2 H2 g2 => q S H2 ⟨.refl S, k.ex.trans g2.hh, g2.hh, fun _ _ z _ _ => z⟩
end
theorem ok_HN {P : Program} {w : World} {K : Fr} {mg : Str → Option Value} {base : Heap} {x : Str} {st : Stmt} {N ps : List Str} {k : Nat} {rel : List D → List D → Prop}
    (T : At K mg x st ps) (S : FnScope N ps (defScope st)) (hl : ∀ ds es, rel ds es → ds.length = ps.length)
    (hbody : ∀ (f : Addr) (cdv : Value) (A : Around) (outer : List PySem.Env) (s : Shared) (H : Hp) (E : XK), Room k (A.deeper (PyProof.Rows.envOfC x (defScope st) s.heap.objs.size f cdv)) →
      ∃ t, PSs (cxOf CX0 P w K mg base N x (defScope st) f cdv A outer s H E).nox (defBody st) t ∧ ∀ ds es, rel ds es → SN K t (init N ds) es) :
    Has P w K mg base CX0 x (k + 1) ps (spF K rel) := by
  obtain ⟨f, fd, F, hm, hb⟩ := T.ex
  refine ⟨f, fd, F.ok S (fun vs H Q E h => ?_) (fun cdv A outer s H vs Q E hr h => ?_), hm, F.kp, hb⟩
  · obtain ⟨_, ds, es, _, r, hrel, _⟩ := h
    rw [r.length]
    exact hl _ _ hrel
  · obtain ⟨S1, ds, es, e, r, hrel, q⟩ := h
    obtain ⟨t, ht, hsn⟩ := hbody f cdv A outer s H E hr
    exact ⟨t, ht, (hsn ds es hrel).run _ (init_ok e N r) q⟩
end DL

set_option Elab.async false
set_option linter.all false
set_option maxRecDepth 100000
set_option maxHeartbeats 4000000
namespace DL
open PySem L2 PySem.W
local macro_rules | `(tactic| walk_at "evd") => `(tactic| first
  | with_reducible exact evd_int
  | with_reducible exact evd_str
  | with_reducible exact evd_bl
  | with_reducible exact evd_non
  | ((with_reducible apply evd_var); rfl)
  | walk_at "evn"
  | ((with_reducible apply EvN.ev); walk_at "evn")
  | ((with_reducible apply evd_op) <;> (try walk_at "evd"))
  | ((with_reducible apply evd_un) <;> (try walk_at "evd"))
  | ((with_reducible apply evb_test) <;> (try walk_at "evd"))
  | ((with_reducible apply evb_B) <;> (try walk_at "evd"))
  | with_reducible exact evb_yes
  | ((with_reducible apply evb_not) <;> (try walk_at "evd"))
  | ((with_reducible apply evb_and) <;> (try walk_at "evd"))
  | ((with_reducible apply evb_or) <;> (try walk_at "evd"))
  | ((with_reducible apply evd_andV) <;> (try walk_at "evd"))
  | ((with_reducible apply evd_orV) <;> (try walk_at "evd"))
  | ((with_reducible apply evd_notV) <;> (try walk_at "evd"))
  | ((with_reducible apply evd_chain) <;> (try walk_at "evd"))
  | walk_at "evd2")
local macro_rules | `(tactic| walk_at "evn") => `(tactic| first
  | ((with_reducible apply evn_cat) <;> (try walk_at "evd"))
  | ((with_reducible apply evn_lst) <;> (try walk_at "evd"))
  | ((with_reducible apply evn_slL) <;> (try walk_at "evd"))
  | ((with_reducible apply evn_lc) <;> (try walk_at "evd"))
  | ((with_reducible apply evn_listRg) <;> (try walk_at "evd"))
  | ((with_reducible apply evn_revL) <;> (try walk_at "evd"))
  | focus ((with_reducible apply evn_keysE); (rfl); (all_goals (try walk_at "evd")))
  | focus ((with_reducible apply evn_cb (r := rSrtI _)); (focus walk_at "evd"); (all_goals (try walk_at "rc")))
  | focus ((with_reducible apply evn_cb (r := rSrtR _)); (focus walk_at "evd"); (all_goals (try walk_at "rc")))
  | focus ((with_reducible apply evn_cb (r := rSrtP _)); (focus walk_at "evd"); (all_goals (try walk_at "rc")))
  | focus ((with_reducible apply evn_cb (r := rSrtD _)); (focus walk_at "evd"); (all_goals (try walk_at "rc")))
  | focus ((with_reducible apply evn_cb (r := rListOf _)); (focus walk_at "evd"); (all_goals (try walk_at "rc"))))
local macro_rules | `(tactic| walk_at "evd2") => `(tactic| first
  | ((with_reducible apply evd_tupL) <;> (try walk_at "evd"))
  | ((with_reducible apply evd_tupF) <;> (try walk_at "evd"))
  | ((with_reducible apply evd_tup) <;> (try walk_at "evd"))
  | with_reducible exact eva_nil
  | ((with_reducible apply eva_cons) <;> (try walk_at "evd"))
  | with_reducible exact evp_none
  | ((with_reducible apply evp_some) <;> (try walk_at "evd"))
  | focus ((with_reducible apply evd_slT); (focus walk_at "evd"); (all_goals (try walk_at "evd")))
  | focus ((with_reducible apply evd_slU); (focus walk_at "evd"); (all_goals (try walk_at "evd")))
  | exact gd_name
  | exact gd_two
  | ((with_reducible apply iv_list) <;> (try walk_at "evd"))
  | focus ((with_reducible apply iv_tup); walk_at "evd")
  | focus ((with_reducible apply iv_ftu); walk_at "evd")
  | ((with_reducible apply iv_enumQ) <;> (try walk_at "evd"))
  | ((with_reducible apply iv_rng1) <;> (try walk_at "evd"))
  | ((with_reducible apply iv_rng2) <;> (try walk_at "evd"))
  | ((with_reducible apply iv_enum) <;> (try walk_at "evd"))
  | ((with_reducible apply evd_tupRg) <;> (try walk_at "evd"))
  | ((with_reducible apply evr_1) <;> (try walk_at "evd"))
  | ((with_reducible apply evr_2) <;> (try walk_at "evd"))
  | focus ((with_reducible apply evd_call); (focus walk_at "evd"); (all_goals (try walk_at "rel")))
  | ((with_reducible apply evd_lenSet) <;> (try walk_at "evd"))
  | walk_at "evd3"
  | ((with_reducible apply evd_tix) <;> (try walk_at "evd"))
  | focus ((with_reducible apply evd_bmL); (focus walk_at "evd"); (all_goals (try walk_at "evd")))
  | focus ((with_reducible apply evd_cb); (focus walk_at "evd"); (all_goals (try walk_at "rc")))
  | walk_at "rc"
  | (intro _; walk_at "evd"))
local macro_rules | `(tactic| walk_at "evd3") => `(tactic| first
  | focus ((with_reducible apply evd_fld); (focus walk_at "evd"); (all_goals (try first | rfl | assumption | walk_at "fact")))
  | focus ((with_reducible apply evd_make); (focus walk_at "evd"); (all_goals (try walk_at "rel")))
  | focus ((with_reducible apply evd_meth); (focus walk_at "evd"); (focus walk_at "evd"); (all_goals (try first | rfl | walk_at "rel")))
  | focus ((with_reducible apply evd_prop); (focus walk_at "evd"); (all_goals (try walk_at "rel")))
  | focus ((with_reducible apply evd_spc); (focus walk_at "evd"); (all_goals (try walk_at "rel")))
  | focus ((with_reducible apply evd_isiO); (focus walk_at "evd"); (all_goals (try walk_at "fact")))
  | focus ((with_reducible apply evd_isi); (focus walk_at "evd"); (all_goals (try first | rfl | decide +kernel)))
  | ((with_reducible apply evd_cval) <;> (try walk_at "fact"))
  | focus ((with_reducible apply evd_inME); (rfl); (all_goals (try walk_at "evd")))
  | focus ((with_reducible apply evd_get2I); (rfl); (all_goals (try walk_at "evd")))
  | focus ((with_reducible apply evd_get2R); (rfl); (all_goals (try walk_at "evd")))
  | focus ((with_reducible apply evd_getME); (rfl); (all_goals (try walk_at "evd")))
  | focus ((with_reducible apply evd_getLI); (focus walk_at "evd"); (all_goals (try walk_at "evd")))
  | focus ((with_reducible apply evd_getDI); (focus walk_at "evd"); (all_goals (try walk_at "evd")))
  | focus ((with_reducible apply evd_getDR); (focus walk_at "evd"); (all_goals (try walk_at "evd")))
  | focus ((with_reducible apply evd_getLE); (focus walk_at "evd"); (all_goals (try walk_at "evd")))
  | focus ((with_reducible apply evd_getDE); (focus walk_at "evd"); (all_goals (try walk_at "evd")))
  | ((with_reducible apply evm_new)))
local macro_rules | `(tactic| walk_at "rc") => `(tactic| first
  | with_reducible apply rv_add
  | with_reducible apply rv_sub
  | with_reducible apply rv_cmp
  | with_reducible apply ru_neg
  | with_reducible apply rv_eqI
  | with_reducible apply rv_neI
  | with_reducible apply rv_eqS
  | with_reducible apply rv_neS
  | with_reducible apply rv_inT
  | with_reducible apply rv_inL
  | with_reducible apply rv_notInT
  | with_reducible apply rv_notInL
  | with_reducible apply rc_lenL
  | with_reducible apply rc_lenT
  | with_reducible apply rc_lenF
  | with_reducible apply rc_lenA
  | with_reducible apply rc_lenU
  | with_reducible apply rn_srtIL
  | with_reducible apply rn_srtIT
  | with_reducible apply rn_srtIA
  | with_reducible apply rn_srtP
  | with_reducible apply rn_srtR
  | with_reducible apply rn_srtDE
  | with_reducible apply rn_listL
  | with_reducible apply rn_listT
  | with_reducible apply rn_listA
  | with_reducible apply rc_abs
  | with_reducible apply rc_sum
  | with_reducible apply rc_int
  | walk_at "rc2")
local macro_rules | `(tactic| walk_at "rc2") => `(tactic| first
  | with_reducible apply rv_ixT0I
  | with_reducible apply rv_ixTZI
  | with_reducible apply rv_ixU0I
  | with_reducible apply rv_ixUZI
  | with_reducible apply rv_ixL0I
  | with_reducible apply rv_ixLZI
  | with_reducible apply rv_ixF0I
  | with_reducible apply rv_ixFZI
  | with_reducible apply rv_ixL0R
  | with_reducible apply rv_ixTR
  | with_reducible apply rv_ixL0L
  | with_reducible apply rv_ixTL
  | with_reducible apply rv_ixL0U
  | with_reducible apply rv_ixTU
  | with_reducible apply rv_ixQ
  | with_reducible apply rv_ixQ0
  | with_reducible apply rv_ixQZ
  | with_reducible apply rv_ix20
  | with_reducible apply rv_ix21
  | with_reducible apply rv_ixTI
  | with_reducible apply rv_ixUI
  | with_reducible apply rv_ixLI
  | with_reducible apply rv_ixFI
  | with_reducible apply rv_ixLR
  | with_reducible apply rv_ixLL
  | with_reducible apply rv_ixLU
  | with_reducible apply rv_mul
  | with_reducible apply rv_fdiv
  | with_reducible apply rv_mod
  | with_reducible apply rv_pow
  | with_reducible apply rv_ixL
  | with_reducible apply rv_ixF
  | with_reducible apply rv_ixT
  | with_reducible apply rv_ixU
  | with_reducible apply rv_ixA
  | with_reducible apply rv_catT
  | with_reducible apply rv_eqTI
  | with_reducible apply rv_neTI
  | with_reducible apply rv_eqLI
  | with_reducible apply rv_neLI
  | with_reducible apply rv_eqTR
  | with_reducible apply rv_inLR
  | with_reducible apply rv_notInLR
  | with_reducible apply rm_lix
  | with_reducible apply rn_srtIL'
  | with_reducible apply rn_srtR'
  | with_reducible apply rn_srtP'
  | with_reducible apply rv_inT'
  | with_reducible apply rv_inL'
  | with_reducible apply rv_notInT'
  | with_reducible apply rv_notInL'
  | with_reducible apply rc_sum'
  | with_reducible apply rc_min'
  | with_reducible apply rm_lix')
local macro_rules | `(tactic| walk_at "bnd") => `(tactic| first
  | omega
  | exact map_snoc
  | exact map_cat
  | ((have hszl := szl); (simp only [List.length_map, List.length_range, List.length_append, List.length_cons, List.length_nil, List.length_take, List.length_drop, Int.toNat_natCast, Nat.add_zero, Nat.zero_add, Int.natCast_add, Int.natCast_one] at *); omega)
  | ((simp only [List.length_map]); (refine Nat.le_trans (Nat.add_le_add_right (List.length_filter_le _ _) _) ?_); walk_at "bnd"))

section
variable {P : Program} {w : World} {K : Fr} {mg : Str → Option Value} {base : Heap} {CB CC CN CM : Addr}
local macro_rules | `(tactic| walk_at "rel") => `(tactic| first | (with_reducible apply r_check_orders; assumption))
def R_full_ordersN (ds : List D) (es : List D) : Prop := ∃ (b : Bool) (os : List (List Int)) (n v : Nat), Ord os n v ∧ ds = [ordD b os] ∧ es = (frows os n v).map dU
theorem ok_full_ordersN (T : At K mg "full_orders" s_full_orders ["orders"]) (B : Bi mg) (G_check_orders : Has P w K mg base CX0 "check_orders" 1 ["orders"] (spD K R_check_orders)) : Has P w K mg base CX0 "full_orders" 2 ["orders"] (spF K R_full_ordersN) := by
  refine ok_HN T sc_full_orders (fun ds d h => by obtain ⟨_, r, _, _, _, rfl, _⟩ := h; rfl) (fun f cdv A outer s H E hr => ⟨_, (pss_cons (ps_asg (pe_callH G_check_orders hr (by decide) rfl (pa_cons (pv 0) pa_nil)) (pg_tupK K (n := 2) rfl (pgs_cons (pg_name (i := 1) sc_full_orders.nd rfl (by first | exact Or.inl rfl | exact Or.inr rfl)) (pgs_cons (pg_name (i := 2) sc_full_orders.nd rfl (by first | exact Or.inl rfl | exact Or.inr rfl)) pgs_nil))))
        (pss_cons (ps_set (i := 3) sc_full_orders.nd rfl (by first | exact Or.inl rfl | exact Or.inr rfl) (pe_lst pa_nil))
        (pss_cons (ps_for PassesOwn.never rfl (pi_enumQK K rfl B.enumerate (pa_cons (pv 0) pa_nil)) (pg_tupK K (n := 2) rfl (pgs_cons (pg_name (i := 4) sc_full_orders.nd rfl (by first | exact Or.inl rfl | exact Or.inr rfl)) (pgs_cons (pg_name (i := 5) sc_full_orders.nd rfl (by first | exact Or.inl rfl | exact Or.inr rfl)) pgs_nil))) (pss_cons (ps_setLc (i := 6) (own := [("k", 7)]) (by rfl) sc_full_orders.nd rfl rfl (sw_true rfl rfl rfl (by decide +kernel)) (pi_range1 rfl B.range (pa_cons (pv 1) pa_nil)) (blkOk_by (N := ["orders", "number", "things", "rows", "at", "order", "others", "k"]) (sc := (defScope s_full_orders)) (by decide +kernel)) (fun _ _ _ _ _ => pg_name (i := 7) sc_full_orders.nd rfl (by first | exact Or.inl rfl | exact Or.inr rfl)) (fun _ _ _ _ _ => pts_one (pt_cmpR op_ne (pv 7) (pv 4) (nomark _))) (fun _ _ _ _ _ => pe_op op_add (pv 2) (pv 7)))
        (pss_one (ps_expr (pe_appendK K (pv 3) (pa_cons (pe_tupF K rfl B.tuple (pe_op op_cat (pe_op op_cat (pe_lst (pa_cons (pe_op op_add (pv 2) (pv 4)) pa_nil)) (pe_callTy (cl_list K) rfl B.list (by decide +kernel) (pa_cons (pv 5) pa_nil))) (pv 6))) pa_nil))))))
        (pss_one (ps_ret (pv 3)))))), ?_⟩)
  rintro ds d ⟨b, os, n, v, O, rfl, rfl⟩
  unfold ordD
  have hlen := O.len
  have h1 := O.n1
  have h4 := O.n4
  have h5 := O.v1
  have h6 := O.v8
  apply sn_seq
  apply sd_asg
  · walk_at "evd"
  · walk_at "evd"
  refine ⟨_, rfl, ?_⟩
  apply sn_seq
  apply sd_setN
  · walk_at "evn"
    all_goals walk_at "bnd"
  refine ⟨_, rfl, ?_⟩
  apply sn_seq
  apply sd_for (e := fun i : Nat => D.tup [.int (i : Nat), D.sq b ((os.getD i []).map D.int)]) (items := List.range n) (Inv := fun i ρ => ∃ x y z t, ρ = [.im (D.sq b (os.map fun o => D.sq b (o.map D.int))), .im (.int (n : Nat)), .im (.int (v : Nat)), .ml (((List.range i).map fun i => frow n v i (os.getD i [])).map dU), x, y, z, t])
  · rw [← enD_ord O]
    walk_at "evd"
  · exact ⟨_, _, _, _, rfl⟩
  · rintro i a ρ1 ha ⟨x, y, z, t, rfl⟩
    obtain rfl := rng_at ha
    have hi := rng_lt ha
    have hol := O.olen (O.get hi)
    refine ⟨_, _, gd_two, ?_⟩
    apply sd_seq
    apply sd_setE (d := .lst ((others n v i).map D.int))
    · walk_at "evd"
      all_goals walk_at "bnd"
    · unfold others
      rw [List.map_map, Int.toNat_natCast]
      congr 2
      apply List.filter_congr
      intro k _
      simp
      omega
    have hol2 := others_len n v i
    apply sd_app
    · rfl
    · walk_at "evd"
      all_goals walk_at "bnd"
    · walk_at "bnd"
    · refine ⟨.im (.int (i : Nat)), .im (D.sq b ((os.getD i []).map D.int)), .im (.lst ((others n v i).map D.int)), t, ?_⟩
      rw [List.range_succ, List.map_append, List.map_append]
      rw [show ([D.int ((v : Int) + (i : Int))] ++ (os.getD i []).map D.int ++ (others n v i).map D.int) = (frow n v i (os.getD i [])).map D.int from by simp [frow]]
      rfl
  · rintro ρ1 ⟨x, y, z, t, rfl⟩
    refine ⟨_, rfl, ?_⟩
    apply sn_ret
    rw [List.length_range]
    rfl
end
end DL

set_option Elab.async false
set_option linter.all false
set_option maxRecDepth 100000
set_option maxHeartbeats 4000000
namespace DL
open PySem L2 PySem.W
local macro_rules | `(tactic| walk_at "evd") => `(tactic| first
  | with_reducible exact evd_int
  | with_reducible exact evd_str
  | with_reducible exact evd_bl
  | with_reducible exact evd_non
  | ((with_reducible apply evd_var); rfl)
  | walk_at "evn"
  | ((with_reducible apply EvN.ev); walk_at "evn")
  | ((with_reducible apply evd_op) <;> (try walk_at "evd"))
  | ((with_reducible apply evd_un) <;> (try walk_at "evd"))
  | ((with_reducible apply evb_test) <;> (try walk_at "evd"))
  | ((with_reducible apply evb_B) <;> (try walk_at "evd"))
  | with_reducible exact evb_yes
  | ((with_reducible apply evb_not) <;> (try walk_at "evd"))
  | ((with_reducible apply evb_and) <;> (try walk_at "evd"))
  | ((with_reducible apply evb_or) <;> (try walk_at "evd"))
  | ((with_reducible apply evd_andV) <;> (try walk_at "evd"))
  | ((with_reducible apply evd_orV) <;> (try walk_at "evd"))
  | ((with_reducible apply evd_notV) <;> (try walk_at "evd"))
  | ((with_reducible apply evd_chain) <;> (try walk_at "evd"))
  | walk_at "evd2")
local macro_rules | `(tactic| walk_at "evn") => `(tactic| first
  | ((with_reducible apply evn_cat) <;> (try walk_at "evd"))
  | ((with_reducible apply evn_lst) <;> (try walk_at "evd"))
  | ((with_reducible apply evn_slL) <;> (try walk_at "evd"))
  | ((with_reducible apply evn_lc) <;> (try walk_at "evd"))
  | ((with_reducible apply evn_listRg) <;> (try walk_at "evd"))
  | ((with_reducible apply evn_revL) <;> (try walk_at "evd"))
  | focus ((with_reducible apply evn_keysE); (rfl); (all_goals (try walk_at "evd")))
  | focus ((with_reducible apply evn_cb (r := rSrtI _)); (focus walk_at "evd"); (all_goals (try walk_at "rc")))
  | focus ((with_reducible apply evn_cb (r := rSrtR _)); (focus walk_at "evd"); (all_goals (try walk_at "rc")))
  | focus ((with_reducible apply evn_cb (r := rSrtP _)); (focus walk_at "evd"); (all_goals (try walk_at "rc")))
  | focus ((with_reducible apply evn_cb (r := rSrtD _)); (focus walk_at "evd"); (all_goals (try walk_at "rc")))
  | focus ((with_reducible apply evn_cb (r := rListOf _)); (focus walk_at "evd"); (all_goals (try walk_at "rc"))))
local macro_rules | `(tactic| walk_at "evd2") => `(tactic| first
  | ((with_reducible apply evd_tupL) <;> (try walk_at "evd"))
  | ((with_reducible apply evd_tupF) <;> (try walk_at "evd"))
  | ((with_reducible apply evd_tup) <;> (try walk_at "evd"))
  | with_reducible exact eva_nil
  | ((with_reducible apply eva_cons) <;> (try walk_at "evd"))
  | with_reducible exact evp_none
  | ((with_reducible apply evp_some) <;> (try walk_at "evd"))
  | focus ((with_reducible apply evd_slT); (focus walk_at "evd"); (all_goals (try walk_at "evd")))
  | focus ((with_reducible apply evd_slU); (focus walk_at "evd"); (all_goals (try walk_at "evd")))
  | exact gd_name
  | exact gd_two
  | ((with_reducible apply iv_list) <;> (try walk_at "evd"))
  | focus ((with_reducible apply iv_tup); walk_at "evd")
  | focus ((with_reducible apply iv_ftu); walk_at "evd")
  | ((with_reducible apply iv_enumQ) <;> (try walk_at "evd"))
  | ((with_reducible apply iv_rng1) <;> (try walk_at "evd"))
  | ((with_reducible apply iv_rng2) <;> (try walk_at "evd"))
  | ((with_reducible apply iv_enum) <;> (try walk_at "evd"))
  | ((with_reducible apply evd_tupRg) <;> (try walk_at "evd"))
  | ((with_reducible apply evr_1) <;> (try walk_at "evd"))
  | ((with_reducible apply evr_2) <;> (try walk_at "evd"))
  | focus ((with_reducible apply evd_call); (focus walk_at "evd"); (all_goals (try walk_at "rel")))
  | ((with_reducible apply evd_lenSet) <;> (try walk_at "evd"))
  | walk_at "evd3"
  | ((with_reducible apply evd_tix) <;> (try walk_at "evd"))
  | focus ((with_reducible apply evd_bmL); (focus walk_at "evd"); (all_goals (try walk_at "evd")))
  | focus ((with_reducible apply evd_cb); (focus walk_at "evd"); (all_goals (try walk_at "rc")))
  | walk_at "rc"
  | (intro _; walk_at "evd"))
local macro_rules | `(tactic| walk_at "evd3") => `(tactic| first
  | focus ((with_reducible apply evd_fld); (focus walk_at "evd"); (all_goals (try first | rfl | assumption | walk_at "fact")))
  | focus ((with_reducible apply evd_make); (focus walk_at "evd"); (all_goals (try walk_at "rel")))
  | focus ((with_reducible apply evd_meth); (focus walk_at "evd"); (focus walk_at "evd"); (all_goals (try first | rfl | walk_at "rel")))
  | focus ((with_reducible apply evd_prop); (focus walk_at "evd"); (all_goals (try walk_at "rel")))
  | focus ((with_reducible apply evd_spc); (focus walk_at "evd"); (all_goals (try walk_at "rel")))
  | focus ((with_reducible apply evd_isiO); (focus walk_at "evd"); (all_goals (try walk_at "fact")))
  | focus ((with_reducible apply evd_isi); (focus walk_at "evd"); (all_goals (try first | rfl | decide +kernel)))
  | ((with_reducible apply evd_cval) <;> (try walk_at "fact"))
  | focus ((with_reducible apply evd_inME); (rfl); (all_goals (try walk_at "evd")))
  | focus ((with_reducible apply evd_get2I); (rfl); (all_goals (try walk_at "evd")))
  | focus ((with_reducible apply evd_get2R); (rfl); (all_goals (try walk_at "evd")))
  | focus ((with_reducible apply evd_getME); (rfl); (all_goals (try walk_at "evd")))
  | focus ((with_reducible apply evd_getLI); (focus walk_at "evd"); (all_goals (try walk_at "evd")))
  | focus ((with_reducible apply evd_getDI); (focus walk_at "evd"); (all_goals (try walk_at "evd")))
  | focus ((with_reducible apply evd_getDR); (focus walk_at "evd"); (all_goals (try walk_at "evd")))
  | focus ((with_reducible apply evd_getLE); (focus walk_at "evd"); (all_goals (try walk_at "evd")))
  | focus ((with_reducible apply evd_getDE); (focus walk_at "evd"); (all_goals (try walk_at "evd")))
  | ((with_reducible apply evm_new)))
local macro_rules | `(tactic| walk_at "rc") => `(tactic| first
  | with_reducible apply rv_add
  | with_reducible apply rv_sub
  | with_reducible apply rv_cmp
  | with_reducible apply ru_neg
  | with_reducible apply rv_eqI
  | with_reducible apply rv_neI
  | with_reducible apply rv_eqS
  | with_reducible apply rv_neS
  | with_reducible apply rv_inT
  | with_reducible apply rv_inL
  | with_reducible apply rv_notInT
  | with_reducible apply rv_notInL
  | with_reducible apply rc_lenL
  | with_reducible apply rc_lenT
  | with_reducible apply rc_lenF
  | with_reducible apply rc_lenA
  | with_reducible apply rc_lenU
  | with_reducible apply rn_srtIL
  | with_reducible apply rn_srtIT
  | with_reducible apply rn_srtIA
  | with_reducible apply rn_srtP
  | with_reducible apply rn_srtR
  | with_reducible apply rn_srtDE
  | with_reducible apply rn_listL
  | with_reducible apply rn_listT
  | with_reducible apply rn_listA
  | with_reducible apply rc_abs
  | with_reducible apply rc_sum
  | with_reducible apply rc_int
  | walk_at "rc2")
local macro_rules | `(tactic| walk_at "rc2") => `(tactic| first
  | with_reducible apply rv_ixT0I
  | with_reducible apply rv_ixTZI
  | with_reducible apply rv_ixU0I
  | with_reducible apply rv_ixUZI
  | with_reducible apply rv_ixL0I
  | with_reducible apply rv_ixLZI
  | with_reducible apply rv_ixF0I
  | with_reducible apply rv_ixFZI
  | with_reducible apply rv_ixL0R
  | with_reducible apply rv_ixTR
  | with_reducible apply rv_ixL0L
  | with_reducible apply rv_ixTL
  | with_reducible apply rv_ixL0U
  | with_reducible apply rv_ixTU
  | with_reducible apply rv_ixQ
  | with_reducible apply rv_ixQ0
  | with_reducible apply rv_ixQZ
  | with_reducible apply rv_ix20
  | with_reducible apply rv_ix21
  | with_reducible apply rv_ixTI
  | with_reducible apply rv_ixUI
  | with_reducible apply rv_ixLI
  | with_reducible apply rv_ixFI
  | with_reducible apply rv_ixLR
  | with_reducible apply rv_ixLL
  | with_reducible apply rv_ixLU
  | with_reducible apply rv_mul
  | with_reducible apply rv_fdiv
  | with_reducible apply rv_mod
  | with_reducible apply rv_pow
  | with_reducible apply rv_ixL
  | with_reducible apply rv_ixF
  | with_reducible apply rv_ixT
  | with_reducible apply rv_ixU
  | with_reducible apply rv_ixA
  | with_reducible apply rv_catT
  | with_reducible apply rv_eqTI
  | with_reducible apply rv_neTI
  | with_reducible apply rv_eqLI
  | with_reducible apply rv_neLI
  | with_reducible apply rv_eqTR
  | with_reducible apply rv_inLR
  | with_reducible apply rv_notInLR
  | with_reducible apply rm_lix
  | with_reducible apply rn_srtIL'
  | with_reducible apply rn_srtR'
  | with_reducible apply rn_srtP'
  | with_reducible apply rv_inT'
  | with_reducible apply rv_inL'
  | with_reducible apply rv_notInT'
  | with_reducible apply rv_notInL'
  | with_reducible apply rc_sum'
  | with_reducible apply rc_min'
  | with_reducible apply rm_lix')
local macro_rules | `(tactic| walk_at "bnd") => `(tactic| first
  | omega
  | exact map_snoc
  | exact map_cat
  | ((have hszl := szl); (simp only [List.length_map, List.length_range, List.length_append, List.length_cons, List.length_nil, List.length_take, List.length_drop, Int.toNat_natCast, Nat.add_zero, Nat.zero_add, Int.natCast_add, Int.natCast_one] at *); omega)
  | ((simp only [List.length_map]); (refine Nat.le_trans (Nat.add_le_add_right (List.length_filter_le _ _) _) ?_); walk_at "bnd"))

section
variable {P : Program} {w : World} {K : Fr} {mg : Str → Option Value} {CB CC CN CM : Addr}
/-! ### what the parts are asked -/
section
variable {os : List (List Int)} {n v : Nat}
theorem in_room (O : Ord os n v) {r : List Int} (h : Rom n v r) : r ≠ [] ∧ r.length ≤ 100 ∧ ∀ row ∈ frows os n v, row.length ≤ 100 ∧ ∀ p ∈ r, p ∈ row := by
  have h1 := O.n1
  have h4 := O.n4
  have hl := h.len
  refine ⟨fun e => by rw [e] at hl; simp at hl; omega, by omega, fun row hr => ⟨frow_len O hr, fun p hp => (mem_frow O hr p).mpr ?_⟩⟩
  have := h.bd p hp
  omega
theorem lt_ok (O : Ord os n v) {rooms : List (List Int)} (p : rooms.Perm (unb os n v)) : R_lterms [dLs (frows os n v), dRs rooms, dR (ownP n v)] (dTs (trm os n v)) := by
  have h4 := O.n4
  have hf := O.unb_few
  refine ⟨_, rooms, _, by rw [frows_len]; omega, by rw [p.length_eq]; omega, fun r hr => in_room O (O.mem_unb.mp (p.mem_iff.mp hr)).1, rfl, ?_⟩
  rw [O.trm_of p]
theorem lb_ok (O : Ord os n v) (b : Bool) : R_lbook [ordD b os, .int ((v : Int) + n), .int (n : Nat), dRs (whl os n v), dTs (trm os n v)] (.bl true) := ⟨b, os, n, v, _, _, _, O, rfl, O.bk0, rfl, rfl⟩
theorem lu_ok (O : Ord os n v) : R_lunb [dLs (frows os n v)] (dRs (unb os n v)) := by
  have h1 := O.n1
  have h4 := O.n4
  have h9 := O.nv
  refine ⟨_, n + v, by rw [frows_len]; omega, by rw [frows_len]; omega, by omega, fun row hr => ⟨?_, fun p p0 p1 => (mem_frow O hr p).mpr ⟨p0, by omega⟩⟩, rfl, ?_⟩
  · obtain ⟨i, hi, rfl⟩ := List.mem_map.mp hr
    have hi := List.mem_range.mp hi
    have hp : (frow n v i (os.getD i [])).Perm (rgI 0 ((v : Int) + n)) := perm_nd (O.row_nd hi) (rgI_nd _ _) fun p => by rw [O.row_mem hi, mem_rgI]
    rw [hp.length_eq, len_rgZ]
  · rw [frows_len, O.lunb_eq]
theorem fcs_filter {r : List Int} (nd : r.Nodup) (g : List Int) : ((tabZ r).filter fun z => decide (z.1 = g)).map (·.2) = if decide (g ∈ fcs r) = true then [r] else [] := by
  unfold tabZ
  rw [List.filter_map, List.map_map]
  have e : ((fun z : List Int × List Int => z.2) ∘ fun f => (f, r)) = fun _ => r := rfl
  have e2 : ((fun z : List Int × List Int => decide (z.1 = g)) ∘ fun f => (f, r)) = fun f => decide (f = g) := rfl
  rw [e, e2]
  by_cases h : g ∈ fcs r
  · rw [if_pos (decide_eq_true h), filter_one (fcs_nd nd) h fun x _ => by rw [decide_eq_true_iff]]
    rfl
  · rw [if_neg (by simpa using h), List.filter_eq_nil_iff.mpr]
    · rfl
    · intro x hx q
      exact h ((of_decide_eq_true q) ▸ hx)
theorem tab_whole {W : List (List Int)} (nd : ∀ r ∈ W, r.Nodup) (g : List Int) : (getA (ltab W) g).getD [] = W.filter fun r => decide (g ∈ fcs r) := by
  rw [ltab_get]
  induction W with
  | nil => rfl
  | cons r W ih =>
    rw [List.flatMap_cons, List.filter_append, List.map_append, ih fun x hx => nd x (List.mem_cons_of_mem _ hx), fcs_filter (nd r List.mem_cons_self), List.filter_cons]
    split <;> rfl
theorem lf_ok (O : Ord os n v) (b : Bool) : R_lfaces [ordD b os, dRs (whl os n v)] (.bl true) := by
  have h4 := O.n4
  have hwl := O.whl_len
  have hlen : ∀ r ∈ whl os n v, r.length ≤ 100 := fun r hr => by
    have := ((mem_whl.mp hr).rom O).1.len
    omega
  refine ⟨b, os, n, v, whl os n v, O, by omega, hlen, fun r hr k hk => ?_, rfl, rfl⟩
  have hw := mem_whl.mp hr
  obtain ⟨hR, hRa⟩ := hw.rom O
  have hkl : r[k]? = some r[k] := List.getElem?_eq_getElem hk
  have hg : r.getD k 0 = r[k] := by rw [List.getD_eq_getElem?_getD, hkl]; rfl
  obtain ⟨res, l', U, X⟩ := O.other hw (List.getElem_mem hk)
  refine ⟨res, ?_, ?_, by rw [hg]; exact U⟩
  · rw [face_dl hR.nd hkl, tab_whole fun x hx => ((mem_whl.mp hx).rom O).1.nd, List.filter_filter]
    refine filter_one O.whl_nd (mem_whl.mpr X.inw) fun x hx => ?_
    have hxw := mem_whl.mp hx
    rw [Bool.and_eq_true, Bool.not_eq_true', decide_eq_false_iff_not, decide_eq_true_iff]
    constructor
    · rintro ⟨h1, h2⟩
      obtain ⟨l2, hl2, e⟩ := (mem_fcs (hxw.rom O).1.nd).mp h2
      exact (X.only x l2 hxw hl2 e.symm).resolve_left h1
    · rintro rfl
      exact ⟨X.ne, (mem_fcs (X.inw.rom O).1.nd).mpr ⟨l', X.mem, X.face.symm⟩⟩
  · have := (X.inw.rom O).1.len
    omega
theorem sm_full (O : Ord os n v) : Sm 2 (dUs (frows os n v)) (dRs (frows os n v)) := by
  have h4 := O.n4
  refine .lst (by rw [List.length_map, List.length_map]) (by rw [List.length_map, frows_len]; omega) fun k a b ha hb => ?_
  rw [List.getElem?_map] at ha hb
  cases e : (frows os n v)[k]? with
  | none => rw [e] at ha; cases ha
  | some row =>
    rw [e] at ha hb
    cases ha
    cases hb
    have hl := frow_len O (List.mem_of_getElem? e)
    refine .ftu rfl (by rw [List.length_map]; omega) fun j x y hx hy => ?_
    rw [hx] at hy
    cases hy
    rw [List.getElem?_map] at hx
    cases e2 : row[j]? with
    | none => rw [e2] at hx; cases hx
    | some p =>
      rw [e2] at hx
      cases hx
      exact .int _ _
end
theorem sd_seqIf {ρ : Env} {c : TT} {te : TE} {u : TS} {i : Nat} {d : Bool → D} {b0 : Bool} {Q : Out → Prop} (hc : EvB K c ρ b0) (he : EvD K te ρ (d true)) (hi : ρ[i]? = some (.im (d false))) (next : ∀ b, SD K u (ρ.set i (.im (d b))) Q) :
    SD K (tSeq (tIfS c (tAsg te (gName i)) tNext) u) ρ Q := by
  refine sd_seq (sd_if hc (fun _ => sd_set he (next true)) fun _ => sd_next ?_)
  have e : ρ.set i (.im (d false)) = ρ := by
    apply List.ext_getElem?
    intro j
    rw [List.getElem?_set]
    split
    · rename_i h
      subst h
      rw [hi]
      have := (List.getElem?_eq_some_iff.mp hi).1
      rw [if_pos this]
    · rfl
  have h := next false
  rw [e] at h
  exact h
theorem ev_sort {os : List (List Int)} {n v : Nat} (O : Ord os n v) {ρ : Env} {te to : TE} {rooms : List (List Int)} (he : EvD K te ρ (dRs rooms)) (ho : EvD K to ρ (dR (ownP n v))) (hl : rooms.length ≤ 126) (hne : ∀ r ∈ rooms, r ≠ []) : EvD K (tCB (rSrtR K) (tCons (tOp rCat te (tLst (tCons to tNil))) tNil)) ρ (dRs (sortR (rooms ++ [ownP n v]))) := by
  have hz := szl
  have hon := own_rom (n := n) (v := v)
  apply EvN.ev
  apply evn_cb (r := rSrtR _)
  · apply eva_cons
    · apply EvN.ev
      apply evn_cat he
      · apply EvN.ev
        apply evn_lst
        · exact eva_cons ho eva_nil
        · exact Nat.le_trans (show _ ≤ 1 from Nat.le_refl _) (by decide)
      · rw [List.length_map]
        show _ + 1 ≤ _
        omega
    · exact eva_nil
  · refine rn_srtR' (rs := rooms ++ [ownP n v]) ?_ fun _ r hr => ?_
    · rw [List.map_append]
      rfl
    · rcases List.mem_append.mp hr with q | q
      · exact hne r q
      · rw [List.mem_singleton.mp q]
        exact (in_room O hon.1).1
def lawTail (K : Fr) (CB : Addr) : TS := (tSeq
                                          (tAsg
                                            (tOp rCat
                                              (tCall (spD K R_order) [] E0
                                                (tCons (tCall (spD K R_cell) [] E0 (tCons (tVar 0) (tCons (tC (V.int 8)) tNil)))
                                                  (tCons (tVar 2) tNil)))
                                              (tCB (rListOf K) (tCons (tVar 6) tNil)))
                                            (gName 14))
                                          (tSeq
                                            (tAsg
                                              (tLc (iList K (tVar 4)) (gName 10) tYes
                                                (tLc (iList K (tVar 10)) (gName 16) tYes (tOp (rIxL K) (tVar 14) (tVar 16))
                                                  (List.map (fun x : Str × Nat => x.snd) [(Str.ofString "_law_p", 16)]))
                                                (List.map (fun x : Str × Nat => x.snd) [(Str.ofString "_law_row", 10)]))
                                              (gName 15))
                                            (tSeq
                                              (tAsg
                                                (tLc (iList K (tVar 5)) (gName 10) tYes
                                                  (tLc (iList K (tVar 10)) (gName 16) tYes (tOp (rIxL K) (tVar 14) (tVar 16))
                                                    (List.map (fun x : Str × Nat => x.snd) [(Str.ofString "_law_p", 16)]))
                                                  (List.map (fun x : Str × Nat => x.snd) [(Str.ofString "_law_row", 10)]))
                                                (gName 17))
                                              (tSeq
                                                (tAsg
                                                  (tLc (iList K (tVar 7)) (gName 19) tYes
                                                    (tThen
                                                      (tCB (rSrtI K)
                                                        (tCons
                                                          (tLc (iTup K (tVar 19)) (gName 16) tYes (tOp (rIxL K) (tVar 14) (tVar 16))
                                                            (List.map (fun x : Str × Nat => x.snd) [(Str.ofString "_law_p", 16)]))
                                                          tNil))
                                                      (kTup K))
                                                    (List.map (fun x : Str × Nat => x.snd) [(Str.ofString "_law_room", 19)]))
                                                  (gName 18))
                                                (tSeq
                                                  (tAsg (tCB (rSrtR K) (tCons (tOp rCat (tVar 18) (tLst (tCons (tVar 6) tNil))) tNil))
                                                    (gName 20))
                                                  (tSeq
                                                    (tIfS
                                                      (tNot
                                                        (tB
                                                          (tCall (spD K R_lbook) [] E0
                                                            (tCons (tVar 15)
                                                              (tCons (tVar 3)
                                                                (tCons (tVar 1)
                                                                  (tCons (tVar 20)
                                                                    (tCons
                                                                      (tCall (spD K R_lterms) [] E0
                                                                        (tCons (tVar 17) (tCons (tVar 18) (tCons (tVar 6) tNil))))
                                                                      tNil))))))))
                                                      (tRet (tC (V.bl false))) tNext)
                                                    (tRet
                                                      (tAndV (tOp rEq (tCB (rRepr K) (tCons (tVar 9) tNil)) (tVar 11))
                                                        (tCall (spD K (R_lsame 5)) [] E0
                                                          (tCons
                                                            (tFld K (tCall (spD K (R_unbeaten_book CB)) [] E0 (tCons (tVar 9) tNil))
                                                              (Str.ofString "rooms"))
                                                            (tCons (tThen (tVar 8) (kTup K)) tNil)))))))))))
theorem law_tail {os : List (List Int)} {n v : Nat} {b : Bool} {xs : List Int} {x10 x12 x13 x14 x15 x16 x17 x18 x19 x20 : Ent} (Z : Zs K mg CB CC) (O : Ord os n v) (hx : xs.length ≤ 1000000) (h5 : 1 ≤ v) (h6 : v ≤ 5) : SD K (lawTail K CB) [.im (dF xs), .im (.int (n : Nat)), .im (.int (v : Nat)), .im (.int ((v : Int) + n)), .im (ordD false os), .im (dLs (frows os n v)), .im (dR (ownP n v)), .im (dRs (unb os n v)), .im (dRs (whl os n v)), .im (ordD b os), x10, .im (.str (ordD b os).py.shown), x12, x13, x14, x15, x16, x17, x18, x19, x20] (fun o => o = .rt (.bl true)) := by
  unfold lawTail
  have h1 := O.n1
  have h4 := O.n4
  have hz := szl
  have hon := own_rom (n := n) (v := v)
  have hwl := O.whl_len
  have hfew := O.unb_few
  have hol := fun o ho => O.olen (o := o) ho
  have hlen := O.len
  -- the things renamed
  obtain ⟨im, him⟩ : ∃ im, im = ordV (cellV xs 8) v := ⟨_, rfl⟩
  have hip : im.Perm (rgI 0 v) := by rw [him]; exact ordV_perm _ _
  have hil : im.length = v := by
    rw [hip.length_eq, len_rgI]
  obtain ⟨ims, hims⟩ : ∃ ims, ims = im ++ ownP n v := ⟨_, rfl⟩
  have R : Ren n v (img ims) := by rw [hims]; exact img_ren hip
  have himl : ims.length = v + n := by rw [hims, List.length_append, hil, hon.1.len]
  apply sd_seq
  apply sd_set (d := dL ims)
  · apply EvD.is (d1 := .lst (im.map D.int ++ (ownP n v).map D.int))
    · apply EvN.ev
      apply evn_cat
      · apply evd_call
        · apply eva_cons
          · apply evd_call
            · walk_at "evd"
            · exact ⟨xs, 8, hx, by decide, rfl, rfl⟩
          · walk_at "evd"
        · exact ⟨cellV xs 8, v, by omega, rfl, by rw [him]⟩
      · apply EvN.ev
        apply evn_cb (r := rListOf _)
        · exact eva_cons (evd_var rfl) eva_nil
        · exact rn_listT
      · rw [List.length_map, List.length_map, hil, hon.1.len]
        omega
    · rw [hims, ← List.map_append]
  have hix : ∀ {ρ : Env} {i j : Nat} {p : Int}, EvD K (tVar i) ρ (dL ims) → EvD K (tVar j) ρ (.int p) → 0 ≤ p → p < (v : Int) + n → EvD K (tOp (rIxL K) (tVar i) (tVar j)) ρ (.int (img ims p)) := fun {ρ i j p} h1 h2 p0 p1 => by
    refine evd_op (d2 := .int ((p.toNat : Nat) : Int)) h1 (h2.is (by rw [Int.toNat_of_nonneg p0])) ?_
    exact rv_ixLI (by omega)
  have O' := R.ord O
  have hwl' := O'.whl_len
  apply sd_seq
  apply sd_set (d := ordD false (os.map fun o => o.map (img ims)))
  · apply EvD.is (d1 := .lst ((os.filter fun _ => true).map fun o => dL (o.map (img ims))))
    · apply EvN.ev
      apply evn_lc (e := dL) (items := os) (p := fun _ => true) (h := fun o => dL (o.map (img ims)))
      · walk_at "evd"
      · intro a _
        exact gd_name
      · intro a _
        walk_at "evd"
      · intro o ho _
        apply EvD.is (d1 := .lst ((o.filter fun _ => true).map fun p => D.int (img ims p)))
        · apply EvN.ev
          apply evn_lc (e := D.int) (items := o) (p := fun _ => true) (h := fun p => D.int (img ims p))
          · walk_at "evd"
          · intro a _
            exact gd_name
          · intro a _
            walk_at "evd"
          · intro p hp _
            have := (O.mem ho).mp hp
            exact hix (by walk_at "evd") (by walk_at "evd") this.1 (by omega)
          · rw [hol o ho]; omega
        · rw [filt_true]
          show D.lst _ = D.lst _
          rw [List.map_map]
          rfl
      · omega
    · rw [filt_true]
      unfold ordD
      show D.lst _ = D.lst _
      rw [List.map_map]
      rfl
  have hrows : ∀ row ∈ frows os n v, row.length ≤ 100 ∧ ∀ p ∈ row, 0 ≤ p ∧ p < (v : Int) + n := fun row hr => ⟨frow_len O hr, fun p hp => by have := (mem_frow O hr p).mp hp; omega⟩
  apply sd_seq
  apply sd_set (d := dLs (frows (os.map fun o => o.map (img ims)) n v))
  · apply EvD.is (d1 := .lst (((frows os n v).filter fun _ => true).map fun o => dL (o.map (img ims))))
    · apply EvN.ev
      apply evn_lc (e := dL) (items := frows os n v) (p := fun _ => true) (h := fun o => dL (o.map (img ims)))
      · walk_at "evd"
      · intro a _
        exact gd_name
      · intro a _
        walk_at "evd"
      · intro o ho _
        apply EvD.is (d1 := .lst ((o.filter fun _ => true).map fun p => D.int (img ims p)))
        · apply EvN.ev
          apply evn_lc (e := D.int) (items := o) (p := fun _ => true) (h := fun p => D.int (img ims p))
          · walk_at "evd"
          · intro a _
            exact gd_name
          · intro a _
            walk_at "evd"
          · intro p hp _
            have := (hrows o ho).2 p hp
            exact hix (by walk_at "evd") (by walk_at "evd") this.1 this.2
          · have := (hrows o ho).1
            omega
        · rw [filt_true]
          show D.lst _ = D.lst _
          rw [List.map_map]
          rfl
      · rw [frows_len]; omega
    · rw [filt_true, R.frows O]
      show D.lst _ = D.lst _
      rw [List.map_map]
      rfl
  apply sd_seq
  apply sd_set (d := dRs ((unb os n v).map (ren (img ims))))
  · apply EvD.is (d1 := .lst (((unb os n v).filter fun _ => true).map fun r => dR (ren (img ims) r)))
    · apply EvN.ev
      apply evn_lc (e := dR) (items := unb os n v) (p := fun _ => true) (h := fun r => dR (ren (img ims) r))
      · walk_at "evd"
      · intro a _
        exact gd_name
      · intro a _
        walk_at "evd"
      · intro r hr _
        have hrr := (O.mem_unb.mp hr).1
        have hrl := hrr.len
        apply evd_tupL
        apply EvN.ev
        apply evn_cb (r := rSrtI _)
        · apply eva_cons
          · apply EvD.is (d1 := .lst ((r.filter fun _ => true).map fun p => D.int (img ims p)))
            · apply EvN.ev
              apply evn_lc (e := D.int) (items := r) (p := fun _ => true) (h := fun p => D.int (img ims p))
              · walk_at "evd"
              · intro a _
                exact gd_name
              · intro a _
                walk_at "evd"
              · intro p hp _
                have := hrr.bd p hp
                exact hix (by walk_at "evd") (by walk_at "evd") this.1 this.2
              · omega
            · show _ = D.lst ((r.map (img ims)).map D.int)
              rw [filt_true, List.map_map]
              rfl
          · exact eva_nil
        · exact rn_srtIL
      · omega
    · rw [filt_true]
      show D.lst _ = D.lst _
      rw [List.map_map]
      rfl
  apply sd_seq
  apply sd_set (d := dRs (whl (os.map fun o => o.map (img ims)) n v))
  · rw [← O'.whl_of (R.unb O)]
    exact ev_sort O (by walk_at "evd") (by walk_at "evd") (by rw [List.length_map]; exact hfew) fun r hr => (in_room O' (O'.mem_unb.mp ((R.unb O).mem_iff.mp hr)).1).1
  apply sd_seq
  apply sd_if (b := false)
  · refine evb_not (b := true) ?_
    apply evb_B
    apply evd_call (ds := [ordD false (os.map fun o => o.map (img ims)), .int ((v : Int) + n), .int (n : Nat), dRs (whl (os.map fun o => o.map (img ims)) n v), dTs (trm (os.map fun o => o.map (img ims)) n v)])
    · apply eva_cons
      · walk_at "evd"
      apply eva_cons
      · walk_at "evd"
      apply eva_cons
      · walk_at "evd"
      apply eva_cons
      · walk_at "evd"
      apply eva_cons
      · apply evd_call
        · walk_at "evd"
        · exact lt_ok O' (R.unb O)
      · exact eva_nil
    · exact lb_ok O' false
  · intro c; cases c
  intro _
  apply sd_next
  apply sd_retE (d' := .bl (decide ((ordD b os).py.shown = (ordD b os).py.shown) && true)) (d := .bl true)
  · apply evd_andV
    · apply evd_op
      · exact evd_repr O (by walk_at "evd")
      · walk_at "evd"
      · exact rv_eqS
    · intro _
      apply evd_call (d := .bl true)
      · apply eva_cons
        · apply evd_fld (C := CB) (fs := bookF ((v : Int) + n) n (whl os n v)) (d := .tup ((whl os n v).map dR))
          · apply evd_call
            · walk_at "evd"
            · exact r_ub O O.bk0
          · exact Z.cB
          · exact Z.nB _ (by simp)
          · rfl
        · walk_at "evd"
      · exact ⟨2, _, _, by omega, sm_rows (by omega) fun r hr => by have := ((mem_whl.mp hr).rom O).1.len; omega, rfl, rfl⟩
  · simp
  · rfl
end
end DL

set_option Elab.async false
set_option linter.all false
set_option maxRecDepth 100000
set_option maxHeartbeats 4000000
namespace DL
open PySem L2 PySem.W
local macro_rules | `(tactic| walk_at "evd") => `(tactic| first
  | with_reducible exact evd_int
  | with_reducible exact evd_str
  | with_reducible exact evd_bl
  | with_reducible exact evd_non
  | ((with_reducible apply evd_var); rfl)
  | walk_at "evn"
  | ((with_reducible apply EvN.ev); walk_at "evn")
  | ((with_reducible apply evd_op) <;> (try walk_at "evd"))
  | ((with_reducible apply evd_un) <;> (try walk_at "evd"))
  | ((with_reducible apply evb_test) <;> (try walk_at "evd"))
  | ((with_reducible apply evb_B) <;> (try walk_at "evd"))
  | with_reducible exact evb_yes
  | ((with_reducible apply evb_not) <;> (try walk_at "evd"))
  | ((with_reducible apply evb_and) <;> (try walk_at "evd"))
  | ((with_reducible apply evb_or) <;> (try walk_at "evd"))
  | ((with_reducible apply evd_andV) <;> (try walk_at "evd"))
  | ((with_reducible apply evd_orV) <;> (try walk_at "evd"))
  | ((with_reducible apply evd_notV) <;> (try walk_at "evd"))
  | ((with_reducible apply evd_chain) <;> (try walk_at "evd"))
  | walk_at "evd2")
local macro_rules | `(tactic| walk_at "evn") => `(tactic| first
  | ((with_reducible apply evn_cat) <;> (try walk_at "evd"))
  | ((with_reducible apply evn_lst) <;> (try walk_at "evd"))
  | ((with_reducible apply evn_slL) <;> (try walk_at "evd"))
  | ((with_reducible apply evn_lc) <;> (try walk_at "evd"))
  | ((with_reducible apply evn_listRg) <;> (try walk_at "evd"))
  | ((with_reducible apply evn_revL) <;> (try walk_at "evd"))
  | focus ((with_reducible apply evn_keysE); (rfl); (all_goals (try walk_at "evd")))
  | focus ((with_reducible apply evn_cb (r := rSrtI _)); (focus walk_at "evd"); (all_goals (try walk_at "rc")))
  | focus ((with_reducible apply evn_cb (r := rSrtR _)); (focus walk_at "evd"); (all_goals (try walk_at "rc")))
  | focus ((with_reducible apply evn_cb (r := rSrtP _)); (focus walk_at "evd"); (all_goals (try walk_at "rc")))
  | focus ((with_reducible apply evn_cb (r := rSrtD _)); (focus walk_at "evd"); (all_goals (try walk_at "rc")))
  | focus ((with_reducible apply evn_cb (r := rListOf _)); (focus walk_at "evd"); (all_goals (try walk_at "rc"))))
local macro_rules | `(tactic| walk_at "evd2") => `(tactic| first
  | ((with_reducible apply evd_tupL) <;> (try walk_at "evd"))
  | ((with_reducible apply evd_tupF) <;> (try walk_at "evd"))
  | ((with_reducible apply evd_tup) <;> (try walk_at "evd"))
  | with_reducible exact eva_nil
  | ((with_reducible apply eva_cons) <;> (try walk_at "evd"))
  | with_reducible exact evp_none
  | ((with_reducible apply evp_some) <;> (try walk_at "evd"))
  | focus ((with_reducible apply evd_slT); (focus walk_at "evd"); (all_goals (try walk_at "evd")))
  | focus ((with_reducible apply evd_slU); (focus walk_at "evd"); (all_goals (try walk_at "evd")))
  | exact gd_name
  | exact gd_two
  | ((with_reducible apply iv_list) <;> (try walk_at "evd"))
  | focus ((with_reducible apply iv_tup); walk_at "evd")
  | focus ((with_reducible apply iv_ftu); walk_at "evd")
  | ((with_reducible apply iv_enumQ) <;> (try walk_at "evd"))
  | ((with_reducible apply iv_rng1) <;> (try walk_at "evd"))
  | ((with_reducible apply iv_rng2) <;> (try walk_at "evd"))
  | ((with_reducible apply iv_enum) <;> (try walk_at "evd"))
  | ((with_reducible apply evd_tupRg) <;> (try walk_at "evd"))
  | ((with_reducible apply evr_1) <;> (try walk_at "evd"))
  | ((with_reducible apply evr_2) <;> (try walk_at "evd"))
  | focus ((with_reducible apply evd_call); (focus walk_at "evd"); (all_goals (try walk_at "rel")))
  | ((with_reducible apply evd_lenSet) <;> (try walk_at "evd"))
  | walk_at "evd3"
  | ((with_reducible apply evd_tix) <;> (try walk_at "evd"))
  | focus ((with_reducible apply evd_bmL); (focus walk_at "evd"); (all_goals (try walk_at "evd")))
  | focus ((with_reducible apply evd_cb); (focus walk_at "evd"); (all_goals (try walk_at "rc")))
  | walk_at "rc"
  | (intro _; walk_at "evd"))
local macro_rules | `(tactic| walk_at "evd3") => `(tactic| first
  | focus ((with_reducible apply evd_fld); (focus walk_at "evd"); (all_goals (try first | rfl | assumption | walk_at "fact")))
  | focus ((with_reducible apply evd_make); (focus walk_at "evd"); (all_goals (try walk_at "rel")))
  | focus ((with_reducible apply evd_meth); (focus walk_at "evd"); (focus walk_at "evd"); (all_goals (try first | rfl | walk_at "rel")))
  | focus ((with_reducible apply evd_prop); (focus walk_at "evd"); (all_goals (try walk_at "rel")))
  | focus ((with_reducible apply evd_spc); (focus walk_at "evd"); (all_goals (try walk_at "rel")))
  | focus ((with_reducible apply evd_isiO); (focus walk_at "evd"); (all_goals (try walk_at "fact")))
  | focus ((with_reducible apply evd_isi); (focus walk_at "evd"); (all_goals (try first | rfl | decide +kernel)))
  | ((with_reducible apply evd_cval) <;> (try walk_at "fact"))
  | focus ((with_reducible apply evd_inME); (rfl); (all_goals (try walk_at "evd")))
  | focus ((with_reducible apply evd_get2I); (rfl); (all_goals (try walk_at "evd")))
  | focus ((with_reducible apply evd_get2R); (rfl); (all_goals (try walk_at "evd")))
  | focus ((with_reducible apply evd_getME); (rfl); (all_goals (try walk_at "evd")))
  | focus ((with_reducible apply evd_getLI); (focus walk_at "evd"); (all_goals (try walk_at "evd")))
  | focus ((with_reducible apply evd_getDI); (focus walk_at "evd"); (all_goals (try walk_at "evd")))
  | focus ((with_reducible apply evd_getDR); (focus walk_at "evd"); (all_goals (try walk_at "evd")))
  | focus ((with_reducible apply evd_getLE); (focus walk_at "evd"); (all_goals (try walk_at "evd")))
  | focus ((with_reducible apply evd_getDE); (focus walk_at "evd"); (all_goals (try walk_at "evd")))
  | ((with_reducible apply evm_new)))
local macro_rules | `(tactic| walk_at "rc") => `(tactic| first
  | with_reducible apply rv_add
  | with_reducible apply rv_sub
  | with_reducible apply rv_cmp
  | with_reducible apply ru_neg
  | with_reducible apply rv_eqI
  | with_reducible apply rv_neI
  | with_reducible apply rv_eqS
  | with_reducible apply rv_neS
  | with_reducible apply rv_inT
  | with_reducible apply rv_inL
  | with_reducible apply rv_notInT
  | with_reducible apply rv_notInL
  | with_reducible apply rc_lenL
  | with_reducible apply rc_lenT
  | with_reducible apply rc_lenF
  | with_reducible apply rc_lenA
  | with_reducible apply rc_lenU
  | with_reducible apply rn_srtIL
  | with_reducible apply rn_srtIT
  | with_reducible apply rn_srtIA
  | with_reducible apply rn_srtP
  | with_reducible apply rn_srtR
  | with_reducible apply rn_srtDE
  | with_reducible apply rn_listL
  | with_reducible apply rn_listT
  | with_reducible apply rn_listA
  | with_reducible apply rc_abs
  | with_reducible apply rc_sum
  | with_reducible apply rc_int
  | walk_at "rc2")
local macro_rules | `(tactic| walk_at "rc2") => `(tactic| first
  | with_reducible apply rv_ixT0I
  | with_reducible apply rv_ixTZI
  | with_reducible apply rv_ixU0I
  | with_reducible apply rv_ixUZI
  | with_reducible apply rv_ixL0I
  | with_reducible apply rv_ixLZI
  | with_reducible apply rv_ixF0I
  | with_reducible apply rv_ixFZI
  | with_reducible apply rv_ixL0R
  | with_reducible apply rv_ixTR
  | with_reducible apply rv_ixL0L
  | with_reducible apply rv_ixTL
  | with_reducible apply rv_ixL0U
  | with_reducible apply rv_ixTU
  | with_reducible apply rv_ixQ
  | with_reducible apply rv_ixQ0
  | with_reducible apply rv_ixQZ
  | with_reducible apply rv_ix20
  | with_reducible apply rv_ix21
  | with_reducible apply rv_ixTI
  | with_reducible apply rv_ixUI
  | with_reducible apply rv_ixLI
  | with_reducible apply rv_ixFI
  | with_reducible apply rv_ixLR
  | with_reducible apply rv_ixLL
  | with_reducible apply rv_ixLU
  | with_reducible apply rv_mul
  | with_reducible apply rv_fdiv
  | with_reducible apply rv_mod
  | with_reducible apply rv_pow
  | with_reducible apply rv_ixL
  | with_reducible apply rv_ixF
  | with_reducible apply rv_ixT
  | with_reducible apply rv_ixU
  | with_reducible apply rv_ixA
  | with_reducible apply rv_catT
  | with_reducible apply rv_eqTI
  | with_reducible apply rv_neTI
  | with_reducible apply rv_eqLI
  | with_reducible apply rv_neLI
  | with_reducible apply rv_eqTR
  | with_reducible apply rv_inLR
  | with_reducible apply rv_notInLR
  | with_reducible apply rm_lix
  | with_reducible apply rn_srtIL'
  | with_reducible apply rn_srtR'
  | with_reducible apply rn_srtP'
  | with_reducible apply rv_inT'
  | with_reducible apply rv_inL'
  | with_reducible apply rv_notInT'
  | with_reducible apply rv_notInL'
  | with_reducible apply rc_sum'
  | with_reducible apply rc_min'
  | with_reducible apply rm_lix')
local macro_rules | `(tactic| walk_at "bnd") => `(tactic| first
  | omega
  | exact map_snoc
  | exact map_cat
  | ((have hszl := szl); (simp only [List.length_map, List.length_range, List.length_append, List.length_cons, List.length_nil, List.length_take, List.length_drop, Int.toNat_natCast, Nat.add_zero, Nat.zero_add, Int.natCast_add, Int.natCast_one] at *); omega)
  | ((simp only [List.length_map]); (refine Nat.le_trans (Nat.add_le_add_right (List.length_filter_le _ _) _) ?_); walk_at "bnd"))

section
variable {P : Program} {w : World} {K : Fr} {mg : Str → Option Value} {CB CC CN CM : Addr}
theorem sd_re {t : TS} {ρ ρ' : Env} {Q : Out → Prop} (e : ρ = ρ') (h : SD K t ρ' Q) : SD K t ρ Q := e ▸ h
theorem sc_law : FnScope ["_law_script", "_law_d", "_law_v", "_law_n", "_law_orders_here", "_law_rows", "_law_own", "_law_rooms_here", "_law_whole", "_law_passed", "_law_row", "_law_kept", "_law_full_here", "_law_told", "_law_images", "_law_renamed", "_law_p", "_law_named_rows", "_law_named_rooms", "_law_room", "_law_named_whole"] ["_law_script"] (defScope s_law) := ⟨rfl, rfl, rfl, by decide +kernel, rfl, by decide +kernel, by decide +kernel⟩
theorem law_der {base : Heap} {fa : Addr} {cdv : Value} {sh : Shared} {H : Hp} (hr : Room 12 (callerA.deeper (PyProof.Rows.envOfC "law" (defScope s_law) sh.heap.objs.size fa cdv))) (B : Bi mg) (Z : Zs K mg CB CC)
    (G__law_cell : Has P w K mg base CX0 "_law_cell" 1 ["_law_script", "_law_k"] (spD K R_cell))
    (G__law_orders : Has P w K mg base CX0 "_law_orders" 2 ["_law_script", "_law_d", "_law_v"] (spD K R_orders))
    (G__law_full : Has P w K mg base CX0 "_law_full" 1 ["_law_orders_here", "_law_v"] (spD K R_lfull))
    (G__law_unbeaten : Has P w K mg base CX0 "_law_unbeaten" 7 ["_law_rows"] (spD K R_lunb))
    (G_full_orders : Has P w K mg base CX0 "full_orders" 2 ["orders"] (spD K R_full_orders))
    (G_full_ordersN : Has P w K mg base CX0 "full_orders" 2 ["orders"] (spF K R_full_ordersN))
    (G__law_same : Has P w K mg base CX0 "_law_same" 6 ["_law_actual", "_law_due"] (spD K (R_lsame 5)))
    (G__law_terms : Has P w K mg base CX0 "_law_terms" 2 ["_law_rows", "_law_rooms_here", "_law_own"] (spD K R_lterms))
    (G__law_book_right : Has P w K mg base CX0 "_law_book_right" 9 ["_law_orders_here", "_law_n", "_law_d", "_law_whole", "_law_terms_here"] (spD K R_lbook))
    (G__law_faces_right : Has P w K mg base CX0 "_law_faces_right" 6 ["_law_orders_here", "_law_whole"] (spD K R_lfaces))
    (G__law_refusals_right : Has P w K mg base CX0 "_law_refusals_right" 7 ["_law_script", "_law_orders_here", "_law_n", "_law_d", "_law_whole"] (spD K R_lrefs))
    (G__law_order : Has P w K mg base CX0 "_law_order" 1 ["_law_cell_here", "_law_n"] (spD K R_order))
    (G_unbeaten_book : Has P w K mg base CX0 "unbeaten_book" 8 ["orders"] (spD K (R_unbeaten_book CB))) (xs : List Int) (hx : xs.length ≤ 1000000) :
    ∃ t, PSs (cxOf CX0 P w K mg base ["_law_script", "_law_d", "_law_v", "_law_n", "_law_orders_here", "_law_rows", "_law_own", "_law_rooms_here", "_law_whole", "_law_passed", "_law_row", "_law_kept", "_law_full_here", "_law_told", "_law_images", "_law_renamed", "_law_p", "_law_named_rows", "_law_named_rooms", "_law_room", "_law_named_whole"] "law" (defScope s_law) fa cdv callerA [] sh H E0).nox (defBody s_law) t ∧ SD K t (init ["_law_script", "_law_d", "_law_v", "_law_n", "_law_orders_here", "_law_rows", "_law_own", "_law_rooms_here", "_law_whole", "_law_passed", "_law_row", "_law_kept", "_law_full_here", "_law_told", "_law_images", "_law_renamed", "_law_p", "_law_named_rows", "_law_named_rooms", "_law_room", "_law_named_whole"] [.frz (xs.map D.int)]) (fun o => o = .rt (.bl true)) := by
  refine ⟨_, (pss_cons (ps_set (i := 1) sc_law.nd rfl (by first | exact Or.inl rfl | exact Or.inr rfl) (pe_op op_add (pe_int) (pe_op op_mod (pe_callTy call_int1 rfl B.int (by decide +kernel) (pa_cons (pe_callH G__law_cell hr (by decide) rfl (pa_cons (pv 0) (pa_cons (pe_int) pa_nil))) pa_nil)) (pe_int))))
        (pss_cons (ps_set (i := 2) sc_law.nd rfl (by first | exact Or.inl rfl | exact Or.inr rfl) (pe_op op_add (pe_int) (pe_op op_mod (pe_callTy call_int1 rfl B.int (by decide +kernel) (pa_cons (pe_callH G__law_cell hr (by decide) rfl (pa_cons (pv 0) (pa_cons (pe_int) pa_nil))) pa_nil)) (pe_op op_sub (pe_int) (pe_op op_mul (pe_int) (pe_op op_fdiv (pv 1) (pe_int)))))))
        (pss_cons (ps_set (i := 3) sc_law.nd rfl (by first | exact Or.inl rfl | exact Or.inr rfl) (pe_op op_add (pv 1) (pv 2)))
        (pss_cons (ps_set (i := 4) sc_law.nd rfl (by first | exact Or.inl rfl | exact Or.inr rfl) (pe_callH G__law_orders hr (by decide) rfl (pa_cons (pv 0) (pa_cons (pv 1) (pa_cons (pv 2) pa_nil)))))
        (pss_cons (ps_set (i := 5) sc_law.nd rfl (by first | exact Or.inl rfl | exact Or.inr rfl) (pe_callH G__law_full hr (by decide) rfl (pa_cons (pv 4) (pa_cons (pv 2) pa_nil))))
        (pss_cons (ps_set (i := 6) sc_law.nd rfl (by first | exact Or.inl rfl | exact Or.inr rfl) (pe_tupRg rfl rfl B.tuple (prg_2 rfl B.range (pv 2) (pv 3))))
        (pss_cons (ps_set (i := 7) sc_law.nd rfl (by first | exact Or.inl rfl | exact Or.inr rfl) (pe_callH G__law_unbeaten hr (by decide) rfl (pa_cons (pv 5) pa_nil)))
        (pss_cons (ps_set (i := 8) sc_law.nd rfl (by first | exact Or.inl rfl | exact Or.inr rfl) (pe_callB (cl_srtR K) rfl B.sorted (by decide +kernel) (pa_cons (pe_op op_cat (pv 7) (pe_lst (pa_cons (pv 6) pa_nil))) pa_nil)))
        (pss_cons (ps_setLc (i := 9) (own := [("_law_row", 10)]) (by rfl) sc_law.nd rfl rfl (sw_true rfl rfl rfl (by decide +kernel)) (pi_lK K (pv 4)) (blkOk_by (N := ["_law_script", "_law_d", "_law_v", "_law_n", "_law_orders_here", "_law_rows", "_law_own", "_law_rooms_here", "_law_whole", "_law_passed", "_law_row", "_law_kept", "_law_full_here", "_law_told", "_law_images", "_law_renamed", "_law_p", "_law_named_rows", "_law_named_rooms", "_law_room", "_law_named_whole"]) (sc := (defScope s_law)) (by decide +kernel)) (fun _ _ _ _ _ => pg_name (i := 10) sc_law.nd rfl (by first | exact Or.inl rfl | exact Or.inr rfl)) (fun _ _ _ _ _ => pts_nil) (fun _ _ _ _ _ => pe_callTy (cl_list K) rfl B.list (by decide +kernel) (pa_cons (pv 10) pa_nil)))
        (pss_cons (ps_if (pt_cmpR op_eq (pe_op op_mod (pe_callTy call_int1 rfl B.int (by decide +kernel) (pa_cons (pe_callH G__law_cell hr (by decide) rfl (pa_cons (pv 0) (pa_cons (pe_int) pa_nil))) pa_nil)) (pe_int)) (pe_int) (nomark _)) (pss_one (ps_set (i := 9) sc_law.nd rfl (by first | exact Or.inl rfl | exact Or.inr rfl) (pe_tupleK K rfl B.tuple (pe_lc (own := [("_law_row", 10)]) (by rfl) sc_law.nd (pi_lK K (pv 4)) (blkOk_by (N := ["_law_script", "_law_d", "_law_v", "_law_n", "_law_orders_here", "_law_rows", "_law_own", "_law_rooms_here", "_law_whole", "_law_passed", "_law_row", "_law_kept", "_law_full_here", "_law_told", "_law_images", "_law_renamed", "_law_p", "_law_named_rows", "_law_named_rooms", "_law_room", "_law_named_whole"]) (sc := (defScope s_law)) (by decide +kernel)) (fun _ _ _ _ _ => pg_name (i := 10) sc_law.nd rfl (by first | exact Or.inl rfl | exact Or.inr rfl)) (fun _ _ _ _ _ => pts_nil) (fun _ _ _ _ _ => pe_tupleK K rfl B.tuple (pv 10)))))) (pss_nil))
        (pss_cons (ps_set (i := 11) sc_law.nd rfl (by first | exact Or.inl rfl | exact Or.inr rfl) (pe_callB (cl_repr K rfl hr.units) rfl B.repr (by decide +kernel) (pa_cons (pv 9) pa_nil)))
        (pss_cons (ps_setLc (i := 12) (own := [("_law_row", 10)]) (by rfl) sc_law.nd rfl rfl (sw_true rfl rfl rfl (by decide +kernel)) (pi_lK K (pv 5)) (blkOk_by (N := ["_law_script", "_law_d", "_law_v", "_law_n", "_law_orders_here", "_law_rows", "_law_own", "_law_rooms_here", "_law_whole", "_law_passed", "_law_row", "_law_kept", "_law_full_here", "_law_told", "_law_images", "_law_renamed", "_law_p", "_law_named_rows", "_law_named_rooms", "_law_room", "_law_named_whole"]) (sc := (defScope s_law)) (by decide +kernel)) (fun _ _ _ _ _ => pg_name (i := 10) sc_law.nd rfl (by first | exact Or.inl rfl | exact Or.inr rfl)) (fun _ _ _ _ _ => pts_nil) (fun _ _ _ _ _ => pe_tupleK K rfl B.tuple (pv 10)))
        (pss_cons (ps_set (i := 13) sc_law.nd rfl (by first | exact Or.inl rfl | exact Or.inr rfl) (pe_callH G_full_ordersN hr (by decide) rfl (pa_cons (pv 9) pa_nil)))
        (pss_cons (ps_if (pt_not (pt_val (pe_callH G__law_same hr (by decide) rfl (pa_cons (pv 13) (pa_cons (pv 12) pa_nil))))) (pss_one (ps_ret (pe_bl))) (pss_nil))
        (pss_cons (ps_asg (pe_tup pa_nil) (pg_sub (pv 13) (pe_int) set_list))
        (pss_cons (ps_expr (pe_appendK K (pv 13) (pa_cons (pe_tup pa_nil) pa_nil)))
        (pss_cons (ps_if (pt_not (pt_val (pe_callH G__law_same hr (by decide) rfl (pa_cons (pe_callH G_full_orders hr (by decide) rfl (pa_cons (pv 9) pa_nil)) (pa_cons (pv 12) pa_nil))))) (pss_one (ps_ret (pe_bl))) (pss_nil))
        (pss_cons (ps_if (pt_not (pt_val (pe_callH G__law_book_right hr (by decide) rfl (pa_cons (pv 9) (pa_cons (pv 3) (pa_cons (pv 1) (pa_cons (pv 8) (pa_cons (pe_callH G__law_terms hr (by decide) rfl (pa_cons (pv 5) (pa_cons (pv 7) (pa_cons (pv 6) pa_nil)))) pa_nil)))))))) (pss_one (ps_ret (pe_bl))) (pss_nil))
        (pss_cons (ps_if (PW.pt (pw_or (pt_not (pt_val (pe_callH G__law_faces_right hr (by decide) rfl (pa_cons (pv 9) (pa_cons (pv 8) pa_nil))))) (pw_or1 (pt_not (pt_val (pe_callH G__law_refusals_right hr (by decide) rfl (pa_cons (pv 0) (pa_cons (pv 9) (pa_cons (pv 3) (pa_cons (pv 1) (pa_cons (pv 8) pa_nil))))))))))) (pss_one (ps_ret (pe_bl))) (pss_nil))
        (pss_cons (ps_set (i := 14) sc_law.nd rfl (by first | exact Or.inl rfl | exact Or.inr rfl) (pe_op op_cat (pe_callH G__law_order hr (by decide) rfl (pa_cons (pe_callH G__law_cell hr (by decide) rfl (pa_cons (pv 0) (pa_cons (pe_int) pa_nil))) (pa_cons (pv 2) pa_nil))) (pe_callTy (cl_list K) rfl B.list (by decide +kernel) (pa_cons (pv 6) pa_nil))))
        (pss_cons (ps_setLc (i := 15) (own := [("_law_row", 10)]) (by rfl) sc_law.nd rfl rfl (sw_true rfl rfl rfl (by decide +kernel)) (pi_lK K (pv 4)) (blkOk_by (N := ["_law_script", "_law_d", "_law_v", "_law_n", "_law_orders_here", "_law_rows", "_law_own", "_law_rooms_here", "_law_whole", "_law_passed", "_law_row", "_law_kept", "_law_full_here", "_law_told", "_law_images", "_law_renamed", "_law_p", "_law_named_rows", "_law_named_rooms", "_law_room", "_law_named_whole"]) (sc := (defScope s_law)) (by decide +kernel)) (fun _ _ _ _ _ => pg_name (i := 10) sc_law.nd rfl (by first | exact Or.inl rfl | exact Or.inr rfl)) (fun _ _ _ _ _ => pts_nil) (fun _ _ _ _ _ => pe_lc (own := [("_law_p", 16)]) (by rfl) sc_law.nd (pi_lK K (pv 10)) (blkOk_by (N := ["_law_script", "_law_d", "_law_v", "_law_n", "_law_orders_here", "_law_rows", "_law_own", "_law_rooms_here", "_law_whole", "_law_passed", "_law_row", "_law_kept", "_law_full_here", "_law_told", "_law_images", "_law_renamed", "_law_p", "_law_named_rows", "_law_named_rooms", "_law_room", "_law_named_whole"]) (sc := ({ kind := PySem.ScopeKind.function, names := [ (PySem.Str.ofString ".0", PySem.NameKind.local), (PySem.Str.ofString "_law_row", PySem.NameKind.local), (PySem.Str.ofString "_law_images", PySem.NameKind.cell)], isGenerator := false, isCoroutine := false, more := [] : PySem.Scope })) (by decide +kernel)) (fun _ _ _ _ _ => pg_name (i := 16) sc_law.nd rfl (by first | exact Or.inl rfl | exact Or.inr rfl)) (fun _ _ _ _ _ => pts_nil) (fun _ _ _ _ _ => pe_ix (ix_lK K) (pv 14) (pv 16) (fun _ _ => rfl))))
        (pss_cons (ps_setLc (i := 17) (own := [("_law_row", 10)]) (by rfl) sc_law.nd rfl rfl (sw_true rfl rfl rfl (by decide +kernel)) (pi_lK K (pv 5)) (blkOk_by (N := ["_law_script", "_law_d", "_law_v", "_law_n", "_law_orders_here", "_law_rows", "_law_own", "_law_rooms_here", "_law_whole", "_law_passed", "_law_row", "_law_kept", "_law_full_here", "_law_told", "_law_images", "_law_renamed", "_law_p", "_law_named_rows", "_law_named_rooms", "_law_room", "_law_named_whole"]) (sc := (defScope s_law)) (by decide +kernel)) (fun _ _ _ _ _ => pg_name (i := 10) sc_law.nd rfl (by first | exact Or.inl rfl | exact Or.inr rfl)) (fun _ _ _ _ _ => pts_nil) (fun _ _ _ _ _ => pe_lc (own := [("_law_p", 16)]) (by rfl) sc_law.nd (pi_lK K (pv 10)) (blkOk_by (N := ["_law_script", "_law_d", "_law_v", "_law_n", "_law_orders_here", "_law_rows", "_law_own", "_law_rooms_here", "_law_whole", "_law_passed", "_law_row", "_law_kept", "_law_full_here", "_law_told", "_law_images", "_law_renamed", "_law_p", "_law_named_rows", "_law_named_rooms", "_law_room", "_law_named_whole"]) (sc := ({ kind := PySem.ScopeKind.function, names := [ (PySem.Str.ofString ".0", PySem.NameKind.local), (PySem.Str.ofString "_law_row", PySem.NameKind.local), (PySem.Str.ofString "_law_images", PySem.NameKind.cell)], isGenerator := false, isCoroutine := false, more := [] : PySem.Scope })) (by decide +kernel)) (fun _ _ _ _ _ => pg_name (i := 16) sc_law.nd rfl (by first | exact Or.inl rfl | exact Or.inr rfl)) (fun _ _ _ _ _ => pts_nil) (fun _ _ _ _ _ => pe_ix (ix_lK K) (pv 14) (pv 16) (fun _ _ => rfl))))
        (pss_cons (ps_setLc (i := 18) (own := [("_law_room", 19)]) (by rfl) sc_law.nd rfl rfl (sw_true rfl rfl rfl (by decide +kernel)) (pi_lK K (pv 7)) (blkOk_by (N := ["_law_script", "_law_d", "_law_v", "_law_n", "_law_orders_here", "_law_rows", "_law_own", "_law_rooms_here", "_law_whole", "_law_passed", "_law_row", "_law_kept", "_law_full_here", "_law_told", "_law_images", "_law_renamed", "_law_p", "_law_named_rows", "_law_named_rooms", "_law_room", "_law_named_whole"]) (sc := (defScope s_law)) (by decide +kernel)) (fun _ _ _ _ _ => pg_name (i := 19) sc_law.nd rfl (by first | exact Or.inl rfl | exact Or.inr rfl)) (fun _ _ _ _ _ => pts_nil) (fun _ _ _ _ _ => pe_tupleK K rfl B.tuple (pe_callB (cl_srtI K) rfl B.sorted (by decide +kernel) (pa_cons (pe_lc (own := [("_law_p", 16)]) (by rfl) sc_law.nd (pi_tK K (pv 19)) (blkOk_by (N := ["_law_script", "_law_d", "_law_v", "_law_n", "_law_orders_here", "_law_rows", "_law_own", "_law_rooms_here", "_law_whole", "_law_passed", "_law_row", "_law_kept", "_law_full_here", "_law_told", "_law_images", "_law_renamed", "_law_p", "_law_named_rows", "_law_named_rooms", "_law_room", "_law_named_whole"]) (sc := ({ kind := PySem.ScopeKind.function, names := [ (PySem.Str.ofString ".0", PySem.NameKind.local), (PySem.Str.ofString "_law_room", PySem.NameKind.local), (PySem.Str.ofString "tuple", PySem.NameKind.globalImplicit), (PySem.Str.ofString "sorted", PySem.NameKind.globalImplicit), (PySem.Str.ofString "_law_images", PySem.NameKind.cell)], isGenerator := false, isCoroutine := false, more := [] : PySem.Scope })) (by decide +kernel)) (fun _ _ _ _ _ => pg_name (i := 16) sc_law.nd rfl (by first | exact Or.inl rfl | exact Or.inr rfl)) (fun _ _ _ _ _ => pts_nil) (fun _ _ _ _ _ => pe_ix (ix_lK K) (pv 14) (pv 16) (fun _ _ => rfl))) pa_nil))))
        (pss_cons (ps_set (i := 20) sc_law.nd rfl (by first | exact Or.inl rfl | exact Or.inr rfl) (pe_callB (cl_srtR K) rfl B.sorted (by decide +kernel) (pa_cons (pe_op op_cat (pv 18) (pe_lst (pa_cons (pv 6) pa_nil))) pa_nil)))
        (pss_cons (ps_if (pt_not (pt_val (pe_callH G__law_book_right hr (by decide) rfl (pa_cons (pv 15) (pa_cons (pv 3) (pa_cons (pv 1) (pa_cons (pv 20) (pa_cons (pe_callH G__law_terms hr (by decide) rfl (pa_cons (pv 17) (pa_cons (pv 18) (pa_cons (pv 6) pa_nil)))) pa_nil)))))))) (pss_one (ps_ret (pe_bl))) (pss_nil))
        (pss_one (ps_ret (pe_and (pe_cmpR op_eq (pe_callB (cl_repr K rfl hr.units) rfl B.repr (by decide +kernel) (pa_cons (pv 9) pa_nil)) (pv 11) (nomark _)) (pe_one (pe_callH G__law_same hr (by decide) rfl (pa_cons (pe_fldK K (pe_callH G_unbeaten_book hr (by decide) rfl (pa_cons (pv 9) pa_nil))) (pa_cons (pe_tupleK K rfl B.tuple (pv 8)) pa_nil)))))))))))))))))))))))))))))))), ?_⟩
  obtain ⟨n, hn, h1, h4⟩ : ∃ n : Nat, 1 + cellV xs 0 % 4 = (n : Int) ∧ 1 ≤ n ∧ n ≤ 4 := ⟨(1 + cellV xs 0 % 4).toNat, by omega, by omega, by omega⟩
  apply sd_seq
  apply sd_setE (d := .int (n : Nat))
  · walk_at "evd"
    · exact ⟨xs, 0, hx, by decide, rfl, rfl⟩
    · decide
  · rw [hn]
  have hm : (0 : Int) < 5 - 2 * ((n : Int) / 4) ∧ 5 - 2 * ((n : Int) / 4) ≤ 5 := by omega
  have hc1 := Int.emod_lt_of_pos (cellV xs 1) hm.1
  have hc2 := Int.emod_nonneg (cellV xs 1) (show 5 - 2 * ((n : Int) / 4) ≠ 0 by omega)
  obtain ⟨v, hv, h5, h6⟩ : ∃ v : Nat, 1 + cellV xs 1 % (5 - 2 * ((n : Int) / 4)) = (v : Int) ∧ 1 ≤ v ∧ v ≤ 5 := ⟨(1 + cellV xs 1 % (5 - 2 * ((n : Int) / 4))).toNat, by omega, by omega, by omega⟩
  apply sd_seq
  apply sd_setE (d := .int (v : Nat))
  · walk_at "evd"
    · exact ⟨xs, 1, hx, by decide, rfl, rfl⟩
    · exact ⟨by decide, by decide⟩
    · exact Or.inl (by decide)
    · exact hm.1
  · rw [hv]
  apply sd_seq
  apply sd_setE (d := .int ((v : Int) + n))
  · walk_at "evd"
  · congr 1
    omega
  have O := ordersV_ord xs h1 h4 h5 h6
  have hol := fun o ho => O.olen (o := o) ho
  have hlen := O.len
  apply sd_seq
  apply sd_set (d := dLs (ordersV xs n v))
  · apply evd_call
    · walk_at "evd"
    · exact ⟨xs, n, v, hx, h1, by omega, by omega, rfl, rfl⟩
  generalize hos : ordersV xs n v = os at O hol hlen
  apply sd_seq
  apply sd_set (d := dLs (frows os n v))
  · apply evd_call
    · walk_at "evd"
    · exact ⟨os, n, v, hlen, by omega, by omega, fun o ho => by rw [hol o ho]; omega, rfl, rfl⟩
  have hwl := O.whl_len
  have hfew := O.unb_few
  have hz := szl
  have hon := own_rom (n := n) (v := v)
  apply sd_seq
  apply sd_setE (d := dR (ownP n v))
  · walk_at "evd"
    exact RgOk.of_le (by omega) (by omega) (by omega) (by omega)
  · rfl
  apply sd_seq
  apply sd_set (d := dRs (unb os n v))
  · apply evd_call
    · walk_at "evd"
    · exact lu_ok O
  apply sd_seq
  apply sd_set (d := dRs (whl os n v))
  · exact ev_sort O (by walk_at "evd") (by walk_at "evd") hfew fun r hr => (in_room O (O.mem_unb.mp hr).1).1
  -- what is passed
  apply sd_seq
  apply sd_set (d := ordD false os)
  · apply EvD.is (d1 := .lst ((os.filter fun _ => true).map dL))
    · apply EvN.ev
      apply evn_lc (e := dL) (items := os) (p := fun _ => true) (h := dL)
      · walk_at "evd"
      · intro a _
        exact gd_name
      · intro a _
        walk_at "evd"
      · intro a _ _
        walk_at "evd"
      · omega
    · rw [filt_true]
      rfl
  apply sd_seqIf (d := fun b => ordD b os) (i := 9)
  · walk_at "evd"
    · exact ⟨xs, 7, hx, by decide, rfl, rfl⟩
    · decide
  · apply EvD.is (d1 := .tup ((os.filter fun _ => true).map dR))
    · apply evd_tupL
      apply EvN.ev
      apply evn_lc (e := dL) (items := os) (p := fun _ => true) (h := dR)
      · walk_at "evd"
      · intro a _
        exact gd_name
      · intro a _
        walk_at "evd"
      · intro a _ _
        walk_at "evd"
      · omega
    · rw [filt_true]
      rfl
  · rfl
  intro b
  refine sd_re (ρ' := [.im (dF xs), .im (.int (n : Nat)), .im (.int (v : Nat)), .im (.int ((v : Int) + n)), .im (dLs os), .im (dLs (frows os n v)), .im (dR (ownP n v)), .im (dRs (unb os n v)), .im (dRs (whl os n v)), .im (ordD b os), .un, .un, .un, .un, .un, .un, .un, .un, .un, .un, .un]) rfl ?_
  apply sd_seq
  apply sd_set (d := .str (ordD b os).py.shown)
  · exact evd_repr O (by walk_at "evd")
  apply sd_seq
  apply sd_set (d := dRs (frows os n v))
  · apply EvD.is (d1 := .lst (((frows os n v).filter fun _ => true).map dR))
    · apply EvN.ev
      apply evn_lc (e := dL) (items := frows os n v) (p := fun _ => true) (h := dR)
      · walk_at "evd"
      · intro a _
        exact gd_name
      · intro a _
        walk_at "evd"
      · intro a _ _
        walk_at "evd"
      · rw [frows_len]; omega
    · rw [filt_true]
  apply sd_seq
  apply sd_setN (ds := (frows os n v).map dU)
  · apply evn_callF
    · walk_at "evd"
    · exact ⟨b, os, n, v, O, rfl, rfl⟩
  -- full_orders, twice
  apply sd_seq
  apply sd_if (b := false)
  · refine evb_not (b := true) ?_
    apply evb_lend (i := 13) rfl
    apply evb_B
    apply evd_call (d := .bl true)
    · walk_at "evd"
    · exact ⟨2, _, _, by omega, sm_full O, rfl, rfl⟩
  · intro c; cases c
  intro _
  apply sd_next
  apply sd_seq
  apply sd_setIt (f := id) (l := (frows os n v).map dU) (b := .tup []) (k := 0) (d := .tup [])
  · rw [List.map_id]
    rfl
  · walk_at "evd"
    all_goals exact Nat.zero_le _
  · rfl
  · exact evd_int
  · rw [List.length_map, frows_len]
    omega
  apply sd_seq
  apply sd_app (d := .tup [])
  · rfl
  · walk_at "evd"
    all_goals exact Nat.zero_le _
  · rw [List.length_map, List.length_set, List.length_map, frows_len]
    omega
  refine sd_re (ρ' := [.im (dF xs), .im (.int (n : Nat)), .im (.int (v : Nat)), .im (.int ((v : Int) + n)), .im (dLs os), .im (dLs (frows os n v)), .im (dR (ownP n v)), .im (dRs (unb os n v)), .im (dRs (whl os n v)), .im (ordD b os), .un, .im (.str (ordD b os).py.shown), .im (dRs (frows os n v)), _, .un, .un, .un, .un, .un, .un, .un]) rfl ?_
  apply sd_seq
  apply sd_if (b := false)
  · refine evb_not (b := true) ?_
    apply evb_B
    apply evd_call (d := .bl true)
    · apply eva_cons
      · apply evd_call (d := dUs (frows os n v))
        · walk_at "evd"
        · exact ⟨b, os, n, v, O, rfl, rfl⟩
      · walk_at "evd"
    · exact ⟨2, _, _, by omega, sm_full O, rfl, rfl⟩
  · intro c; cases c
  intro _
  apply sd_next
  -- the book of the orders
  apply sd_seq
  apply sd_if (b := false)
  · refine evb_not (b := true) ?_
    apply evb_B
    apply evd_call (ds := [ordD b os, .int ((v : Int) + n), .int (n : Nat), dRs (whl os n v), dTs (trm os n v)])
    · apply eva_cons
      · walk_at "evd"
      apply eva_cons
      · walk_at "evd"
      apply eva_cons
      · walk_at "evd"
      apply eva_cons
      · walk_at "evd"
      apply eva_cons
      · apply evd_call
        · walk_at "evd"
        · exact lt_ok O (.refl _)
      · exact eva_nil
    · exact lb_ok O b
  · intro c; cases c
  intro _
  apply sd_next
  -- its faces, its refusals
  apply sd_seq
  apply sd_if (b := false)
  · apply EvB.is (a := (!true || !true))
    · apply evb_or
      · refine evb_not (b := true) ?_
        apply evb_B
        apply evd_call (ds := [ordD b os, dRs (whl os n v)]) (d := .bl true)
        · walk_at "evd"
        · exact lf_ok O b
      · intro _
        refine evb_not (b := true) ?_
        apply evb_B
        apply evd_call (ds := [dF xs, ordD b os, .int ((v : Int) + n), .int (n : Nat), dRs (whl os n v)]) (d := .bl true)
        · walk_at "evd"
        · exact ⟨b, xs, os, n, v, hx, O, rfl, rfl⟩
    · rfl
  · intro c; cases c
  intro _
  apply sd_next
  exact law_tail Z O hx h5 h6
end
end DL

set_option Elab.async false
set_option linter.all false
set_option maxRecDepth 100000
set_option maxHeartbeats 4000000
/-! HK: facts of the head by one look. -/
namespace DL
open PySem L2 PySem.Spec PyProof.Rows
theorem DefZ.fun_ {K : Fr} {d : DefZ} (hc : d.cl = []) (e : fnZ K (d.at_ K) = d.val) (c : d.ok K = true) : ∃ fd, Fun K d.name d.qual d.st (d.at_ K) fd := by
  obtain ⟨kp, c2⟩ := Bool.and_eq_true_iff.mp c
  unfold fnZ at e
  cases q : K.lookup (d.at_ K) with
  | none => rw [q] at c2; cases c2
  | some o =>
    obtain ⟨oc, od, dt, osl⟩ := o
    rw [q] at c2 e
    cases dt with
    | func fd =>
      obtain ⟨n1, n2, n3, n4, n5, n6, n7, n8, n9, n10, n11, n12, n13, n14, n15⟩ := fd
      have z : (some (n1, n2, n3, n4, n5, n6, n7.map (·.1), n15) : FnZ) = some (d.name, d.qual, defArgs d.st, .stmts (defBody d.st), defScope d.st, mainGlobals, d.cl, builtinsNs) := e
      simp only [Option.some.injEq, Prod.mk.injEq, hc, List.map_eq_nil_iff] at z
      obtain ⟨z1, z2, z3, z4, z5, z6, z7, z8⟩ := z
      subst z1 z2 z3 z4 z5 z6 z7 z8
      have y : (PySem.W.codeIn K n13 d.qual && noV n8) = true := c2
      obtain ⟨y1, y2⟩ := Bool.and_eq_true_iff.mp y
      cases n8 with
      | none => exact ⟨_, ⟨oc, od, n9, n10, n11, n12, n13, n14, osl, rfl, q, y1⟩, kp⟩
      | _ => cases y2
    | _ => cases c2
/-! ### the look -/
section
variable {chk : Fr → Bool} {fn : List DefZ} {K : Fr}
theorem says_chk (c : obsZ chk fn K = valZ fn) : chk K = true := (Bool.and_eq_true_iff.mp (show (chk K && fn.all fun d => d.ok K) = true from congrArg (fun z : AlZ => z.1) c)).1
theorem says_ok (c : obsZ chk fn K = valZ fn) (i : Nat) {d : DefZ} (h : fn[i]? = some d := by rfl) : fnZ K (d.at_ K) = d.val ∧ d.ok K = true := by
  have a := (Bool.and_eq_true_iff.mp (show (chk K && fn.all fun d => d.ok K) = true from congrArg (fun z : AlZ => z.1) c)).2
  have e : fn.map (fun d => fnZ K (d.at_ K)) = fn.map DefZ.val := congrArg (fun z : AlZ => z.2) c
  have e2 : (fn.map fun d => fnZ K (d.at_ K))[i]? = (fn.map DefZ.val)[i]? := by rw [e]
  rw [List.getElem?_map, List.getElem?_map, h] at e2
  exact ⟨Option.some.inj e2, List.all_eq_true.mp a d (List.mem_of_getElem? h)⟩
theorem says_fun (c : obsZ chk fn K = valZ fn) (i : Nat) {d : DefZ} (h : fn[i]? = some d) (hc : d.cl = []) : ∃ fd, Fun K d.name d.qual d.st (d.at_ K) fd := DefZ.fun_ hc (says_ok c i h).1 (says_ok c i h).2
end
/-! ### checks -/
theorem oexB_ok {K : Fr} {C : Addr} (h : oexB K C = true) : OexC K C := by
  unfold oexB at h
  obtain ⟨h1, h⟩ := Bool.and_eq_true_iff.mp h
  obtain ⟨h2, h⟩ := Bool.and_eq_true_iff.mp h
  obtain ⟨h3, h⟩ := Bool.and_eq_true_iff.mp h
  obtain ⟨h4, h5⟩ := Bool.and_eq_true_iff.mp h
  refine ⟨?_, of_decide_eq_true h2, of_decide_eq_true h3, of_decide_eq_true h4, h5⟩
  split at h1
  · rename_i dd cd sl q
    split at h1
    · rename_i c bm k0 k1 k2 k3 n k5 hm hs
      obtain ⟨z1, h1⟩ := Bool.and_eq_true_iff.mp h1
      obtain ⟨z2, h1⟩ := Bool.and_eq_true_iff.mp h1
      obtain ⟨z3, h1⟩ := Bool.and_eq_true_iff.mp h1
      obtain ⟨z4, z5⟩ := Bool.and_eq_true_iff.mp h1
      obtain ⟨nm, bs, mro, ns, qn, hd, sn, sub, ab, col, del⟩ := cd
      have z1 := of_decide_eq_true z1
      have z2 := of_decide_eq_true z2
      have z3 : del = false := by simpa using z3
      have z4 : hd = true := z4
      have hm : mro = .ref c :: bm := hm
      have hs2 : sl = #[k0, k1, k2, k3, some (.builtin n), k5] := by
        obtain ⟨l⟩ := sl
        have hs : l = _ := hs
        rw [hs]
      subst z1 z2 z3 z4 hm hs2
      exact ⟨nm, qn, ns, bs, bm, sn, sub, ab, col, dd, k0, k1, k2, k3, k5, q, z5⟩
    · cases h1
  · cases h1
theorem supB_ok {P : Program} {K : Fr} {mg : Str → Option Value} {C f : Addr} {fd : FuncData} {o1 : Value} {o2 : Option Addr} {o3 : Array (Option Value)} (hP : P = PySem.Challenge.pw_neveralone_k84_unbeaten_books_and_their) (lk : K.lookup f = some ⟨o1, o2, .func fd, o3⟩) (noSup : mg "super" = none) (h : supB K C f = true) :
    ∃ y cc cda, fd.closure = [(y, cc)] ∧ fd.code = .ref cda ∧ SupK P K mg C cc cda := by
  subst hP
  unfold supB at h
  obtain ⟨h1, h⟩ := Bool.and_eq_true_iff.mp h
  obtain ⟨h2, h⟩ := Bool.and_eq_true_iff.mp h
  obtain ⟨h3, h⟩ := Bool.and_eq_true_iff.mp h
  obtain ⟨h4, h5⟩ := Bool.and_eq_true_iff.mp h
  rw [lk] at h1
  have h1 := h1
  simp only at h1
  split at h1
  · rename_i y cc cda e1 e2
    obtain ⟨z1, z2⟩ := Bool.and_eq_true_iff.mp h1
    refine ⟨y, cc, cda, e1, e2, ?_, ?_, of_decide_eq_true h2, noSup, by decide +kernel, He.eqO_ok h3, He.eqO_ok h4, of_decide_eq_true h5⟩
    · split at z1
      · rename_i p1 p2 c p3 q
        have z1 := of_decide_eq_true z1
        subst z1
        exact ⟨_, _, _, q⟩
      · cases z1
    · split at z2
      · rename_i p1 p2 vs p3 q
        split at z2
        · rename_i file tf q2
          have z2 := of_decide_eq_true z2
          exact ⟨_, _, vs, _, file, tf, q, q2, by rw [z2]; exact beq_self_eq_true _⟩
        · cases z2
      · cases z2
  · cases h1
end DL

set_option Elab.async false
set_option linter.all false
set_option maxRecDepth 100000
set_option maxHeartbeats 4000000
/-! HE: the two exceptions are made. -/
namespace DL
open PySem L2 PySem.W
open NdefX (NF NScope ncx startF nscope_by)
section
variable {P : Program} {w : World} {K : Fr} {mg : Str → Option Value} {base : Heap}
theorem fnZ_cl {K : Fr} {d : DefZ} {y : Str} (hc : d.cl = [y]) (e : fnZ K (d.at_ K) = d.val) (c : d.ok K = true) : ∃ oc od osl kV doc pm an cdv ct cc, K.lookup (d.at_ K) = some ⟨oc, od, .func (fnX d.name d.qual (defArgs d.st) (defBody d.st) (defScope d.st) [(y, cc)] .none kV doc pm an cdv ct), osl⟩ ∧ codeIn K cdv d.qual = true := by
  obtain ⟨kp, c2⟩ := Bool.and_eq_true_iff.mp c
  unfold fnZ at e
  cases q : K.lookup (d.at_ K) with
  | none => rw [q] at c2; cases c2
  | some o =>
    obtain ⟨oc, od, dt, osl⟩ := o
    rw [q] at c2 e
    cases dt with
    | func fd =>
      obtain ⟨n1, n2, n3, n4, n5, n6, n7, n8, n9, n10, n11, n12, n13, n14, n15⟩ := fd
      have z : (some (n1, n2, n3, n4, n5, n6, n7.map (·.1), n15) : FnZ) = some (d.name, d.qual, defArgs d.st, .stmts (defBody d.st), defScope d.st, mainGlobals, d.cl, builtinsNs) := e
      simp only [Option.some.injEq, Prod.mk.injEq, hc] at z
      obtain ⟨z1, z2, z3, z4, z5, z6, z7, z8⟩ := z
      subst z1 z2 z3 z4 z5 z6 z8
      have yy : (codeIn K n13 d.qual && noV n8) = true := c2
      obtain ⟨y1, y2⟩ := Bool.and_eq_true_iff.mp yy
      obtain ⟨cc, rfl⟩ : ∃ cc, n7 = [(y, cc)] := by
        cases n7 with
        | nil => cases z7
        | cons a l =>
          cases l with
          | nil =>
            obtain ⟨a1, a2⟩ := a
            have z9 : a1 = y := by simpa using z7
            subst z9
            exact ⟨a2, rfl⟩
          | cons _ _ => cases z7
      cases n8 with
      | none => exact ⟨oc, od, osl, n9, n10, n11, n12, n13, n14, cc, rfl, y1⟩
      | _ => cases y2
    | _ => cases c2
theorem exc_H {d : DefZ} {x fld : Str} {C : Addr} (hP : P = PySem.Challenge.pw_neveralone_k84_unbeaten_books_and_their) (hc : d.cl = ([("__class__" : Str)] : List Str)) (e : fnZ K (d.at_ K) = d.val) (c : d.ok K = true) (O : OexC K C) (sup : supB K C (d.at_ K) = true) (noSup : mg "super" = none)
    (iC : findIn K (.ref C) "__init__" = some (some (.ref (d.at_ K)))) (tI : typeIn K (.ref (d.at_ K)) = some (.type "function")) (gC : mg x = some (.ref C)) (nf : findIn K (.ref C) fld = some none)
    {p0 p1 p2 p3 p4 p5 : Pos} {kk : Nat} {tx : Str} {rest : List Stmt} {ar : Arg} {pl : Sem Bool} {fdn : Str}
    (hbd : defBody d.st = .Expr (.Call (.Attribute (.Call (.Name "super" p0) [] [] p1) "__init__" p2) [.Constant (.str tx) kk p3] [] p4) p5 :: rest)
    (S : NScope ([("self" : Str), fdn, "__class__"]) ([("self" : Str), fdn]) ([("__class__" : Str)]) (defScope d.st)) (hp : ((defArgs d.st).posonlyargs ++ (defArgs d.st).args).head? = some ar) (hp0 : ("self" : Str) = ar.arg)
    (hks : (defScope d.st).names.lookup ("super" : Str) = some .globalImplicit)
    (he : ∀ (F : NF) (f L : Addr), F.scope = defScope d.st → F.qual = d.qual → eval (.Call (.Attribute (.Call (.Name "super" p0) [] [] p1) "__init__" p2) [.Constant (.str tx) kk p3] [] p4) (NdefX.envF F f L) = (do
      let ov ← attributeBase (.Call (.Name "super" p0) [] [] p1) "__init__" (NdefX.envF F f L) (eval (.Call (.Name "super" p0) [] [] p1) (NdefX.envF F f L))
      standAt p2.atName
      let (f', first) ← holding [ov] (getMethod ov "__init__" pl)
      callWith p4 f' first (backTo p4 (starEach [.Constant (.str tx) kk p3] (NdefX.envF F f L))) []))
    (hsw : ∀ (F : NF) (f L : Addr), F.scope = defScope d.st → F.qual = d.qual → swapsWith (.Call (.Attribute (.Call (.Name "super" p0) [] [] p1) "__init__" p2) [.Constant (.str tx) kk p3] [] p4) none p5.line (NdefX.envF F f L) = pure false)
    (bnd : ∀ (cc : Addr) (kV doc pm : Value) (an : Option Addr) (cdv ct : Value) (us : List Value), us.length = 2 → bindArgs (fnX d.name d.qual (defArgs d.st) (defBody d.st) (defScope d.st) [(("__class__" : Str), cc)] .none kV doc pm an cdv ct) ⟨us, []⟩ = pure ((["self", fdn] : List Str).zip us))
    (hrest : ∀ (F : NF) (f : Addr) (A : Around) (outer : List PySem.Env) (s : Shared) (H : Hp) (E : XK), F.scope = defScope d.st → F.qual = d.qual → PSs (ncx CX0 P w K mg base ([("self" : Str), fdn, "__class__"]) F f A outer s H E) rest (tOst K fld (tVar 0) (tVar 1))) :
    HasE P w K mg base x C 1 (spI1 C fld) := by
  obtain ⟨oc, od, osl, kV, doc, pm, an, cdv, ct, cc, lk, hcd⟩ := fnZ_cl hc e c
  obtain ⟨y, cc2, cda, e1, e2, SK⟩ := supB_ok hP lk noSup sup
  have e3 : cc = cc2 := by
    have := congrArg (List.map (·.2)) e1
    simpa using this
  subst e3
  have e2 : cdv = .ref cda := e2
  subst e2
  refine ⟨d.at_ K, _, ([("self" : Str), fdn]), O, iC, tI, fn_super (N := ([("self" : Str), fdn, "__class__"])) (ps := ([("self" : Str), fdn])) (F := ⟨d.name, d.qual, defArgs d.st, defBody d.st, defScope d.st, [(("__class__" : Str), cc)], cda⟩) lk hcd hbd S hp (by rw [← hp0]; rfl) rfl SK O hks (fun L => he _ _ L rfl rfl) (fun L => hsw _ _ L rfl rfl) (fun vs H Q E h => ?_) (fun vs H Q E h => ?_) (fun A outer s H vs Q E hr h => ⟨_, hrest _ _ _ _ _ _ _ rfl rfl, ost1 O nf h⟩), ?_, gC⟩
  · obtain ⟨a, v, rfl, _⟩ := h
    rfl
  · obtain ⟨a, v, rfl, ha, _⟩ := h
    exact ⟨a, [v], rfl, ha⟩
  · exact Binds.all fun us hl => bnd _ _ _ _ _ _ _ us hl
end
end DL

set_option Elab.async false
set_option linter.all false
set_option maxRecDepth 100000
set_option maxHeartbeats 4000000
/-! HF: the facts of the head (printed by genhf.py). -/
namespace DL
open PySem L2 PySem.W
theorem propB_ok {K : Fr} {C : Addr} {m : Str} (h : propB K C m = true) : PropOf K C m (He.ma K C m) (pgt K C m) := by
  unfold propB at h
  obtain ⟨h1, h⟩ := Bool.and_eq_true_iff.mp h
  obtain ⟨h2, h⟩ := Bool.and_eq_true_iff.mp h
  obtain ⟨h3, h4⟩ := Bool.and_eq_true_iff.mp h
  refine ⟨He.eqO_ok h1, He.eqO_ok h2, of_decide_eq_true h3, ?_⟩
  unfold pgt
  split at h4
  · rename_i g rest q
    rw [q]
    exact ⟨rest, rfl⟩
  · cases h4
theorem readB_ok {K : Fr} {C : Addr} (h : readB K C = true) : ∃ mc, ClX.CRead K C mc ∧ ∃ u, ClX.CVal K C mc "MOST_PLACES" (.int 12) u := by
  unfold readB at h
  obtain ⟨h1, h⟩ := Bool.and_eq_true_iff.mp h
  obtain ⟨h2, h3⟩ := Bool.and_eq_true_iff.mp h
  refine ⟨_, ⟨h1, He.eqO_ok h2⟩, ?_⟩
  split at h3
  · rename_i i t q
    have h3 := of_decide_eq_true h3
    subst h3
    exact ⟨_, q, _, rfl⟩
  · cases h3
theorem isiB_ok {K : Fr} {C : Addr} (c : Cls K C) (h : isiB K C = true) : IsiC K C := by
  unfold isiB at h
  obtain ⟨h1, h⟩ := Bool.and_eq_true_iff.mp h
  obtain ⟨h2, h⟩ := Bool.and_eq_true_iff.mp h
  obtain ⟨h3, h4⟩ := Bool.and_eq_true_iff.mp h
  exact ⟨c, He.eqO_ok h1, He.eqO_ok h2, of_decide_eq_true h3, of_decide_eq_true h4⟩
theorem iniB_ok {K : Fr} {C : Addr} (h : iniB K C = true) : findIn K (.ref C) "__init__" = some (some (.ref (He.ma K C "__init__"))) ∧ typeIn K (.ref (He.ma K C "__init__")) = some (.type "function") := by
  unfold iniB at h
  obtain ⟨h1, h2⟩ := Bool.and_eq_true_iff.mp h
  exact ⟨He.eqO_ok h1, of_decide_eq_true h2⟩
theorem chk_at {K : Fr} (h : chk K = true) (i : Nat) {b : Bool} (e : (chks K)[i]? = some b) : b = true := List.all_eq_true.mp h b (List.mem_of_getElem? e)
section
variable {P : Program} {w : World} {K : Fr} {mg : Str → Option Value} {h : Heap} {base : Heap}
abbrev Says (K : Fr) : Prop := obsZ chk fns K = valZ fns
theorem f_glo (c : Says K) (X : K.In h) (G : h.Ns mainGlobals mg) (i : Nat) {x : Str} (e : (chks K)[i]? = some ((He.Fa.glo x).ok K)) : mg x = some (.ref (He.ga K x)) := He.glo_ok X G (chk_at (says_chk c) i e)
theorem f_free (c : Says K) (X : K.In h) (G : h.Ns mainGlobals mg) (i : Nat) {x : Str} (e : (chks K)[i]? = some ((He.Fa.free x).ok K)) : mg x = none := He.free_ok X G (chk_at (says_chk c) i e)
theorem b_all (c : Says K) (X : K.In h) (G : h.Ns mainGlobals mg) : Bi mg :=
  ⟨f_free c X G 0 rfl, f_free c X G 1 rfl, f_free c X G 2 rfl, f_free c X G 3 rfl, f_free c X G 4 rfl, f_free c X G 5 rfl, f_free c X G 6 rfl, f_free c X G 7 rfl, f_free c X G 8 rfl, f_free c X G 9 rfl, f_free c X G 10 rfl, f_free c X G 11 rfl, f_free c X G 12 rfl, f_free c X G 13 rfl, f_free c X G 14 rfl⟩
theorem c_all (c : Says K) (X : K.In h) (G : h.Ns mainGlobals mg) : Cs mg := ⟨He.int_ok X G (chk_at (says_chk c) 55 rfl), He.int_ok X G (chk_at (says_chk c) 56 rfl)⟩
theorem z_all (c : Says K) (X : K.In h) (G : h.Ns mainGlobals mg) : Zs K mg (He.ga K "Book") (He.ga K "Chain") :=
  ⟨f_glo c X G 51 rfl, f_glo c X G 52 rfl, He.cls_ok (chk_at (says_chk c) 57 rfl), He.cls_ok (chk_at (says_chk c) 62 rfl), fun f hf => by
    rcases List.mem_cons.mp hf with e | hf
    · rw [e]; exact He.noat_ok (chk_at (says_chk c) 59 rfl)
    rcases List.mem_cons.mp hf with e | hf
    · rw [e]; exact He.noat_ok (chk_at (says_chk c) 60 rfl)
    · rw [List.mem_singleton.mp hf]; exact He.noat_ok (chk_at (says_chk c) 61 rfl), fun f hf => by
    rcases List.mem_cons.mp hf with e | hf
    · rw [e]; exact He.noat_ok (chk_at (says_chk c) 64 rfl)
    rcases List.mem_cons.mp hf with e | hf
    · rw [e]; exact He.noat_ok (chk_at (says_chk c) 65 rfl)
    · rw [List.mem_singleton.mp hf]; exact He.noat_ok (chk_at (says_chk c) 66 rfl), readB_ok (chk_at (says_chk c) 75 rfl), isiB_ok (He.cls_ok (chk_at (says_chk c) 57 rfl)) (chk_at (says_chk c) 76 rfl), of_decide_eq_true (chk_at (says_chk c) 77 rfl)⟩
theorem x_all (c : Says K) (X : K.In h) (G : h.Ns mainGlobals mg) : Xs K mg (He.ga K "NotARoom") (He.ga K "Mismatch") :=
  ⟨xfB_ok (chk_at (says_chk c) 78 rfl), xfB_ok (chk_at (says_chk c) 83 rfl), He.noat_ok (chk_at (says_chk c) 79 rfl), He.noat_ok (chk_at (says_chk c) 84 rfl), f_glo c X G 53 rfl, f_glo c X G 54 rfl, He.exm_ok (chk_at (says_chk c) 88 rfl), He.exm_ok (chk_at (says_chk c) 89 rfl), He.exm_ok (chk_at (says_chk c) 90 rfl)⟩
theorem at_faces (c : Says K) (X : K.In h) (G : h.Ns mainGlobals mg) : At K mg "faces" s_faces ["room"] := by
  obtain ⟨fd, F⟩ := says_fun c 0 rfl rfl
  exact ⟨_, fd, F, f_glo c X G 16 rfl, F.binds fun _ _ _ _ _ _ us hl => match us, hl with | [_], _ => rfl⟩
theorem at_without (c : Says K) (X : K.In h) (G : h.Ns mainGlobals mg) : At K mg "without" s_without ["room", "place"] := by
  obtain ⟨fd, F⟩ := says_fun c 1 rfl rfl
  exact ⟨_, fd, F, f_glo c X G 17 rfl, F.binds fun _ _ _ _ _ _ us hl => match us, hl with | [_, _], _ => rfl⟩
theorem at_exchanged (c : Says K) (X : K.In h) (G : h.Ns mainGlobals mg) : At K mg "exchanged" s_exchanged ["room", "leaving", "entering"] := by
  obtain ⟨fd, F⟩ := says_fun c 2 rfl rfl
  exact ⟨_, fd, F, f_glo c X G 18 rfl, F.binds fun _ _ _ _ _ _ us hl => match us, hl with | [_, _, _], _ => rfl⟩
theorem at_subsets (c : Says K) (X : K.In h) (G : h.Ns mainGlobals mg) : At K mg "subsets" s_subsets ["items", "size"] := by
  obtain ⟨fd, F⟩ := says_fun c 3 rfl rfl
  exact ⟨_, fd, F, f_glo c X G 19 rfl, F.binds fun _ _ _ _ _ _ us hl => match us, hl with | [_, _], _ => rfl⟩
theorem at_order_sign (c : Says K) (X : K.In h) (G : h.Ns mainGlobals mg) : At K mg "order_sign" s_order_sign ["row"] := by
  obtain ⟨fd, F⟩ := says_fun c 4 rfl rfl
  exact ⟨_, fd, F, f_glo c X G 20 rfl, F.binds fun _ _ _ _ _ _ us hl => match us, hl with | [_], _ => rfl⟩
theorem at_room_fault (c : Says K) (X : K.In h) (G : h.Ns mainGlobals mg) : At K mg "room_fault" s_room_fault ["places", "size", "room"] := by
  obtain ⟨fd, F⟩ := says_fun c 5 rfl rfl
  exact ⟨_, fd, F, f_glo c X G 21 rfl, F.binds fun _ _ _ _ _ _ us hl => match us, hl with | [_, _, _], _ => rfl⟩
theorem at_face_counts (c : Says K) (X : K.In h) (G : h.Ns mainGlobals mg) : At K mg "face_counts" s_face_counts ["rooms"] := by
  obtain ⟨fd, F⟩ := says_fun c 6 rfl rfl
  exact ⟨_, fd, F, f_glo c X G 22 rfl, F.binds fun _ _ _ _ _ _ us hl => match us, hl with | [_], _ => rfl⟩
theorem at_check_orders (c : Says K) (X : K.In h) (G : h.Ns mainGlobals mg) : At K mg "check_orders" s_check_orders ["orders"] := by
  obtain ⟨fd, F⟩ := says_fun c 7 rfl rfl
  exact ⟨_, fd, F, f_glo c X G 23 rfl, F.binds fun _ _ _ _ _ _ us hl => match us, hl with | [_], _ => rfl⟩
theorem at_full_orders (c : Says K) (X : K.In h) (G : h.Ns mainGlobals mg) : At K mg "full_orders" s_full_orders ["orders"] := by
  obtain ⟨fd, F⟩ := says_fun c 8 rfl rfl
  exact ⟨_, fd, F, f_glo c X G 24 rfl, F.binds fun _ _ _ _ _ _ us hl => match us, hl with | [_], _ => rfl⟩
theorem at_own_places (c : Says K) (X : K.In h) (G : h.Ns mainGlobals mg) : At K mg "own_places" s_own_places ["orders"] := by
  obtain ⟨fd, F⟩ := says_fun c 9 rfl rfl
  exact ⟨_, fd, F, f_glo c X G 25 rfl, F.binds fun _ _ _ _ _ _ us hl => match us, hl with | [_], _ => rfl⟩
theorem at_first_of (c : Says K) (X : K.In h) (G : h.Ns mainGlobals mg) : At K mg "first_of" s_first_of ["row", "room"] := by
  obtain ⟨fd, F⟩ := says_fun c 10 rfl rfl
  exact ⟨_, fd, F, f_glo c X G 26 rfl, F.binds fun _ _ _ _ _ _ us hl => match us, hl with | [_, _], _ => rfl⟩
theorem at_places_above (c : Says K) (X : K.In h) (G : h.Ns mainGlobals mg) : At K mg "places_above" s_places_above ["row", "room"] := by
  obtain ⟨fd, F⟩ := says_fun c 11 rfl rfl
  exact ⟨_, fd, F, f_glo c X G 27 rfl, F.binds fun _ _ _ _ _ _ us hl => match us, hl with | [_, _], _ => rfl⟩
theorem at_above_in_all (c : Says K) (X : K.In h) (G : h.Ns mainGlobals mg) : At K mg "above_in_all" s_above_in_all ["rows", "room"] := by
  obtain ⟨fd, F⟩ := says_fun c 12 rfl rfl
  exact ⟨_, fd, F, f_glo c X G 28 rfl, F.binds fun _ _ _ _ _ _ us hl => match us, hl with | [_, _], _ => rfl⟩
theorem at_least_row (c : Says K) (X : K.In h) (G : h.Ns mainGlobals mg) : At K mg "least_row" s_least_row ["orders", "room"] := by
  obtain ⟨fd, F⟩ := says_fun c 13 rfl rfl
  exact ⟨_, fd, F, f_glo c X G 29 rfl, F.binds fun _ _ _ _ _ _ us hl => match us, hl with | [_, _], _ => rfl⟩
theorem at_unbeaten_rooms (c : Says K) (X : K.In h) (G : h.Ns mainGlobals mg) : At K mg "unbeaten_rooms" s_unbeaten_rooms ["orders"] := by
  obtain ⟨fd, F⟩ := says_fun c 14 rfl rfl
  exact ⟨_, fd, F, f_glo c X G 30 rfl, F.binds fun _ _ _ _ _ _ us hl => match us, hl with | [_], _ => rfl⟩
theorem at_unbeaten_book (c : Says K) (X : K.In h) (G : h.Ns mainGlobals mg) : At K mg "unbeaten_book" s_unbeaten_book ["orders"] := by
  obtain ⟨fd, F⟩ := says_fun c 15 rfl rfl
  exact ⟨_, fd, F, f_glo c X G 31 rfl, F.binds fun _ _ _ _ _ _ us hl => match us, hl with | [_], _ => rfl⟩
theorem at_unbeaten_chain (c : Says K) (X : K.In h) (G : h.Ns mainGlobals mg) : At K mg "unbeaten_chain" s_unbeaten_chain ["orders"] := by
  obtain ⟨fd, F⟩ := says_fun c 16 rfl rfl
  exact ⟨_, fd, F, f_glo c X G 32 rfl, F.binds fun _ _ _ _ _ _ us hl => match us, hl with | [_], _ => rfl⟩
theorem at_other_unbeaten (c : Says K) (X : K.In h) (G : h.Ns mainGlobals mg) : At K mg "other_unbeaten" s_other_unbeaten ["orders", "room", "leaving"] := by
  obtain ⟨fd, F⟩ := says_fun c 17 rfl rfl
  exact ⟨_, fd, F, f_glo c X G 33 rfl, F.binds fun _ _ _ _ _ _ us hl => match us, hl with | [_, _, _], _ => rfl⟩
theorem at_is_signed (c : Says K) (X : K.In h) (G : h.Ns mainGlobals mg) : At K mg "is_signed" s_is_signed ["chain"] := by
  obtain ⟨fd, F⟩ := says_fun c 18 rfl rfl
  exact ⟨_, fd, F, f_glo c X G 34 rfl, F.binds fun _ _ _ _ _ _ us hl => match us, hl with | [_], _ => rfl⟩
theorem at__law_cell (c : Says K) (X : K.In h) (G : h.Ns mainGlobals mg) : At K mg "_law_cell" s__law_cell ["_law_script", "_law_k"] := by
  obtain ⟨fd, F⟩ := says_fun c 19 rfl rfl
  exact ⟨_, fd, F, f_glo c X G 35 rfl, F.binds fun _ _ _ _ _ _ us hl => match us, hl with | [_, _], _ => rfl⟩
theorem at__law_same (c : Says K) (X : K.In h) (G : h.Ns mainGlobals mg) : At K mg "_law_same" s__law_same ["_law_actual", "_law_due"] := by
  obtain ⟨fd, F⟩ := says_fun c 20 rfl rfl
  exact ⟨_, fd, F, f_glo c X G 36 rfl, F.binds fun _ _ _ _ _ _ us hl => match us, hl with | [_, _], _ => rfl⟩
theorem at__law_order (c : Says K) (X : K.In h) (G : h.Ns mainGlobals mg) : At K mg "_law_order" s__law_order ["_law_cell_here", "_law_n"] := by
  obtain ⟨fd, F⟩ := says_fun c 21 rfl rfl
  exact ⟨_, fd, F, f_glo c X G 37 rfl, F.binds fun _ _ _ _ _ _ us hl => match us, hl with | [_, _], _ => rfl⟩
theorem at__law_rooms (c : Says K) (X : K.In h) (G : h.Ns mainGlobals mg) : At K mg "_law_rooms" s__law_rooms ["_law_items", "_law_size"] := by
  obtain ⟨fd, F⟩ := says_fun c 22 rfl rfl
  exact ⟨_, fd, F, f_glo c X G 38 rfl, F.binds fun _ _ _ _ _ _ us hl => match us, hl with | [_, _], _ => rfl⟩
theorem at__law_table (c : Says K) (X : K.In h) (G : h.Ns mainGlobals mg) : At K mg "_law_table" s__law_table ["_law_rooms_here"] := by
  obtain ⟨fd, F⟩ := says_fun c 23 rfl rfl
  exact ⟨_, fd, F, f_glo c X G 39 rfl, F.binds fun _ _ _ _ _ _ us hl => match us, hl with | [_], _ => rfl⟩
theorem at__law_sign (c : Says K) (X : K.In h) (G : h.Ns mainGlobals mg) : At K mg "_law_sign" s__law_sign ["_law_row"] := by
  obtain ⟨fd, F⟩ := says_fun c 24 rfl rfl
  exact ⟨_, fd, F, f_glo c X G 40 rfl, F.binds fun _ _ _ _ _ _ us hl => match us, hl with | [_], _ => rfl⟩
theorem at__law_orders (c : Says K) (X : K.In h) (G : h.Ns mainGlobals mg) : At K mg "_law_orders" s__law_orders ["_law_script", "_law_d", "_law_v"] := by
  obtain ⟨fd, F⟩ := says_fun c 25 rfl rfl
  exact ⟨_, fd, F, f_glo c X G 41 rfl, F.binds fun _ _ _ _ _ _ us hl => match us, hl with | [_, _, _], _ => rfl⟩
theorem at__law_full (c : Says K) (X : K.In h) (G : h.Ns mainGlobals mg) : At K mg "_law_full" s__law_full ["_law_orders_here", "_law_v"] := by
  obtain ⟨fd, F⟩ := says_fun c 26 rfl rfl
  exact ⟨_, fd, F, f_glo c X G 42 rfl, F.binds fun _ _ _ _ _ _ us hl => match us, hl with | [_, _], _ => rfl⟩
theorem at__law_least_row (c : Says K) (X : K.In h) (G : h.Ns mainGlobals mg) : At K mg "_law_least_row" s__law_least_row ["_law_rows", "_law_room"] := by
  obtain ⟨fd, F⟩ := says_fun c 27 rfl rfl
  exact ⟨_, fd, F, f_glo c X G 43 rfl, F.binds fun _ _ _ _ _ _ us hl => match us, hl with | [_, _], _ => rfl⟩
theorem at__law_unbeaten (c : Says K) (X : K.In h) (G : h.Ns mainGlobals mg) : At K mg "_law_unbeaten" s__law_unbeaten ["_law_rows"] := by
  obtain ⟨fd, F⟩ := says_fun c 28 rfl rfl
  exact ⟨_, fd, F, f_glo c X G 44 rfl, F.binds fun _ _ _ _ _ _ us hl => match us, hl with | [_], _ => rfl⟩
theorem at__law_terms (c : Says K) (X : K.In h) (G : h.Ns mainGlobals mg) : At K mg "_law_terms" s__law_terms ["_law_rows", "_law_rooms_here", "_law_own"] := by
  obtain ⟨fd, F⟩ := says_fun c 29 rfl rfl
  exact ⟨_, fd, F, f_glo c X G 45 rfl, F.binds fun _ _ _ _ _ _ us hl => match us, hl with | [_, _, _], _ => rfl⟩
theorem at__law_refused (c : Says K) (X : K.In h) (G : h.Ns mainGlobals mg) : At K mg "_law_refused" s__law_refused ["_law_orders_here", "_law_room", "_law_leaving"] := by
  obtain ⟨fd, F⟩ := says_fun c 30 rfl rfl
  exact ⟨_, fd, F, f_glo c X G 46 rfl, F.binds fun _ _ _ _ _ _ us hl => match us, hl with | [_, _, _], _ => rfl⟩
theorem at__law_faces_right (c : Says K) (X : K.In h) (G : h.Ns mainGlobals mg) : At K mg "_law_faces_right" s__law_faces_right ["_law_orders_here", "_law_whole"] := by
  obtain ⟨fd, F⟩ := says_fun c 31 rfl rfl
  exact ⟨_, fd, F, f_glo c X G 47 rfl, F.binds fun _ _ _ _ _ _ us hl => match us, hl with | [_, _], _ => rfl⟩
theorem at__law_book_right (c : Says K) (X : K.In h) (G : h.Ns mainGlobals mg) : At K mg "_law_book_right" s__law_book_right ["_law_orders_here", "_law_n", "_law_d", "_law_whole", "_law_terms_here"] := by
  obtain ⟨fd, F⟩ := says_fun c 32 rfl rfl
  exact ⟨_, fd, F, f_glo c X G 48 rfl, F.binds fun _ _ _ _ _ _ us hl => match us, hl with | [_, _, _, _, _], _ => rfl⟩
theorem at__law_refusals_right (c : Says K) (X : K.In h) (G : h.Ns mainGlobals mg) : At K mg "_law_refusals_right" s__law_refusals_right ["_law_script", "_law_orders_here", "_law_n", "_law_d", "_law_whole"] := by
  obtain ⟨fd, F⟩ := says_fun c 33 rfl rfl
  exact ⟨_, fd, F, f_glo c X G 49 rfl, F.binds fun _ _ _ _ _ _ us hl => match us, hl with | [_, _, _, _, _], _ => rfl⟩
theorem at_Book___init__ (c : Says K) (X : K.In h) (G : h.Ns mainGlobals mg) : AtI K mg "Book" "Book.__init__" (He.ga K "Book") s_Book___init__ ["self", "places", "size", "rooms"] := by
  obtain ⟨fd, F⟩ := says_fun c 35 rfl rfl
  exact ⟨_, fd, F, He.mkr_ok (chk_at (says_chk c) 58 rfl), f_glo c X G 51 rfl, F.binds fun _ _ _ _ _ _ us hl => match us, hl with | [_, _, _, _], _ => rfl⟩
theorem at_Chain___init__ (c : Says K) (X : K.In h) (G : h.Ns mainGlobals mg) : AtI K mg "Chain" "Chain.__init__" (He.ga K "Chain") s_Chain___init__ ["self", "places", "degree", "terms"] := by
  obtain ⟨fd, F⟩ := says_fun c 38 rfl rfl
  exact ⟨_, fd, F, He.mkr_ok (chk_at (says_chk c) 63 rfl), f_glo c X G 52 rfl, F.binds fun _ _ _ _ _ _ us hl => match us, hl with | [_, _, _, _], _ => rfl⟩
theorem at_Book___eq__ (c : Says K) : AtM K "__eq__" "Book.__eq__" (He.ma K (He.ga K "Book") "__eq__") s_Book___eq__ ["self", "other"] := by
  obtain ⟨fd, F⟩ := says_fun c 36 rfl rfl
  exact ⟨fd, F, F.binds fun _ _ _ _ _ _ us hl => match us, hl with | [_, _], _ => rfl⟩
theorem at_Book_odd_faces (c : Says K) : AtM K "odd_faces" "Book.odd_faces" (He.ma K (He.ga K "Book") "odd_faces") s_Book_odd_faces ["self"] := by
  obtain ⟨fd, F⟩ := says_fun c 37 rfl rfl
  exact ⟨fd, F, F.binds fun _ _ _ _ _ _ us hl => match us, hl with | [_], _ => rfl⟩
theorem at_Chain___len__ (c : Says K) : AtM K "__len__" "Chain.__len__" (He.ma K (He.ga K "Chain") "__len__") s_Chain___len__ ["self"] := by
  obtain ⟨fd, F⟩ := says_fun c 39 rfl rfl
  exact ⟨fd, F, F.binds fun _ _ _ _ _ _ us hl => match us, hl with | [_], _ => rfl⟩
theorem at_Chain___abs__ (c : Says K) : AtM K "__abs__" "Chain.__abs__" (He.ma K (He.ga K "Chain") "__abs__") s_Chain___abs__ ["self"] := by
  obtain ⟨fd, F⟩ := says_fun c 40 rfl rfl
  exact ⟨fd, F, F.binds fun _ _ _ _ _ _ us hl => match us, hl with | [_], _ => rfl⟩
theorem at_Chain_boundary (c : Says K) : AtM K "boundary" "Chain.boundary" (He.ma K (He.ga K "Chain") "boundary") s_Chain_boundary ["self"] := by
  obtain ⟨fd, F⟩ := says_fun c 41 rfl rfl
  exact ⟨fd, F, F.binds fun _ _ _ _ _ _ us hl => match us, hl with | [_], _ => rfl⟩
theorem at_Chain_odd_book (c : Says K) : AtM K "odd_book" "Chain.odd_book" (He.ma K (He.ga K "Chain") "odd_book") s_Chain_odd_book ["self"] := by
  obtain ⟨fd, F⟩ := says_fun c 42 rfl rfl
  exact ⟨fd, F, F.binds fun _ _ _ _ _ _ us hl => match us, hl with | [_], _ => rfl⟩
theorem at_Book_is_even (c : Says K) : AtM K "is_even" "Book.is_even" (pgt K (He.ga K "Book") "is_even") s_Book_is_even ["self"] := by
  obtain ⟨fd, F⟩ := says_fun c 43 rfl rfl
  exact ⟨fd, F, F.binds fun _ _ _ _ _ _ us hl => match us, hl with | [_], _ => rfl⟩
theorem at_Book_is_two_each (c : Says K) : AtM K "is_two_each" "Book.is_two_each" (pgt K (He.ga K "Book") "is_two_each") s_Book_is_two_each ["self"] := by
  obtain ⟨fd, F⟩ := says_fun c 44 rfl rfl
  exact ⟨fd, F, F.binds fun _ _ _ _ _ _ us hl => match us, hl with | [_], _ => rfl⟩
theorem at_Mismatch (c : Says K) (X : K.In h) (G : h.Ns mainGlobals mg) : HasE PySem.Challenge.pw_neveralone_k84_unbeaten_books_and_their w K mg base "Mismatch" (He.ga K "Mismatch") 1 (spI1 (He.ga K "Mismatch") "fault") :=
  exc_H (d := ⟨fun K => He.ma K (He.ga K "Mismatch") "__init__", "__init__", "Mismatch.__init__", s_Mis, ["__class__"]⟩) (fdn := "fault") rfl rfl (says_ok c 45 rfl).1 (says_ok c 45 rfl).2 (oexB_ok (chk_at (says_chk c) 85 rfl)) (chk_at (says_chk c) 86 rfl) (f_free c X G 15 rfl) (iniB_ok (chk_at (says_chk c) 87 rfl)).1 (iniB_ok (chk_at (says_chk c) 87 rfl)).2 (f_glo c X G 54 rfl) (He.noat_ok (chk_at (says_chk c) 84 rfl))
    rfl (NdefX.nscope_by (by decide +kernel)) rfl rfl rfl (fun F f L e1 e2 => by
      obtain ⟨_, _, _, _, _, _, _⟩ := F
      cases e1
      cases e2
      rfl) (fun F f L e1 e2 => by
      obtain ⟨_, _, _, _, _, _, _⟩ := F
      cases e1
      cases e2
      rfl) (fun _ _ _ _ _ _ _ us hl => match us, hl with | [_, _], _ => rfl)
    (fun F f A outer s H E e1 e2 => by
      obtain ⟨_, _, _, _, _, _, _⟩ := F
      cases e1
      cases e2
      exact pss_one (ps_ost (pv 0) (pv 1)))
theorem at_NotARoom (c : Says K) (X : K.In h) (G : h.Ns mainGlobals mg) : HasE PySem.Challenge.pw_neveralone_k84_unbeaten_books_and_their w K mg base "NotARoom" (He.ga K "NotARoom") 1 (spI1 (He.ga K "NotARoom") "room") :=
  exc_H (d := ⟨fun K => He.ma K (He.ga K "NotARoom") "__init__", "__init__", "NotARoom.__init__", s_Nar, ["__class__"]⟩) (fdn := "room") rfl rfl (says_ok c 46 rfl).1 (says_ok c 46 rfl).2 (oexB_ok (chk_at (says_chk c) 80 rfl)) (chk_at (says_chk c) 81 rfl) (f_free c X G 15 rfl) (iniB_ok (chk_at (says_chk c) 82 rfl)).1 (iniB_ok (chk_at (says_chk c) 82 rfl)).2 (f_glo c X G 53 rfl) (He.noat_ok (chk_at (says_chk c) 79 rfl))
    rfl (NdefX.nscope_by (by decide +kernel)) rfl rfl rfl (fun F f L e1 e2 => by
      obtain ⟨_, _, _, _, _, _, _⟩ := F
      cases e1
      cases e2
      rfl) (fun F f L e1 e2 => by
      obtain ⟨_, _, _, _, _, _, _⟩ := F
      cases e1
      cases e2
      rfl) (fun _ _ _ _ _ _ _ us hl => match us, hl with | [_, _], _ => rfl)
    (fun F f A outer s H E e1 e2 => by
      obtain ⟨_, _, _, _, _, _, _⟩ := F
      cases e1
      cases e2
      exact pss_one (ps_ost (pv 0) (pv 1)))
end
end DL

set_option Elab.async false
set_option linter.all false
set_option maxRecDepth 100000
set_option maxHeartbeats 4000000
/-! HG: the law. -/
namespace DL
open PySem PySem.Spec PyProof.Rows L2
abbrev P84 : Program := PySem.Challenge.pw_neveralone_k84_unbeaten_books_and_their
theorem HasM.of {P : Program} {w : World} {K : Fr} {mg : Str → Option Value} {base : Heap} {C : Addr} {m : Str} {k : Nat} {ps : List Str} {sp : Sp} (h : ∃ fd, FnOk P w K mg base CX0 k (He.ma K C m) fd ps sp ∧ Binds K fd ps []) (M : Meth K C m (He.ma K C m)) (c : Cls K C) : HasM P w K mg base C m k sp := by
  obtain ⟨fd, F, b⟩ := h
  exact ⟨_, fd, ps, F, M, c, b⟩
theorem HasS.of {P : Program} {w : World} {K : Fr} {mg : Str → Option Value} {base : Heap} {C : Addr} {m : Str} {k : Nat} {ps : List Str} {sp : Sp} (h : ∃ fd, FnOk P w K mg base CX0 k (He.ma K C m) fd ps sp ∧ Binds K fd ps []) (M : Meth K C m (He.ma K C m)) : HasS P w K mg base C m k sp := by
  obtain ⟨fd, F, b⟩ := h
  exact ⟨_, fd, ps, F, M.at_, M.fn, b⟩
theorem HasP.of {P : Program} {w : World} {K : Fr} {mg : Str → Option Value} {base : Heap} {C : Addr} {m : Str} {k : Nat} {ps : List Str} {sp : Sp} (h : ∃ fd, FnOk P w K mg base CX0 k (pgt K C m) fd ps sp ∧ Binds K fd ps []) (M : PropOf K C m (He.ma K C m) (pgt K C m)) (c : Cls K C) : HasP P w K mg base C m k sp := by
  obtain ⟨fd, F, b⟩ := h
  exact ⟨_, _, fd, ps, F, M, c, b⟩
theorem law_all {w : World} {K : Fr} {mg : Str → Option Value} {h : Heap} (c : Says K) (X : K.In h) (G : h.Ns mainGlobals mg) {base : Heap} {fa : Addr} {cdv : Value} {sh : Shared} {H : Hp} (hr : Room 12 (callerA.deeper (PyProof.Rows.envOfC "law" (defScope s_law) sh.heap.objs.size fa cdv))) (xs : List Int) (hx : xs.length ≤ 1000000) :
    ∃ t, PSs (cxOf CX0 P84 w K mg base ["_law_script", "_law_d", "_law_v", "_law_n", "_law_orders_here", "_law_rows", "_law_own", "_law_rooms_here", "_law_whole", "_law_passed", "_law_row", "_law_kept", "_law_full_here", "_law_told", "_law_images", "_law_renamed", "_law_p", "_law_named_rows", "_law_named_rooms", "_law_room", "_law_named_whole"] "law" (defScope s_law) fa cdv callerA [] sh H E0).nox (defBody s_law) t ∧ SD K t (init ["_law_script", "_law_d", "_law_v", "_law_n", "_law_orders_here", "_law_rows", "_law_own", "_law_rooms_here", "_law_whole", "_law_passed", "_law_row", "_law_kept", "_law_full_here", "_law_told", "_law_images", "_law_renamed", "_law_p", "_law_named_rows", "_law_named_rooms", "_law_room", "_law_named_whole"] [.frz (xs.map D.int)]) (fun o => o = .rt (.bl true)) := by
  have B := b_all c X G
  have C := c_all c X G
  have Z := z_all c X G
  have V := x_all c X G
  have cB := Z.cB
  have cC := Z.cC
  have mth := fun (i : Nat) {x m : Str} (e : (chks K)[i]? = some ((He.Fa.meth x m).ok K)) => He.meth_ok (chk_at (says_chk c) i e)
  have g_faces := ok_faces (P := P84) (w := w) (base := base) (at_faces c X G) B
  have g_without := ok_without (P := P84) (w := w) (base := base) (at_without c X G) B
  have g_exchanged := ok_exchanged (P := P84) (w := w) (base := base) (at_exchanged c X G) B
  have g_order_sign := ok_order_sign (P := P84) (w := w) (base := base) (at_order_sign c X G) B
  have g_room_fault := ok_room_fault (P := P84) (w := w) (base := base) (at_room_fault c X G) B
  have g_subsets := ok_subsets (P := P84) (w := w) (base := base) (at_subsets c X G) B 5
  have g_face_counts := ok_face_counts (at_face_counts c X G) B g_faces
  have g_Book := ok_Book_init (at_Book___init__ c X G) B Z g_room_fault
  have g_Chain := ok_Chain_init (at_Chain___init__ c X G) B Z g_room_fault g_order_sign
  have g_odd_faces := HasM.of (ok_odd_faces (at_Book_odd_faces c) B Z g_face_counts) (mth 68 rfl) cB
  have g_is_even := HasP.of (ok_is_even (at_Book_is_even c) B Z g_odd_faces) (propB_ok (chk_at (says_chk c) 73 rfl)) cB
  have g_is_two_each := HasP.of (ok_is_two_each (at_Book_is_two_each c) B Z g_face_counts) (propB_ok (chk_at (says_chk c) 74 rfl)) cB
  have g_eq := HasS.of (ok_Book_eq (P := P84) (w := w) (mg := mg) (base := base) (at_Book___eq__ c) B Z) (mth 67 rfl)
  have g_len := HasS.of (ok_Chain_len (P := P84) (w := w) (mg := mg) (base := base) (at_Chain___len__ c) B Z) (mth 69 rfl)
  have g_abs := HasS.of (ok_Chain_abs (P := P84) (w := w) (mg := mg) (base := base) (at_Chain___abs__ c) B Z) (mth 70 rfl)
  have g_boundary := HasM.of (ok_boundary (at_Chain_boundary c) B Z g_faces g_Chain) (mth 71 rfl) cC
  have g_odd_book := HasM.of (ok_odd_book (at_Chain_odd_book c) B Z g_Book) (mth 72 rfl) cC
  have g_is_signed := ok_is_signed (at_is_signed c X G) B Z g_boundary g_len g_abs
  have g_check_orders := ok_check_orders (P := P84) (w := w) (base := base) (at_check_orders c X G) B C
  have g_full_orders := ok_full_orders (at_full_orders c X G) B g_check_orders
  have g_full_ordersN := ok_full_ordersN (at_full_orders c X G) B g_check_orders
  have g_own_places := ok_own_places (at_own_places c X G) B g_check_orders
  have g_first_of := ok_first_of (P := P84) (w := w) (base := base) (at_first_of c X G) B
  have g_places_above := ok_places_above (at_places_above c X G) B g_first_of
  have g_above_in_all := ok_above_in_all (at_above_in_all c X G) B g_places_above
  have g_least_row := ok_least_row (at_least_row c X G) B g_full_orders g_first_of
  have g_unbeaten_rooms := ok_unbeaten_rooms (at_unbeaten_rooms c X G) B g_check_orders g_full_orders g_subsets g_above_in_all
  have g_unbeaten_book := ok_unbeaten_book (at_unbeaten_book c X G) B g_check_orders g_own_places g_unbeaten_rooms g_Book
  have g_unbeaten_chain := ok_unbeaten_chain (at_unbeaten_chain c X G) B g_check_orders g_own_places g_unbeaten_rooms g_least_row g_Chain
  have g_other := ok_other_unbeaten (at_other_unbeaten c X G) B g_check_orders g_full_orders g_own_places g_room_fault g_above_in_all g_first_of g_without g_exchanged (at_NotARoom c X G) (at_Mismatch c X G)
  have l_cell := ok_cell (P := P84) (w := w) (base := base) (at__law_cell c X G) B
  have l_same := ok_lsame (P := P84) (w := w) (base := base) (at__law_same c X G) B
  have l_order := ok_order (P := P84) (w := w) (base := base) (at__law_order c X G) B
  have l_rooms := ok_lrooms (P := P84) (w := w) (base := base) (at__law_rooms c X G) B 5
  have l_table := ok_ltable (P := P84) (w := w) (base := base) (at__law_table c X G) B
  have l_sign := ok_lsign (P := P84) (w := w) (base := base) (at__law_sign c X G) B
  have l_orders := ok_orders (at__law_orders c X G) B l_order l_cell
  have l_full := ok_lfull (P := P84) (w := w) (base := base) (at__law_full c X G) B
  have l_least := ok_lleast (P := P84) (w := w) (base := base) (at__law_least_row c X G) B
  have l_unb := ok_lunb (at__law_unbeaten c X G) B l_rooms l_least
  have l_terms := ok_lterms (at__law_terms c X G) B l_sign l_least
  have l_ref := ok_lrefused (at__law_refused c X G) B V g_other
  have l_faces := ok_lfaces (at__law_faces_right c X G) B l_table (l_same 4) g_other
  have l_book := ok_lbook (at__law_book_right c X G) B Z (l_same 5) g_unbeaten_book g_unbeaten_chain g_is_signed g_is_two_each g_is_even g_boundary g_odd_book g_len g_eq
  have l_refs := ok_lrefs (at__law_refusals_right c X G) B (l_same 5) l_cell l_rooms l_ref
  exact law_der hr B Z l_cell l_orders l_full l_unb g_full_orders g_full_ordersN (l_same 5) l_terms l_book l_faces l_refs l_order g_unbeaten_book xs hx
theorem law_fun {K : Fr} (c : Says K) : ∃ fd, Fun K "law" "law" s_law (He.ga K "law") fd := says_fun c 34 rfl rfl
end DL
open PySem PySem.W PySem.Calls PyProof.Rows
theorem PySem.Challenge.cw_neveralone_k84_unbeaten_books_and_their_holds : PySem.Challenge.rw_neveralone_k84_unbeaten_books_and_their.Holds := by
  w_on; o_law
  refine HandSHeadRun.head_any (r := DL.R84) (q := DL.q84) (H := DL.hk84) (ob := DL.ob84) (M := 6000) (loose := DL.loose) (d := HandSHeadRun.topDef DL.R84.prog 54) (kwd := []) DL.ob84_eq
    (by kernel_rfl) (fun s => by kernel_rfl) DL.run84 (by kernel_rfl) (by kernel_rfl) (by kernel_rfl) (by rfl) (by first | assumption | decide +kernel) (by decide +kernel) ⟨rfl, rfl, rfl, rfl, rfl, by decide +kernel⟩ ?hw ?hc
  case hw => w_witness2
  case hc =>
    refine Att.attach_call (l := PySem.Challenge.rw_neveralone_k84_unbeaten_books_and_their) (n := 63) rfl (by kernel_rfl) fun w s₀ sh mg mb fa o pm cd doc a vs ns G Y _ _ _ mgl obj isI few noG => ?_
    obtain ⟨K, c, X⟩ := Y
    obtain ⟨fd, F⟩ := DL.law_fun c
    have e1 : mg ("law" : PySem.Str) = some (.ref fa) := by
      have e : (HandSHeadRun.topDef DL.R84.prog 54).name = ("law" : PySem.Str) := by kernel_rfl
      rw [← e]
      exact mgl
    have e2 := e1.symm.trans (DL.f_glo c X G.T.g 50 rfl)
    cases e2
    have hz : (1000000 : Nat) < sizeLine := by decide
    refine DL.law_go X G.T.g G.T.b G.T.builtins G.T.nolimit noG obj isI (by omega) F (fun s u => ?_) DL.sc_law fun base cdv H => DL.law_all c X G.T.g (L2.Room.deeper ⟨rfl, by decide, by decide⟩ _) ns (by omega)
    obtain ⟨oc, od, kV, doc2, pm2, an, cdv, ct, osl, rfl, _, _⟩ := F.ex
    exact .of_eq rfl
