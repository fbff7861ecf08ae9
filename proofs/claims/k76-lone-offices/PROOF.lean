import PyProof.Rows.All
import Wide.All
import OpenK.AllK
import Wide.FinOn
import HandS.ForMost
import HandS.ForExc
import HandS.Evl
import HandS.IsInst
import HandS.Defaults
import HandS.DictComp
import HandS.NoneIn
import HandS.Style
import HandS.Flow
import HandS.Conv
import HandS.TryMany
import HandS.WordsDict
import HandS.SetKeys
import HandS.Wide
import KE.SortData
import PyProof.ReprReads
import HandS.Finally
import KE.KFromBytes
import KE.KSuper
import KE.RegKSuper
import KE.KExcMake
import KE.KExcSuper
import HandS.Base
import HandS.Call
import HandS.List
import HandS.Ends
import HandS.Exc
import HandS.ExcInit
import HandS.ExcField
import KE.GoesMore
import KE.GoesEnum
import KE.DatumOrd
import HandS.SetFor
import HandS.Strs
import HandS.SortInts
import HandS.More
import HandS.Iter
import HandS.MakeKwOnly
import HandS.TupMul
import HandS.RaiseMore
import HandS.FStrTup
import KE.KStateDown
import HandS.Words
import HandS.Head0
import HandS.Head1
import HandS.Head2
import HandS.HeadEnd
import HandS.HeadHook1
import HandS.HeadHook2
import PySem.Challenge.RW_sharedunseen_k76_whole_offices_that_reac
set_option Elab.async false
set_option linter.all false
set_option autoImplicit false
set_option maxRecDepth 100000
namespace PD
open PySem PySem.Spec L2
open PyProof.Rows hiding St
def mem (st : Stmt) (i : Nat) : Stmt := match st with
  | .ClassDef _ _ _ body _ _ _ _ _ _ _ => body.getD i (.Pass ⟨0, 0, 0, 0⟩)
  | _ => .Pass ⟨0, 0, 0, 0⟩
end PD
namespace K76
open PySem PySem.Spec L2 PD
open PyProof.Rows hiding St
def top (i : Nat) : Stmt := PySem.Challenge.pw_sharedunseen_k76_whole_offices_that_reac.main.body.getD i (.Pass ⟨0, 0, 0, 0⟩)
def letters : Str := "abcdefghijklmnopqrstuvwxyz"
end K76
set_option Elab.async false
set_option linter.all false
set_option autoImplicit false
set_option maxRecDepth 100000
set_option maxHeartbeats 400000
/-! k76, part ZG: what the head looks at. -/
namespace K76
open PySem PySem.Spec L2 PD
open PyProof.Rows hiding St
def hfn0 : List He.DefD := [⟨("is_integer", none), "is_integer", "is_integer", defArgs (top 10), defBody (top 10), defScope (top 10), [], []⟩, ⟨("is_number", none), "is_number", "is_number", defArgs (top 11), defBody (top 11), defScope (top 11), [], []⟩, ⟨("is_below", none), "is_below", "is_below", defArgs (top 12), defBody (top 12), defScope (top 12), [], []⟩, ⟨("is_letter", none), "is_letter", "is_letter", defArgs (top 13), defBody (top 13), defScope (top 13), [], []⟩, ⟨("is_name", none), "is_name", "is_name", defArgs (top 14), defBody (top 14), defScope (top 14), [], []⟩, ⟨("is_row", none), "is_row", "is_row", defArgs (top 15), defBody (top 15), defScope (top 15), [], []⟩, ⟨("is_listing", none), "is_listing", "is_listing", defArgs (top 16), defBody (top 16), defScope (top 16), [], []⟩, ⟨("pairs_across", none), "pairs_across", "pairs_across", defArgs (top 20), defBody (top 20), defScope (top 20), [], []⟩, ⟨("ends_clash", none), "ends_clash", "ends_clash", defArgs (top 21), defBody (top 21), defScope (top 21), [], []⟩, ⟨("is_told_otherwise", none), "is_told_otherwise", "is_told_otherwise", defArgs (top 22), defBody (top 22), defScope (top 22), [], []⟩, ⟨("answers_clash", none), "answers_clash", "answers_clash", defArgs (top 23), defBody (top 23), defScope (top 23), [], []⟩, ⟨("kinds_at", none), "kinds_at", "kinds_at", defArgs (top 24), defBody (top 24), defScope (top 24), [], []⟩, ⟨("clash_anywhere", none), "clash_anywhere", "clash_anywhere", defArgs (top 25), defBody (top 25), defScope (top 25), [], []⟩, ⟨("have_clash", none), "have_clash", "have_clash", defArgs (top 26), defBody (top 26), defScope (top 26), [], []⟩, ⟨("check_state", none), "check_state", "check_state", defArgs (top 28), defBody (top 28), defScope (top 28), [], []⟩, ⟨("need_office", none), "need_office", "need_office", defArgs (top 29), defBody (top 29), defScope (top 29), [], []⟩, ⟨("need_offices", none), "need_offices", "need_offices", defArgs (top 30), defBody (top 30), defScope (top 30), [], []⟩, ⟨("operation_table", none), "operation_table", "operation_table", defArgs (top 31), defBody (top 31), defScope (top 31), [], []⟩, ⟨("operations_of", none), "operations_of", "operations_of", defArgs (top 32), defBody (top 32), defScope (top 32), [], []⟩, ⟨("distances", none), "distances", "distances", defArgs (top 33), defBody (top 33), defScope (top 33), [.non], []⟩, ⟨("reachable", none), "reachable", "reachable", defArgs (top 34), defBody (top 34), defScope (top 34), [.non], []⟩, ⟨("all_offices", none), "all_offices", "all_offices", defArgs (top 36), defBody (top 36), defScope (top 36), [], []⟩, ⟨("other_offices", none), "other_offices", "other_offices", defArgs (top 37), defBody (top 37), defScope (top 37), [], []⟩, ⟨("reach_tables", none), "reach_tables", "reach_tables", defArgs (top 38), defBody (top 38), defScope (top 38), [], []⟩, ⟨("joint_homes", none), "joint_homes", "joint_homes", defArgs (top 39), defBody (top 39), defScope (top 39), [], []⟩, ⟨("homes", none), "homes", "homes", defArgs (top 40), defBody (top 40), defScope (top 40), [], []⟩, ⟨("is_reversible", none), "is_reversible", "is_reversible", defArgs (top 41), defBody (top 41), defScope (top 41), [], []⟩, ⟨("need_unseen_reversible", none), "need_unseen_reversible", "need_unseen_reversible", defArgs (top 42), defBody (top 42), defScope (top 42), [], []⟩, ⟨("need_group", none), "need_group", "need_group", defArgs (top 45), defBody (top 45), defScope (top 45), [], []⟩, ⟨("shares_of_cell", none), "shares_of_cell", "shares_of_cell", defArgs (top 46), defBody (top 46), defScope (top 46), [], []⟩]
def hfn1 : List He.DefD := [⟨("images_by_runs", none), "images_by_runs", "images_by_runs", defArgs (top 47), defBody (top 47), defScope (top 47), [], []⟩, ⟨("shared_group", none), "shared_group", "shared_group", defArgs (top 48), defBody (top 48), defScope (top 48), [], [("office", .int 0), ("base", .int 0)]⟩, ⟨("need_base", none), "need_base", "need_base", defArgs (top 50), defBody (top 50), defScope (top 50), [], []⟩, ⟨("is_operation", none), "is_operation", "is_operation", defArgs (top 56), defBody (top 56), defScope (top 56), [], []⟩, ⟨("check_offices", none), "check_offices", "check_offices", defArgs (top 57), defBody (top 57), defScope (top 57), [], []⟩, ⟨("lone_offices", none), "lone_offices", "lone_offices", defArgs (top 60), defBody (top 60), defScope (top 60), [], []⟩, ⟨("multipliers", none), "multipliers", "multipliers", defArgs (top 61), defBody (top 61), defScope (top 61), [], [("base", .int 0)]⟩, ⟨("_law_heap", none), "_law_heap", "_law_heap", defArgs (top 63), defBody (top 63), defScope (top 63), [], []⟩, ⟨("_law_draw", none), "_law_draw", "_law_draw", defArgs (top 64), defBody (top 64), defScope (top 64), [], []⟩, ⟨("_law_pick", none), "_law_pick", "_law_pick", defArgs (top 65), defBody (top 65), defScope (top 65), [], []⟩, ⟨("_law_order", none), "_law_order", "_law_order", defArgs (top 66), defBody (top 66), defScope (top 66), [], []⟩, ⟨("_law_names", none), "_law_names", "_law_names", defArgs (top 67), defBody (top 67), defScope (top 67), [], []⟩, ⟨("_law_reach", none), "_law_reach", "_law_reach", defArgs (top 68), defBody (top 68), defScope (top 68), [], []⟩, ⟨("_law_due", none), "_law_due", "_law_due", defArgs (top 69), defBody (top 69), defScope (top 69), [], []⟩, ⟨("_law_table", none), "_law_table", "_law_table", defArgs (top 72), defBody (top 72), defScope (top 72), [], []⟩, ⟨("_law_spoilt", none), "_law_spoilt", "_law_spoilt", defArgs (top 73), defBody (top 73), defScope (top 73), [], []⟩, ⟨("_law_lists", none), "_law_lists", "_law_lists", defArgs (top 74), defBody (top 74), defScope (top 74), [], []⟩, ⟨("_law_stores", none), "_law_stores", "_law_stores", defArgs (top 75), defBody (top 75), defScope (top 75), [], []⟩, ⟨("_law_told", none), "_law_told", "_law_told", defArgs (top 76), defBody (top 76), defScope (top 76), [], []⟩, ⟨("_law_images", none), "_law_images", "_law_images", defArgs (top 77), defBody (top 77), defScope (top 77), [], []⟩, ⟨("_law_multiplied", none), "_law_multiplied", "_law_multiplied", defArgs (top 78), defBody (top 78), defScope (top 78), [], []⟩, ⟨("law", none), "law", "law", defArgs (top 79), defBody (top 79), defScope (top 79), [], []⟩, ⟨("Shared", some "__init__"), "__init__", "Shared.__init__", defArgs (mem (top 44) 0), defBody (mem (top 44) 0), defScope (mem (top 44) 0), [], []⟩, ⟨("Store", some "__init__"), "__init__", "Store.__init__", defArgs (mem (top 58) 0), defBody (mem (top 58) 0), defScope (mem (top 58) 0), [], []⟩]
def hfn : List He.DefD := hfn0 ++ hfn1
def hfa0 : List He.Fa := [.glo "is_integer", .glo "is_number", .glo "is_below", .glo "is_letter", .glo "is_name", .glo "is_row", .glo "is_listing", .glo "pairs_across", .glo "ends_clash", .glo "is_told_otherwise", .glo "answers_clash", .glo "kinds_at", .glo "clash_anywhere", .glo "have_clash", .glo "check_state", .glo "need_office", .glo "need_offices", .glo "operation_table", .glo "operations_of", .glo "distances", .glo "reachable", .glo "all_offices", .glo "other_offices", .glo "reach_tables", .glo "joint_homes", .glo "homes", .glo "is_reversible", .glo "need_unseen_reversible", .glo "need_group", .glo "shares_of_cell"]
def hfa1 : List He.Fa := [.glo "images_by_runs", .glo "shared_group", .glo "need_base", .glo "is_operation", .glo "check_offices", .glo "lone_offices", .glo "multipliers", .glo "_law_heap", .glo "_law_draw", .glo "_law_pick", .glo "_law_order", .glo "_law_names", .glo "_law_reach", .glo "_law_due", .glo "_law_table", .glo "_law_spoilt", .glo "_law_lists", .glo "_law_stores", .glo "_law_told", .glo "_law_images", .glo "_law_multiplied", .glo "law", .glo "Shared", .glo "Store", .glo "Refused", .glo "InvalidNumber", .cls "Shared", .cls "Store", .noat "Store" "size", .noat "Store" "offices"]
def hfa2 : List He.Fa := [.noat "Shared" "table", .noat "Shared" "shares", .mkr "Shared", .mkr "Store", .free "isinstance", .free "int", .free "bool", .free "str", .free "tuple", .free "list", .free "dict", .free "len", .free "all", .free "any", .free "sum", .free "max", .free "abs", .free "sorted", .free "set", .free "range", .free "enumerate", .free "repr", .free "super", .int "LONGEST_NAME" 5, .int "MOST_ANSWER" 1000000000000, .int "MOST_STATES" 200, .int "LEAST_OFFICES" 2, .int "MOST_OFFICES" 8, .int "MOST_OPERATIONS" 40, .str "ENDS" "ends"]
def hfa3 : List He.Fa := [.str "ANSWERS" "answers", .str "LETTERS" letters, .exm "InvalidNumber" "InvalidNumber" true, .exm "Refused" "InvalidNumber" false, .exm "Refused" "Refused" true]
def hfa : List He.Fa := hfa0 ++ hfa1 ++ hfa2 ++ hfa3
def hloose0 : List PySem.Str := ["StoreError", "InvalidStore", "InvalidState", "InvalidNumber", "Refused", "LETTERS", "LONGEST_NAME", "MOST_ANSWER", "is_integer", "is_number", "is_below", "is_letter", "is_name", "is_row", "is_listing", "ENDS", "ANSWERS", "pairs_across", "ends_clash", "is_told_otherwise", "answers_clash", "kinds_at", "clash_anywhere", "have_clash", "check_state", "need_office", "need_offices", "operation_table", "operations_of", "distances"]
def hloose1 : List PySem.Str := ["reachable", "all_offices", "other_offices", "reach_tables", "joint_homes", "homes", "is_reversible", "need_unseen_reversible", "Shared", "need_group", "shares_of_cell", "images_by_runs", "shared_group", "need_base", "MOST_STATES", "LEAST_OFFICES", "MOST_OFFICES", "MOST_OPERATIONS", "is_operation", "check_offices", "Store", "lone_offices", "multipliers", "_law_heap", "_law_draw", "_law_pick", "_law_order", "_law_names", "_law_reach", "_law_due"]
def hloose2 : List PySem.Str := ["_law_view", "_law_homes", "_law_table", "_law_spoilt", "_law_lists", "_law_stores", "_law_told", "_law_images", "_law_multiplied"]
def hloose : List PySem.Str := hloose0 ++ hloose1 ++ hloose2

/-! ### the two errors -/
def clsB (K : PySem.W.Frag) (C : Addr) : Bool := match K.lookup C with
  | some ⟨.type ty, dd, .cls cd, sl⟩ => (match cd.mro, sl.toList with
    | .ref C' :: bm, [_, _, _, _, some (.builtin n), _] => decide (ty = "type") && (decide (C' = C) && (decide (n = "ValueError.__new__") && (!cd.hasDel && (cd.hasDict && PySem.HandSPX.refsVE bm))))
    | _, _ => false)
  | _ => false
theorem clsB_ok {K : PySem.W.Frag} {C : Addr} (q : clsB K C = true) : ∃ nm q N bs bm sn sub ab col dd k0 k1 k2 k3 k5, K.lookup C = some (excClassObj nm q C N bs bm true sn sub ab col dd k0 k1 k2 k3 k5 "ValueError.__new__") ∧ PySem.HandSPX.refsVE bm = true := by
  unfold clsB at q
  split at q
  · rename_i ty dd cd sl ho
    split at q
    · rename_i C' bm k0 k1 k2 k3 n k5 hm hs
      obtain ⟨c1, q⟩ := He.ba q
      obtain ⟨c2, q⟩ := He.ba q
      obtain ⟨c3, q⟩ := He.ba q
      obtain ⟨c4, q⟩ := He.ba q
      obtain ⟨c5, c6⟩ := He.ba q
      have c1 := of_decide_eq_true c1
      have c2 := of_decide_eq_true c2
      have c3 := of_decide_eq_true c3
      subst c1 c2 c3
      obtain ⟨nm, bs, mro, N, qn, hd, sn, sub, ab, col, del⟩ := cd
      have c4 : del = false := by cases del with
        | false => rfl
        | true => cases c4
      have c5 : hd = true := c5
      have hm : mro = _ := hm
      subst c4 c5 hm
      have hsl : sl = #[k0, k1, k2, k3, some (.builtin "ValueError.__new__"), k5] := by
        obtain ⟨l⟩ := sl
        exact congrArg List.toArray hs
      subst hsl
      exact ⟨nm, qn, N, bs, bm, sn, sub, ab, col, dd, k0, k1, k2, k3, k5, ho, c6⟩
    · cases q
  · cases q
abbrev FnS : Type := Option (Str × Str × Arguments × FuncBody × Scope × Addr × Addr)
def fnS (K : PySem.W.Frag) (x : Str) : FnS := match K.lookup (He.ma K (He.ga K x) "__init__") with
  | some ⟨_, _, .func fd, _⟩ => some (fd.name, fd.qualname, fd.params, fd.body, fd.scope, fd.globals, fd.builtins)
  | _ => none
def cellB (K : PySem.W.Frag) (C : Addr) (cl : List (Str × Addr)) : Bool := match cl with
  | [(n, cc)] => decide (n = ("__class__" : Str)) && (match K.lookup cc with
    | some ⟨_, _, .cell (some (.ref D)), _⟩ => decide (D = C)
    | _ => false)
  | _ => false
def fileB (K : PySem.W.Frag) (cd : Value) (qual file : Str) : Bool := match cd with
  | .ref c => PySem.W.codeIn K (.ref c) qual && (match K.lookup c with
    | some ⟨_, _, .fields vs, _⟩ => (match (vs : Array Value)[2]? with
      | some (Value.str f _) => decide (f = file)
      | _ => false)
    | _ => false)
  | _ => false
def noneB : Value → Bool
  | .none => true
  | _ => false
def suF (K : PySem.W.Frag) (C fI : Addr) (qual file : Str) : Bool := match K.lookup fI with
  | some ⟨_, _, .func fd, _⟩ => noneB fd.defaults && (noneB fd.kwdefaults && (cellB K C fd.closure && fileB K fd.code qual file))
  | _ => false
def suB (K : PySem.W.Frag) (x qual file : Str) : Bool :=
  clsB K (He.ga K x) && (He.eqO (PySem.W.findIn K (.ref (He.ga K x)) "__setattr__") (some (some (.builtin "object.__setattr__"))) && (He.eqO (PySem.W.findIn K (.ref (He.ga K x)) "word") (some none) &&
  (He.eqO (PySem.W.findIn K (.ref (He.ga K x)) "__init__") (some (some (.ref (He.ma K (He.ga K x) "__init__")))) && (decide (PySem.W.typeIn K (.ref (He.ma K (He.ga K x) "__init__")) = some (.type "function")) && (PySem.W.keepIn K (.ref (He.ga K x)) &&
  (decide (PySem.W.subIn K (.ref (He.ga K x)) (.type "BaseException") = some true) && (decide (PySem.W.subIn K (.ref (He.ga K x)) (.type "ValueError") = some true) && (decide (PySem.W.typeIn K (.ref (He.ga K x)) = some (.type "type")) &&
  (decide (PySem.W.mroIn K (He.ga K x) (.ref (He.ga K x)) = some true) && (He.eqO (PySem.W.ks_superIn K (He.ga K x) (He.ga K x) "__init__") (some (some (.builtin "ValueError.__init__"))) && (He.eqO (PySem.W.nsIn K cStatics "thirdparty.any") (some none) &&
  (PySem.W.excInitIn K (He.ga K x) He.veBase "ValueError.__new__" && (suF K (He.ga K x) (He.ma K (He.ga K x) "__init__") qual file && xfB K (He.ga K x))))))))))))))
/-! ### the Hook -/
def hFile : Str := PySem.Challenge.pw_sharedunseen_k76_whole_offices_that_reac.main.file
def exB (K : PySem.W.Frag) : Bool := suB K "Refused" "Refused.__init__" hFile && suB K "InvalidNumber" "InvalidNumber.__init__" hFile
abbrev AlK : Type := He.AlD × Bool × FnS × FnS
def obsK (K : PySem.W.Frag) : AlK := (He.obsD hfa hfn K, exB K, fnS K "Refused", fnS K "InvalidNumber")
def valS (i : Nat) (qual : Str) : FnS := some ("__init__", qual, defArgs (mem (top i) 0), .stmts (defBody (mem (top i) 0)), defScope (mem (top i) 0), mainGlobals, builtinsNs)
def valK : AlK := (He.valD hfn, true, valS 5 "Refused.__init__", valS 4 "InvalidNumber.__init__")
def asK (g : Addr → Option Obj) : List Addr := He.asD g 6 ++ [cStatics]
def obsKG (g : Addr → Option Obj) : AlK := obsK (He.frG g (asK g))
def hookK : PySem.W.Hook where
  α := AlK
  obs := fun s => obsKG s.heap.get?
  val := fun _ => valK
  says := fun _ h => ∃ K : PySem.W.Frag, K.In h ∧ obsK K = valK
  of := fun _ _ e => ⟨_, He.frG_in, e⟩
  keeps := fun _ _ _ ⟨K, hK, c⟩ k => ⟨K, PySem.W.Frag.In.keeps hK k, c⟩
def obH (s : PySem.W.SharedT) : AlK := obsKG (HandSHeadRun.getT s)
theorem obH_eq (s : PySem.W.SharedT) : obH s = hookK.obs s.abs := by
  have e : HandSHeadRun.getT s = s.abs.heap.get? := funext (HandSHeadRun.getT_eq s)
  show obsKG (HandSHeadRun.getT s) = obsKG s.abs.heap.get?
  rw [e]
abbrev hRow : PySem.W.OpenRow := PySem.W.OpenLaw.row PySem.Challenge.rw_sharedunseen_k76_whole_offices_that_reac
end K76

set_option Elab.async false
set_option linter.all false
set_option autoImplicit false
set_option maxRecDepth 100000
set_option maxHeartbeats 0
/-! k76, part ZH: the top's run. -/
namespace K76
open PySem PySem.Spec L2 PD
open PyProof.Rows hiding St
theorem hrun (w : World) : HandSHeadRun.RunEq hRow (PySem.W.view hRow.prog [79]) hookK obH 6000 hloose w := by
  intro os
  kernel_rfl
end K76

set_option Elab.async false
set_option linter.all false
set_option autoImplicit false
set_option maxRecDepth 100000
set_option maxHeartbeats 2000000
/-! PD, part A: values as data, the state over data, expressions and statements by weakest preconditions over data. -/
namespace PD
open PySem PySem.Spec L2
open PyProof.Rows hiding St

/-- a value by its content; raw: a value as it is (a reference to an object that is owned) -/
inductive D where
  | non | bl (b : Bool) | int (i : Int) | str (x : Str)
  | tup (ds : List D) | lst (ds : List D) | scr (ds : List D) | dic (ks : List Key) (ds : List D) | ins (C : Addr) (ks : List Str) (ds : List D)
  | raw (v : V)
  | err (a dx : Addr) (w : D)

def Ex (H H' : Hp) : Prop := ∀ a o, H a = some o → H' a = some o
theorem Ex.refl (H : Hp) : Ex H H := fun _ _ h => h
theorem Ex.trans {H H1 H2 : Hp} (a : Ex H H1) (b : Ex H1 H2) : Ex H H2 := fun x o h => b x o (a x o h)
theorem Ex.new {H : Hp} {p : Addr} {o : HO} (h : H p = none) : Ex H (upd H p o) := fun a u e => by
  rw [upd_ne (ne_of_none e h)]; exact e
theorem Ex.mut {H H' : Hp} {p : Addr} {o : HO} (e : Ex H H') (h : H p = none) : Ex H (upd H' p o) := fun a u ha => by
  rw [upd_ne (ne_of_none ha h)]; exact e a u ha
theorem Ex.rd {H H' : Hp} {a : Addr} {u : HO} (e : Ex H H') (h : Rd H a u) : Rd H' a u := by
  rcases h with h | ⟨o, h⟩
  · exact Or.inl (e a _ h)
  · exact Or.inr ⟨o, e a _ h⟩
theorem Ex.l {K : PySem.W.Frag} {H H' : Hp} {a : Addr} {xs : List V} (e : Ex H H') (h : SqL K H a xs) : SqL K H' a xs := by
  rcases h with h | h
  · exact Or.inl (e.rd h)
  · exact Or.inr h
theorem Ex.t {K : PySem.W.Frag} {H H' : Hp} {a : Addr} {xs : List V} (e : Ex H H') (h : SqT K H a xs) : SqT K H' a xs := by
  rcases h with h | h
  · exact Or.inl (e.rd h)
  · exact Or.inr h
theorem Ex.free {H H' : Hp} {p : Addr} (e : Ex H H') (h : H' p = none) : H p = none := by
  cases h1 : H p with
  | none => rfl
  | some o => rw [e p o h1] at h; cases h

mutual
/-- v is the datum d in the (frozen) heap B -/
inductive Rep (K : PySem.W.Frag) (B : Hp) : D → V → Prop
  | non : Rep K B .non .non
  | bl (b : Bool) : Rep K B (.bl b) (.bl b)
  | int (i : Int) : Rep K B (.int i) (.int i)
  | str (x : Str) : Rep K B (.str x) (.str x)
  | raw (v : V) : Rep K B (.raw v) v
  | tup {a : Addr} {xs : List V} {ds : List D} : SqT K B a xs → Reps K B ds xs → Rep K B (.tup ds) (.ref a)
  | lst {a : Addr} {xs : List V} {ds : List D} : B a = some (.lst xs) → Reps K B ds xs → Rep K B (.lst ds) (.ref a)
  | scr {a : Addr} {xs : List V} {ds : List D} : SqL K B a xs → Reps K B ds xs → Rep K B (.scr ds) (.ref a)
  | dic {a : Addr} {ys : List (Key × V)} {ks : List Key} {ds : List D} : B a = some (.dK ys) → ys.map (·.1) = ks → Reps K B ds (ys.map (·.2)) → Rep K B (.dic ks ds) (.ref a)
  | ins {a C dx : Addr} {ys : List (Str × V)} {ks : List Str} {ds : List D} : B a = some (.ins C dx ys) → ys.map (·.1) = ks → Reps K B ds (ys.map (·.2)) → Rep K B (.ins C ks ds) (.ref a)
  | err {a dx : Addr} {w : D} {v : V} : B dx = some (.xd [(("word" : Str), v)]) → Rep K B w v → Rep K B (.err a dx w) (.ref a)
inductive Reps (K : PySem.W.Frag) (B : Hp) : List D → List V → Prop
  | nil : Reps K B [] []
  | cons {d : D} {v : V} {ds : List D} {vs : List V} : Rep K B d v → Reps K B ds vs → Reps K B (d :: ds) (v :: vs)
end

section
variable {K : PySem.W.Frag} {B B' : Hp}
mutual
theorem Rep.mono (e : Ex B B') : ∀ (d : D) (v : V), Rep K B d v → Rep K B' d v
  | .non, _, h => by cases h; exact .non
  | .bl _, _, h => by cases h; exact .bl _
  | .int _, _, h => by cases h; exact .int _
  | .str _, _, h => by cases h; exact .str _
  | .raw _, _, h => by cases h; exact .raw _
  | .tup ds, _, h => by
    cases h with
    | tup h1 h2 => exact .tup (e.t h1) (Reps.mono e ds _ h2)
  | .lst ds, _, h => by
    cases h with
    | lst h1 h2 => exact .lst (e _ _ h1) (Reps.mono e ds _ h2)
  | .scr ds, _, h => by
    cases h with
    | scr h1 h2 => exact .scr (e.l h1) (Reps.mono e ds _ h2)
  | .dic ks ds, _, h => by
    cases h with
    | dic h1 h2 h3 => exact .dic (e _ _ h1) h2 (Reps.mono e ds _ h3)
  | .ins C ks ds, _, h => by
    cases h with
    | ins h1 h2 h3 => exact .ins (e _ _ h1) h2 (Reps.mono e ds _ h3)
  | .err a dx w, _, h => by
    cases h with
    | err h1 h2 => exact .err (e _ _ h1) (Rep.mono e w _ h2)
theorem Reps.mono (e : Ex B B') : ∀ (ds : List D) (vs : List V), Reps K B ds vs → Reps K B' ds vs
  | [], _, h => by cases h; exact .nil
  | d :: ds, _, h => by
    cases h with
    | cons h1 h2 => exact .cons (Rep.mono e d _ h1) (Reps.mono e ds _ h2)
end
theorem Reps.len {ds : List D} {vs : List V} (h : Reps K B ds vs) : ds.length = vs.length := by
  induction ds generalizing vs with
  | nil => cases h; rfl
  | cons d ds ih => cases h with | cons _ h2 => simp [ih h2]
theorem Reps.get {ds : List D} {vs : List V} (h : Reps K B ds vs) {i : Nat} {d : D} (e : ds[i]? = some d) : ∃ v, vs[i]? = some v ∧ Rep K B d v := by
  induction ds generalizing vs i with
  | nil => cases e
  | cons x ds ih => cases h with
    | cons h1 h2 => cases i with
      | zero => simp at e; subst e; exact ⟨_, rfl, h1⟩
      | succ i => exact ih h2 (by simpa using e)
theorem Reps.getV {ds : List D} {vs : List V} (h : Reps K B ds vs) {i : Nat} {v : V} (e : vs[i]? = some v) : ∃ d, ds[i]? = some d ∧ Rep K B d v := by
  induction ds generalizing vs i with
  | nil => cases h; cases e
  | cons x ds ih => cases h with
    | cons h1 h2 => cases i with
      | zero => simp at e; subst e; exact ⟨_, rfl, h1⟩
      | succ i => exact ih h2 (by simpa using e)
theorem Reps.append {ds es : List D} {vs ws : List V} (h : Reps K B ds vs) (g : Reps K B es ws) : Reps K B (ds ++ es) (vs ++ ws) := by
  induction ds generalizing vs with
  | nil => cases h; exact g
  | cons d ds ih => cases h with | cons h1 h2 => exact .cons h1 (ih h2)
theorem Reps.set {ds : List D} {vs : List V} {d : D} {v : V} (r : Rep K B d v) (h : Reps K B ds vs) (i : Nat) : Reps K B (ds.set i d) (vs.set i v) := by
  induction ds generalizing vs i with
  | nil => cases h; exact .nil
  | cons x ds ih => cases h with
    | cons h1 h2 => cases i with
      | zero => exact .cons r h2
      | succ i => exact .cons h1 (ih h2 i)
theorem Reps.take {ds : List D} {vs : List V} (h : Reps K B ds vs) (n : Nat) : Reps K B (ds.take n) (vs.take n) := by
  induction ds generalizing vs n with
  | nil => cases h; simp; exact .nil
  | cons x ds ih => cases h with
    | cons h1 h2 => cases n with
      | zero => exact .nil
      | succ n => exact .cons h1 (ih h2 n)
theorem Reps.drop {ds : List D} {vs : List V} (h : Reps K B ds vs) (n : Nat) : Reps K B (ds.drop n) (vs.drop n) := by
  induction ds generalizing vs n with
  | nil => cases h; simp; exact .nil
  | cons x ds ih => cases h with
    | cons h1 h2 => cases n with
      | zero => exact .cons h1 h2
      | succ n => exact ih h2 n
theorem Reps.rev {ds : List D} {vs : List V} (h : Reps K B ds vs) : Reps K B ds.reverse vs.reverse := by
  induction ds generalizing vs with
  | nil => cases h; exact .nil
  | cons x ds ih => cases h with
    | cons h1 h2 => rw [List.reverse_cons, List.reverse_cons]; exact (ih h2).append (.cons h1 .nil)
theorem Reps.ints : ∀ (ns : List Int), Reps K B (ns.map D.int) (ns.map V.int)
  | [] => .nil
  | n :: ns => .cons (.int n) (Reps.ints ns)
theorem Reps.ints_eq : ∀ {ns : List Int} {vs : List V}, Reps K B (ns.map D.int) vs → vs = ns.map V.int
  | [], _, h => by cases h; rfl
  | n :: ns, _, h => by
    cases h with
    | cons h1 h2 => cases h1; rw [Reps.ints_eq h2]; rfl
theorem Reps.bls_eq : ∀ {ns : List Bool} {vs : List V}, Reps K B (ns.map D.bl) vs → vs = ns.map V.bl
  | [], _, h => by cases h; rfl
  | n :: ns, _, h => by
    cases h with
    | cons h1 h2 => cases h1; rw [Reps.bls_eq h2]; rfl
theorem Reps.strs_eq : ∀ {ns : List Str} {vs : List V}, Reps K B (ns.map D.str) vs → vs = ns.map V.str
  | [], _, h => by cases h; rfl
  | n :: ns, _, h => by
    cases h with
    | cons h1 h2 => cases h1; rw [Reps.strs_eq h2]; rfl
end

/-- the heap behind: M may have changed -/
structure Grow (M : List Addr) (B H B' H' : Hp) : Prop where
  bb : Ex B B'
  bh : Ex B' H'
  hh : ∀ a o, a ∉ M → H a = some o → H' a = some o
  al : ∀ a, H a ≠ none → H' a ≠ none
  fr : ∀ a, H a ≠ none → B' a = B a
theorem Grow.refl {M : List Addr} {B H : Hp} (e : Ex B H) : Grow M B H B H := ⟨Ex.refl _, e, fun _ _ _ h => h, fun _ h => h, fun _ _ => rfl⟩
theorem Grow.trans {M N : List Addr} {B H B1 H1 B2 H2 : Hp} (x : Grow M B H B1 H1) (y : Grow N B1 H1 B2 H2) (hn : ∀ a ∈ N, a ∈ M ∨ H a = none) : Grow M B H B2 H2 :=
  ⟨x.bb.trans y.bb, y.bh, fun a o n h => y.hh a o (fun q => (hn a q).elim n fun z => by rw [z] at h; cases h) (x.hh a o n h), fun a h => y.al a (x.al a h), fun a h => (y.fr a (x.al a h)).trans (x.fr a h)⟩
theorem Grow.pure {M : List Addr} {B H B1 H1 B2 H2 : Hp} (x : Grow M B H B1 H1) (y : Grow [] B1 H1 B2 H2) : Grow M B H B2 H2 := x.trans y fun a h => by simp at h
/-- a new object that stays as it is -/
theorem Grow.laid {M : List Addr} {B H : Hp} {p : Addr} {o : HO} (e : Ex B H) (h : H p = none) : Grow M B H (upd B p o) (upd H p o) where
  bb := Ex.new (e.free h)
  bh := fun a u q => by
    by_cases z : a = p
    · subst z; rw [upd_same] at q ⊢; exact q
    · rw [upd_ne z] at q ⊢; exact e a u q
  hh := fun a u _ q => by rw [upd_ne (ne_of_none q h)]; exact q
  al := fun a q => by
    by_cases z : a = p
    · subst z; rw [upd_same]; simp
    · rw [upd_ne z]; exact q
  fr := fun a q => upd_ne fun z => by subst z; exact q h
/-- a new object that is owned -/
theorem Grow.made {M : List Addr} {B H : Hp} {p : Addr} {o : HO} (e : Ex B H) (h : H p = none) : Grow M B H B (upd H p o) where
  bb := Ex.refl _
  bh := e.mut (e.free h)
  hh := fun a u _ q => by rw [upd_ne (ne_of_none q h)]; exact q
  al := fun a q => by
    by_cases z : a = p
    · subst z; rw [upd_same]; simp
    · rw [upd_ne z]; exact q
  fr := fun _ _ => rfl
/-- an owned object is written -/
theorem Grow.put {M : List Addr} {B H B1 H1 : Hp} {p : Addr} {o : HO} (x : Grow M B H B1 H1) (hb : B1 p = none) (hp : H p = none ∨ p ∈ M) : Grow M B H B1 (upd H1 p o) where
  bb := x.bb
  bh := x.bh.mut hb
  hh := fun a u n q => by
    have z : a ≠ p := fun z => by
      subst z
      rcases hp with hp | hp
      · rw [hp] at q; cases q
      · exact n hp
    rw [upd_ne z]; exact x.hh a u n q
  al := fun a q => by
    by_cases z : a = p
    · subst z; rw [upd_same]; simp
    · rw [upd_ne z]; exact x.al a q
  fr := x.fr
/-- an owned object is frozen -/
theorem Grow.froze {M : List Addr} {B H B1 H1 : Hp} {p : Addr} {o : HO} (x : Grow M B H B1 H1) (hb : B1 p = none) (ho : H1 p = some o) (hp : H p = none) : Grow M B H (upd B1 p o) H1 where
  bb := x.bb.trans (Ex.new hb)
  bh := fun a u q => by
    by_cases z : a = p
    · subst z; rw [upd_same] at q; rw [ho]; exact q
    · rw [upd_ne z] at q; exact x.bh a u q
  hh := x.hh
  al := x.al
  fr := fun a q => (upd_ne fun z => by subst z; exact q hp).trans (x.fr a q)

/-- what is owned: an object that may be changed -/
inductive OC where
  | lst (ds : List D) | dic (ks : List Key) (ds : List D) | ins (C : Addr) (ks : List Str) (ds : List D)
abbrev Own := List (Addr × OC)
def OcR (K : PySem.W.Frag) (B : Hp) : OC → Option HO → Prop
  | .lst ds, h => ∃ xs, h = some (.lst xs) ∧ Reps K B ds xs
  | .dic ks ds, h => ∃ ys, h = some (.dK ys) ∧ ys.map (·.1) = ks ∧ Reps K B ds (ys.map (·.2))
  | .ins C ks ds, h => ∃ dx ys, h = some (.ins C dx ys) ∧ ys.map (·.1) = ks ∧ Reps K B ds (ys.map (·.2))
theorem OcR.mono {K : PySem.W.Frag} {B B' : Hp} (e : Ex B B') : ∀ {o : OC} {h : Option HO}, OcR K B o h → OcR K B' o h
  | .lst _, _, ⟨xs, h1, h2⟩ => ⟨xs, h1, h2.mono e _ _⟩
  | .dic _ _, _, ⟨ys, h1, h2, h3⟩ => ⟨ys, h1, h2, h3.mono e _ _⟩
  | .ins _ _ _, _, ⟨dx, ys, h1, h2, h3⟩ => ⟨dx, ys, h1, h2, h3.mono e _ _⟩
theorem OcR.some {K : PySem.W.Frag} {B : Hp} : ∀ {o : OC} {h : Option HO}, OcR K B o h → ∃ u, h = .some u
  | .lst _, _, ⟨xs, h1, h2⟩ => ⟨_, h1⟩
  | .dic _ _, _, ⟨ys, h1, h2, h3⟩ => ⟨_, h1⟩
  | .ins _ _ _, _, ⟨dx, ys, h1, h2, h3⟩ => ⟨_, h1⟩

/-- a def's entry: the frozen heap, the heap, what it may change -/
structure Zn where
  B : Hp
  H : Hp
  M : List Addr
abbrev Slots := List (Option D)
/-- the state by data: slots, what is owned -/
structure Sts (K : PySem.W.Frag) (Z : Zn) (B H : Hp) (σ : St) (ρ : Slots) (O : Own) : Prop where
  gr : Grow Z.M Z.B Z.H B H
  sl : ∀ (i : Nat) (d : D), ρ[i]? = some (some d) → ∃ v, σ[i]? = some (some v) ∧ Rep K B d v
  ow : ∀ p ∈ O, B p.1 = none ∧ OcR K B p.2 (H p.1) ∧ (Z.H p.1 = none ∨ p.1 ∈ Z.M)
  nd : (O.map (·.1)).Nodup
  ma : ∀ a ∈ Z.M, Z.H a ≠ none
section
variable {K : PySem.W.Frag} {Z : Zn} {B H B' H' : Hp} {σ : St} {ρ : Slots} {O : Own}
theorem Sts.grow (s : Sts K Z B H σ ρ O) (g : Grow [] B H B' H') : Sts K Z B' H' σ ρ O where
  gr := s.gr.pure g
  sl := fun i d e => by
    obtain ⟨v, h1, h2⟩ := s.sl i d e
    exact ⟨v, h1, h2.mono g.bb _ _⟩
  ow := fun p hp => by
    obtain ⟨h1, h2, h3⟩ := s.ow p hp
    obtain ⟨u, hu⟩ := h2.some
    refine ⟨(g.fr p.1 (by rw [hu]; simp)).trans h1, ?_, h3⟩
    rw [g.hh p.1 u (by simp) hu, ← hu]
    exact h2.mono g.bb
  nd := s.nd
  ma := s.ma
/-- a new object that is owned -/
theorem Sts.own {p : Addr} {o : HO} {c : OC} (s : Sts K Z B H σ ρ O) (hp : H p = none) (hc : OcR K B c (some o)) : Sts K Z B (upd H p o) σ ρ ((p, c) :: O) where
  gr := s.gr.pure (Grow.made s.gr.bh hp)
  sl := s.sl
  ow := fun q hq => by
    rcases List.mem_cons.mp hq with e | hq
    · subst e
      refine ⟨s.gr.bh.free hp, by rw [upd_same]; exact hc, .inl ?_⟩
      cases e : Z.H p with
      | none => rfl
      | some u => exact absurd hp (s.gr.al p (by rw [e]; simp))
    · obtain ⟨h1, h2, h3⟩ := s.ow q hq
      obtain ⟨u, hu⟩ := h2.some
      exact ⟨h1, by rw [upd_ne (ne_of_none hu hp)]; exact h2, h3⟩
  nd := by
    rw [List.map_cons, List.nodup_cons]
    refine ⟨fun hm => ?_, s.nd⟩
    obtain ⟨q, hq, e⟩ := List.mem_map.mp hm
    obtain ⟨_, h2, _⟩ := s.ow q hq
    obtain ⟨u, hu⟩ := h2.some
    rw [e] at hu
    have hu' : H p = some u := hu
    rw [hp] at hu'; cases hu'
  ma := s.ma
/-- a new address is none of those that the def may change -/
theorem Sts.notO {p : Addr} (s : Sts K Z B H σ ρ O) (hp : H p = none) : p ∉ O.map (·.1) := fun hm => by
  obtain ⟨q, hq, e⟩ := List.mem_map.mp hm
  obtain ⟨u, hu⟩ := (s.ow q hq).2.1.some
  have e : q.1 = p := e
  rw [e, hp] at hu
  cases hu
theorem Sts.notM {p : Addr} (s : Sts K Z B H σ ρ O) (hp : H p = none) : p ∉ Z.M := fun h => s.gr.al p (s.ma p h) hp
theorem mem_addrs {p : Addr} {c : OC} : ∀ {O : Own}, O.lookup p = some c → (p, c) ∈ O
  | (a, c') :: O, h => by
    rw [List.lookup_cons] at h
    cases e : p == a with
    | true => rw [e] at h; cases h; have : p = a := by simpa using e
              subst this; exact List.mem_cons_self
    | false => rw [e] at h; exact List.mem_cons_of_mem _ (mem_addrs h)
/-- what is owned at p is replaced -/
def setO (O : Own) (p : Addr) (c : OC) : Own := O.map fun q => if q.1 = p then (q.1, c) else q
theorem setO_addrs (O : Own) (p : Addr) (c : OC) : (setO O p c).map (·.1) = O.map (·.1) := by
  unfold setO
  rw [List.map_map]
  apply List.map_congr_left
  intro q _
  show (if q.1 = p then (q.1, c) else q).1 = q.1
  split <;> rfl
theorem setO_same {p : Addr} {c c' : OC} {O : Own} : setO ((p, c) :: O) p c' = (p, c') :: setO O p c' := by
  unfold setO; simp
theorem Sts.put {p : Addr} {o : HO} {c : OC} (s : Sts K Z B H σ ρ O) (hp : p ∈ O.map (·.1)) (hc : OcR K B c (some o)) : Sts K Z B (upd H p o) σ ρ (setO O p c) := by
  obtain ⟨q, hq, e⟩ := List.mem_map.mp hp
  have e' : q.1 = p := e
  obtain ⟨h1, h2, h3⟩ := s.ow q hq
  rw [e'] at h1 h3
  refine ⟨s.gr.put h1 h3, s.sl, fun r hr => ?_, by rw [setO_addrs]; exact s.nd, s.ma⟩
  obtain ⟨t, ht, et⟩ := List.mem_map.mp hr
  obtain ⟨t1, t2, t3⟩ := s.ow t ht
  by_cases z : t.1 = p
  · rw [if_pos z] at et
    subst et
    exact ⟨t1, by rw [z, upd_same]; exact hc, t3⟩
  · rw [if_neg z] at et
    subst et
    exact ⟨t1, by rw [upd_ne z]; exact t2, t3⟩
/-- forget what is owned but for a part -/
theorem Sts.drop {O' : Own} (s : Sts K Z B H σ ρ O) (h : O'.Sublist O) : Sts K Z B H σ ρ O' :=
  ⟨s.gr, s.sl, fun p hp => s.ow p (h.subset hp), s.nd.sublist (h.map _), s.ma⟩
theorem Sts.perm {O' : Own} (s : Sts K Z B H σ ρ O) (h : O'.Perm O) : Sts K Z B H σ ρ O' :=
  ⟨s.gr, s.sl, fun p hp => s.ow p (h.mem_iff.mp hp), (h.map _).nodup_iff.mpr s.nd, s.ma⟩
/-- what is owned is frozen -/
def OC.d : OC → D
  | .lst ds => .lst ds
  | .dic ks ds => .dic ks ds
  | .ins C ks ds => .ins C ks ds
theorem OcR.rep {p : Addr} {u : HO} : ∀ {c : OC}, OcR K B c (Option.some u) → Rep K (upd B p u) c.d (.ref p) ∨ B p ≠ none
  | .lst ds, ⟨xs, h1, h2⟩ => by
    cases h1
    by_cases z : B p = none
    · exact .inl (.lst upd_same (h2.mono (Ex.new z) _ _))
    · exact .inr z
  | .dic ks ds, ⟨ys, h1, h2, h3⟩ => by
    cases h1
    by_cases z : B p = none
    · exact .inl (.dic upd_same h2 (h3.mono (Ex.new z) _ _))
    · exact .inr z
  | .ins C ks ds, ⟨dx, ys, h1, h2, h3⟩ => by
    cases h1
    by_cases z : B p = none
    · exact .inl (.ins upd_same h2 (h3.mono (Ex.new z) _ _))
    · exact .inr z
theorem Sts.frz {p : Addr} {c : OC} {O' : Own} (s : Sts K Z B H σ ρ ((p, c) :: O')) (hm : p ∉ Z.M) : ∃ B', Sts K Z B' H σ ρ O' ∧ Ex B B' ∧ Rep K B' c.d (.ref p) := by
  obtain ⟨h1, h2, h3⟩ := s.ow (p, c) List.mem_cons_self
  have h1 : B p = none := h1
  have h2 : OcR K B c (H p) := h2
  obtain ⟨u, hu⟩ := h2.some
  have h3 : Z.H p = none := h3.elim id fun z => absurd z hm
  rw [hu] at h2
  refine ⟨upd B p u, ⟨s.gr.froze h1 hu h3, fun i d e => ?_, fun q hq => ?_, ?_, s.ma⟩, Ex.new h1, h2.rep.elim id fun z => absurd h1 z⟩
  · obtain ⟨v, g1, g2⟩ := s.sl i d e
    exact ⟨v, g1, g2.mono (Ex.new h1) _ _⟩
  · obtain ⟨g1, g2, g3⟩ := s.ow q (List.mem_cons_of_mem _ hq)
    have ne : q.1 ≠ p := fun z => by
      have := s.nd
      rw [List.map_cons, List.nodup_cons] at this
      exact this.1 (List.mem_map.mpr ⟨q, hq, z⟩)
    exact ⟨(upd_ne ne).trans g1, g2.mono (Ex.new h1), g3⟩
  · have := s.nd
    rw [List.map_cons, List.nodup_cons] at this
    exact this.2
theorem Sts.own_at {p : Addr} {c : OC} (s : Sts K Z B H σ ρ O) (h : O.lookup p = some c) : OcR K B c (H p) := (s.ow _ (mem_addrs h)).2.1
/-- slots -/
theorem Sts.set {i : Nat} {v : V} {d : D} (s : Sts K Z B H σ ρ O) (hi : i < σ.length) (r : Rep K B d v) : Sts K Z B H (σ.set i (some v)) (ρ.set i (some d)) O where
  gr := s.gr
  sl := fun j e h => by
    by_cases z : i = j
    · subst z
      have hl : i < ρ.length := by
        have := (List.getElem?_eq_some_iff.mp h).1
        simpa using this
      rw [List.getElem?_set_self hl] at h
      cases h
      exact ⟨v, List.getElem?_set_self hi, r⟩
    · rw [List.getElem?_set_ne z] at h
      rw [List.getElem?_set_ne z]
      exact s.sl j e h
  ow := s.ow
  nd := s.nd
  ma := s.ma
theorem Sts.unset {i : Nat} (s : Sts K Z B H σ ρ O) : Sts K Z B H (σ.set i none) (ρ.set i none) O where
  gr := s.gr
  sl := fun j e h => by
    by_cases z : i = j
    · subst z
      by_cases hl : i < ρ.length
      · rw [List.getElem?_set_self hl] at h; cases h
      · rw [List.getElem?_eq_none (by simpa using hl)] at h; cases h
    · rw [List.getElem?_set_ne z] at h
      rw [List.getElem?_set_ne z]
      exact s.sl j e h
  ow := s.ow
  nd := s.nd
  ma := s.ma
/-- less known of the slots -/
def Fewer (ρ' ρ : Slots) : Prop := ∀ (i : Nat) (d : D), ρ'[i]? = some (some d) → ρ[i]? = some (some d)
theorem Sts.fewer {ρ' : Slots} (s : Sts K Z B H σ ρ O) (h : Fewer ρ' ρ) : Sts K Z B H σ ρ' O := ⟨s.gr, fun i d e => s.sl i d (h i d e), s.ow, s.nd, s.ma⟩
def wipeD (ρ : Slots) : List Nat → Slots
  | [] => ρ
  | v :: vs => (wipeD ρ vs).set v none
theorem Sts.wipe (s : Sts K Z B H σ ρ O) : ∀ vs : List Nat, Sts K Z B H (L2.wipe σ vs) (wipeD ρ vs) O
  | [] => s
  | v :: vs => (Sts.wipe s vs).unset
end

/-! ### judgements -/
def EV (X : Cx) (e : Expr) (σ : St) (H : Hp) (Q : VK) : Prop := ∀ pins s, Inv X pins σ H s → wpAny (model X.prog X.w) X.A (eval e X.env) (EP X pins σ Q) X.xe s
def EVA (X : Cx) (es : List Expr) (σ : St) (H : Hp) (Q : List V → Hp → Prop) : Prop := ∀ pos pins s, Inv X pins σ H s → wpAny (model X.prog X.w) X.A (spliced (backTo pos (starEach es X.env))) (AP X pins σ Q) X.xe s
def EVT (X : Cx) (e : Expr) (σ : St) (H : Hp) (Q : Bool → Hp → Prop) : Prop := ∀ pins s, Inv X pins σ H s → wpAny (model X.prog X.w) X.A (isTrue e X.env (eval e X.env)) (TP X pins σ Q) X.xe s
def EVW (X : Cx) (e : Expr) (σ : St) (H : Hp) (Q : Bool → Hp → Prop) : Prop := ∀ whole pins s, Inv X pins σ H s → wpAny (model X.prog X.w) X.A (isTrue e X.env whole) (TP X pins σ Q) X.xe s
def EVS (X : Cx) (st : Stmt) (σ : St) (H : Hp) (D : Ends) : Prop := ∀ pins s, Inv X pins σ H s → wpAny (model X.prog X.w) X.A (exec st X.env) (SP X pins D) X.xe s
def EVSs (X : Cx) (st : List Stmt) (σ : St) (H : Hp) (D : Ends) : Prop := ∀ pins s, Inv X pins σ H s → wpAny (model X.prog X.w) X.A (execs st X.env) (SP X pins D) X.xe s
def EVG (X : Cx) (tg : Expr) (v : V) (σ : St) (H : Hp) (Q : St → Hp → Prop) : Prop := ∀ pins s u, Inv X pins σ H s → RelV v u → wpAny (model X.prog X.w) X.A (assign tg X.env u) (fun _ s' => ∃ σ' H', Inv X pins σ' H' s' ∧ Q σ' H') X.xe s
theorem pe_ev {X : Cx} {e : Expr} : PE X e (fun σ H Q => EV X e σ H Q) := ⟨fun pins s σ H Q I h => h pins s I⟩
theorem pa_ev {X : Cx} {es : List Expr} : PA X es (fun σ H Q => EVA X es σ H Q) := ⟨fun pos pins s σ H Q I h => h pos pins s I⟩
theorem pt_ev {X : Cx} {e : Expr} : PT X e (fun σ H Q => EVT X e σ H Q) := ⟨fun pins s σ H Q I h => h pins s I⟩
theorem pw_ev {X : Cx} {e : Expr} : PW X e (fun σ H Q => EVW X e σ H Q) := ⟨fun wh pins s σ H Q I h => h wh pins s I⟩
theorem ps_ev {X : Cx} {st : Stmt} : PS X st (fun D σ H => EVS X st σ H D) := ⟨fun pins s σ H D I h => h pins s I⟩
theorem pss_ev {X : Cx} {st : List Stmt} : PSs X st (fun D σ H => EVSs X st σ H D) := ⟨fun pins s σ H D I h => h pins s I⟩
theorem pg_ev {X : Cx} {tg : Expr} : PG X tg (fun v σ H Q => EVG X tg v σ H Q) := ⟨fun pins s σ H v u Q I r h => h pins s u I r⟩
theorem EV.of {X : Cx} {e : Expr} {t : TE} {σ : St} {H : Hp} {Q : VK} (h : PE X e t) (q : t σ H Q) : EV X e σ H Q := fun pins s I => h.run pins s σ H Q I q
theorem EVT.of {X : Cx} {e : Expr} {t : TT} {σ : St} {H : Hp} {Q : Bool → Hp → Prop} (h : PT X e t) (q : t σ H Q) : EVT X e σ H Q := fun pins s I => h.run pins s σ H Q I q
theorem EVW.of {X : Cx} {e : Expr} {t : TT} {σ : St} {H : Hp} {Q : Bool → Hp → Prop} (h : PW X e t) (q : t σ H Q) : EVW X e σ H Q := fun wh pins s I => h.run wh pins s σ H Q I q
theorem EVA.of {X : Cx} {es : List Expr} {t : TA} {σ : St} {H : Hp} {Q : List V → Hp → Prop} (h : PA X es t) (q : t σ H Q) : EVA X es σ H Q := fun pos pins s I => h.run pos pins s σ H Q I q
theorem EVS.of {X : Cx} {st : Stmt} {t : TS} {σ : St} {H : Hp} {D : Ends} (h : PS X st t) (q : t D σ H) : EVS X st σ H D := fun pins s I => h.run pins s σ H D I q
theorem EVSs.of {X : Cx} {st : List Stmt} {t : TS} {σ : St} {H : Hp} {D : Ends} (h : PSs X st t) (q : t D σ H) : EVSs X st σ H D := fun pins s I => h.run pins s σ H D I q
theorem EVG.of {X : Cx} {tg : Expr} {t : TG} {v : V} {σ : St} {H : Hp} {Q : St → Hp → Prop} (h : PG X tg t) (q : t v σ H Q) : EVG X tg v σ H Q := fun pins s u I r => h.run pins s σ H v u Q I r q
theorem EV.mono {X : Cx} {e : Expr} {σ : St} {H : Hp} {Q Q' : VK} (h : EV X e σ H Q) (q : ∀ v H', Q v H' → Q' v H') : EV X e σ H Q' := fun pins s I =>
  thn (h pins s I) fun u s' ⟨v, H', I', r, z⟩ => ⟨v, H', I', r, q v H' z⟩
theorem EVA.mono {X : Cx} {e : List Expr} {σ : St} {H : Hp} {Q Q' : List V → Hp → Prop} (h : EVA X e σ H Q) (q : ∀ v H', Q v H' → Q' v H') : EVA X e σ H Q' := fun pos pins s I =>
  thn (h pos pins s I) fun u s' ⟨v, H', I', r, z⟩ => ⟨v, H', I', r, q v H' z⟩
theorem EVT.mono {X : Cx} {e : Expr} {σ : St} {H : Hp} {Q Q' : Bool → Hp → Prop} (h : EVT X e σ H Q) (q : ∀ v H', Q v H' → Q' v H') : EVT X e σ H Q' := fun pins s I =>
  thn (h pins s I) fun u s' ⟨H', I', z⟩ => ⟨H', I', q _ H' z⟩

/-- what is wanted behind an expression -/
def RQ (K : PySem.W.Frag) (Z : Zn) (σ : St) (ρ : Slots) (B : Hp) (R : D → Own → Prop) : VK := fun v H' => ∃ d B' O', Sts K Z B' H' σ ρ O' ∧ Rep K B' d v ∧ Ex B B' ∧ R d O'
def RQA (K : PySem.W.Frag) (Z : Zn) (σ : St) (ρ : Slots) (B : Hp) (R : List D → Own → Prop) : List V → Hp → Prop := fun vs H' => ∃ ds B' O', Sts K Z B' H' σ ρ O' ∧ Reps K B' ds vs ∧ Ex B B' ∧ R ds O'
def RQT (K : PySem.W.Frag) (Z : Zn) (σ : St) (ρ : Slots) (B : Hp) (R : Bool → Own → Prop) : Bool → Hp → Prop := fun b H' => ∃ B' O', Sts K Z B' H' σ ρ O' ∧ Ex B B' ∧ R b O'
def EX (X : Cx) (Z : Zn) (e : Expr) (ρ : Slots) (O : Own) (R : D → Own → Prop) : Prop := ∀ σ B H, Sts X.K Z B H σ ρ O → EV X e σ H (RQ X.K Z σ ρ B R)
def EA (X : Cx) (Z : Zn) (e : List Expr) (ρ : Slots) (O : Own) (R : List D → Own → Prop) : Prop := ∀ σ B H, Sts X.K Z B H σ ρ O → EVA X e σ H (RQA X.K Z σ ρ B R)
def ET (X : Cx) (Z : Zn) (e : Expr) (ρ : Slots) (O : Own) (R : Bool → Own → Prop) : Prop := ∀ σ B H, Sts X.K Z B H σ ρ O → EVT X e σ H (RQT X.K Z σ ρ B R)
def EW (X : Cx) (Z : Zn) (e : Expr) (ρ : Slots) (O : Own) (R : Bool → Own → Prop) : Prop := ∀ σ B H, Sts X.K Z B H σ ρ O → EVW X e σ H (RQT X.K Z σ ρ B R)
structure En where
  nx : Slots → Own → Prop
  rt : D → Own → Prop
  bk : Slots → Own → Prop := fun _ _ => False
  ct : Slots → Own → Prop := fun _ _ => False
def SQ (K : PySem.W.Frag) (Z : Zn) (B : Hp) (R : Slots → Own → Prop) : St → Hp → Prop := fun σ' H' => ∃ B' ρ' O', Sts K Z B' H' σ' ρ' O' ∧ Ex B B' ∧ R ρ' O'
def SE (K : PySem.W.Frag) (Z : Zn) (B : Hp) (E : En) : Ends where
  nx := SQ K Z B E.nx
  rt := fun v H' => ∃ d σ' B' ρ' O', Sts K Z B' H' σ' ρ' O' ∧ Rep K B' d v ∧ Ex B B' ∧ E.rt d O'
  bk := SQ K Z B E.bk
  ct := SQ K Z B E.ct
def S1 (X : Cx) (Z : Zn) (st : Stmt) (ρ : Slots) (O : Own) (E : En) : Prop := ∀ σ B H, Sts X.K Z B H σ ρ O → EVS X st σ H (SE X.K Z B E)
def SX (X : Cx) (Z : Zn) (st : List Stmt) (ρ : Slots) (O : Own) (E : En) : Prop := ∀ σ B H, Sts X.K Z B H σ ρ O → EVSs X st σ H (SE X.K Z B E)
/-- a target takes a value -/
def GX (X : Cx) (Z : Zn) (tg : Expr) (d : D) (ρ : Slots) (O : Own) (R : Slots → Own → Prop) : Prop := ∀ σ B H v, Sts X.K Z B H σ ρ O → Rep X.K B d v → EVG X tg v σ H (SQ X.K Z B R)
end PD

set_option Elab.async false
set_option linter.all false
set_option autoImplicit false
set_option maxRecDepth 100000
set_option maxHeartbeats 2000000
/-! PD, part B: expressions. -/
namespace PD
open PySem PySem.Spec L2
open PyProof.Rows hiding St

/-- a flat value's datum -/
def toD : V → D
  | .non => .non
  | .bl b => .bl b
  | .int i => .int i
  | .str x => .str x
  | v => .raw v
theorem rep_toD {K : PySem.W.Frag} {B : Hp} : ∀ v : V, Rep K B (toD v) v
  | .non => .non
  | .bl b => .bl b
  | .int i => .int i
  | .str x => .str x
  | .byt b => .raw _
  | .flt b => .raw _
  | .ref a => .raw _
  | .ty n => .raw _

section
variable {X : Cx} {Z : Zn} {ρ : Slots} {O : Own}
theorem EX.mono {e : Expr} {R R' : D → Own → Prop} (h : EX X Z e ρ O R) (q : ∀ d O', R d O' → R' d O') : EX X Z e ρ O R' := fun σ B H s =>
  (h σ B H s).mono fun v H' ⟨d, B', O', s', r, b, z⟩ => ⟨d, B', O', s', r, b, q _ _ z⟩
theorem ET.mono {e : Expr} {R R' : Bool → Own → Prop} (h : ET X Z e ρ O R) (q : ∀ d O', R d O' → R' d O') : ET X Z e ρ O R' := fun σ B H s =>
  (h σ B H s).mono fun v H' ⟨B', O', s', b, z⟩ => ⟨B', O', s', b, q _ _ z⟩

/-! names, constants -/
theorem ex_var {i : Nat} {x : Str} {pos : Pos} {d : D} {R : D → Own → Prop} (hρ : ρ[i]? = some (some d)) (h : R d O) (hN : X.N[i]? = some x := by rfl)
    (hv : Vis X.env.scope x := by first | exact Or.inl rfl | exact Or.inr (Or.inl rfl) | exact Or.inr (Or.inr rfl)) (hd : (x == ("__debug__" : Str)) = false := by decide)
    (hcd : (x == ("__classdict__" : Str)) = false := by decide) : EX X Z (.Name x pos) ρ O R := fun σ B H s => by
  obtain ⟨v, hs, r⟩ := s.sl i d hρ
  exact EV.of (pe_var hN hv hd hcd) ⟨v, hs, d, B, O, s, r, Ex.refl _, h⟩
theorem ex_c {e : Expr} {v : V} {R : D → Own → Prop} (p : PE X e (tC v)) (h : R (toD v) O) : EX X Z e ρ O R := fun σ B H s =>
  EV.of p ⟨_, B, O, s, rep_toD v, Ex.refl _, h⟩
theorem ex_int {i : Int} {j pos} {R : D → Own → Prop} (h : R (.int i) O) : EX X Z (.Constant (.int i) j pos) ρ O R := ex_c (v := .int i) pe_int h
theorem ex_bl {b : Bool} {j pos} {R : D → Own → Prop} (h : R (.bl b) O) : EX X Z (.Constant (.bool b) j pos) ρ O R := ex_c (v := .bl b) pe_bl h
theorem ex_non {j pos} {R : D → Own → Prop} (h : R .non O) : EX X Z (.Constant .none j pos) ρ O R := ex_c (v := .non) pe_non h
theorem ex_str {x : Str} {j pos} {R : D → Own → Prop} (h : R (.str x) O) : EX X Z (.Constant (.str x) j pos) ρ O R := ex_c (v := .str x) pe_str h
/-- a module's name -/
theorem ex_glob {x : Str} {v : V} {u : Value} {pos : Pos} {R : D → Own → Prop} (hm : X.mg x = some u) (r : RelV v u) (h : R (toD v) O) (hg : Gl X x := by rfl) (hd : (x == ("__debug__" : Str)) = false := by decide) : EX X Z (.Name x pos) ρ O R :=
  ex_c (pe_glob hg hm r hd) h
/-- a built-in's name -/
theorem ex_bltn {x : Str} {v : V} {u : Value} {pos : Pos} {R : D → Own → Prop} (hm : X.mg x = none) (hv : bootBuiltins x = some u) (r : RelV v u) (h : R (toD v) O) (hg : Gl X x := by rfl) (hn : x ≠ "__name__" := by decide) (hd : (x == ("__debug__" : Str)) = false := by decide) : EX X Z (.Name x pos) ρ O R :=
  ex_c (pe_bltn hg hm hv r hn hd) h

/-! two operands -/
/-- an operation by values, asked over data -/
def BD (X : Cx) (Z : Zn) (r : R2) (d1 d2 : D) (ρ : Slots) (O : Own) (R : D → Own → Prop) : Prop :=
  ∀ σ B0 B H v1 v2, Sts X.K Z B H σ ρ O → Ex B0 B → Rep X.K B d1 v1 → Rep X.K B d2 v2 → r v1 v2 H (RQ X.K Z σ ρ B0 R)
theorem RQ.back {K : PySem.W.Frag} {σ : L2.St} {B B' : Hp} {R : D → Own → Prop} (e : Ex B B') {v : V} {H : Hp} (h : RQ K Z σ ρ B' R v H) : RQ K Z σ ρ B R v H := by
  obtain ⟨d, B', O', s', r, b, z⟩ := h
  exact ⟨d, B', O', s', r, e.trans b, z⟩
theorem RQA.back {K : PySem.W.Frag} {σ : L2.St} {B B' : Hp} {R : List D → Own → Prop} (e : Ex B B') {v : List V} {H : Hp} (h : RQA K Z σ ρ B' R v H) : RQA K Z σ ρ B R v H := by
  obtain ⟨d, B', O', s', r, b, z⟩ := h
  exact ⟨d, B', O', s', r, e.trans b, z⟩
theorem RQT.back {K : PySem.W.Frag} {σ : L2.St} {B B' : Hp} {R : Bool → Own → Prop} (e : Ex B B') {v : Bool} {H : Hp} (h : RQT K Z σ ρ B' R v H) : RQT K Z σ ρ B R v H := by
  obtain ⟨B', O', s', b, z⟩ := h
  exact ⟨B', O', s', e.trans b, z⟩
/-- two expressions in a row -/
theorem ex_two {a b : Expr} {r : R2} {t : TE → TE → TE} {e : Expr} {R : D → Own → Prop} (p : PE X e (tOp r (fun σ H Q => EV X a σ H Q) (fun σ H Q => EV X b σ H Q)))
    (h : EX X Z a ρ O fun d1 O1 => EX X Z b ρ O1 fun d2 O2 => BD X Z r d1 d2 ρ O2 R) : EX X Z e ρ O R := fun σ B H s => by
  refine EV.of p ?_
  refine (h σ B H s).mono fun v1 H1 ⟨d1, B1, O1, s1, r1, e1, q1⟩ => ?_
  refine (q1 σ B1 H1 s1).mono fun v2 H2 ⟨d2, B2, O2, s2, r2, e2, q2⟩ => ?_
  exact q2 σ B B2 H2 v1 v2 s2 (e1.trans e2) (r1.mono e2 _ _) r2
theorem ex_bin {op : Operator} {r : R2} {a b : Expr} {pos : Pos} {R : D → Own → Prop} (ho : OpR X (binaryOp op) r)
    (h : EX X Z a ρ O fun d1 O1 => EX X Z b ρ O1 fun d2 O2 => BD X Z r d1 d2 ρ O2 R) : EX X Z (.BinOp a op b pos) ρ O R := ex_two (t := fun a b => a) (pe_op ho pe_ev pe_ev) h
theorem ex_cmp {op : CmpOp} {r : R2} {a b : Expr} {pos : Pos} {R : D → Own → Prop} (ho : OpR X (compareOp op) r)
    (h : EX X Z a ρ O fun d1 O1 => EX X Z b ρ O1 fun d2 O2 => BD X Z r d1 d2 ρ O2 R) (hm : behindInMarks op b = false := by first | exact nomark _ | rfl) : EX X Z (.Compare a [op] [b] pos) ρ O R := ex_two (t := fun a b => a) (pe_cmpR ho pe_ev pe_ev hm) h
theorem ex_ix {r : R2} {a b : Expr} {pos : Pos} {R : D → Own → Prop} (ho : IxR X r)
    (h : EX X Z a ρ O fun d1 O1 => EX X Z b ρ O1 fun d2 O2 => BD X Z r d1 d2 ρ O2 R) (hs : PlainIx b := by exact fun _ _ => rfl) : EX X Z (.Subscript a b pos) ρ O R := ex_two (t := fun a b => a) (pe_ix ho pe_ev pe_ev hs) h
/-- a comparison as a test -/
theorem et_cmp {op : CmpOp} {r : R2} {a b : Expr} {pos : Pos} {R : Bool → Own → Prop} (ho : OpR X (compareOp op) r)
    (h : EX X Z a ρ O fun d1 O1 => EX X Z b ρ O1 fun d2 O2 => ∀ σ B0 B H v1 v2, Sts X.K Z B H σ ρ O2 → Ex B0 B → Rep X.K B d1 v1 → Rep X.K B d2 v2 → r v1 v2 H fun x H' => ∃ k, x = .bl k ∧ RQT X.K Z σ ρ B0 R k H')
    (hm : behindInMarks op b = false := by first | exact nomark _ | rfl) : ET X Z (.Compare a [op] [b] pos) ρ O R := fun σ B H s => by
  refine EVT.of (pt_cmpR ho pe_ev pe_ev hm) ?_
  refine (h σ B H s).mono fun v1 H1 ⟨d1, B1, O1, s1, r1, e1, q1⟩ => ?_
  refine (q1 σ B1 H1 s1).mono fun v2 H2 ⟨d2, B2, O2, s2, r2, e2, q2⟩ => ?_
  exact q2 σ B B2 H2 v1 v2 s2 (e1.trans e2) (r1.mono e2 _ _) r2
/-- what a test by values asks -/
def BT (X : Cx) (Z : Zn) (r : R2) (d1 d2 : D) (ρ : Slots) (O : Own) (R : Bool → Own → Prop) : Prop :=
  ∀ σ B0 B H v1 v2, Sts X.K Z B H σ ρ O → Ex B0 B → Rep X.K B d1 v1 → Rep X.K B d2 v2 → r v1 v2 H fun x H' => ∃ k, x = .bl k ∧ RQT X.K Z σ ρ B0 R k H'

theorem bd_I0 {g : Int → Int → V} {i j : Int} {R : D → Own → Prop} (h : R (toD (g i j)) O) : BD X Z (rI0 g) (.int i) (.int j) ρ O R := fun σ B0 B H v1 v2 s e r1 r2 => by
  cases r1; cases r2
  exact ⟨i, j, rfl, rfl, _, B, O, s, rep_toD _, e, h⟩
theorem bt_I0 {p : Int → Int → Bool} {i j : Int} {R : Bool → Own → Prop} (h : R (p i j) O) : BT X Z (rI0 fun i j => .bl (p i j)) (.int i) (.int j) ρ O R := fun σ B0 B H v1 v2 s e r1 r2 => by
  cases r1; cases r2
  exact ⟨i, j, rfl, rfl, _, rfl, B, O, s, e, h⟩
theorem bd_I {C : Int → Int → Prop} {g : Int → Int → V} {i j : Int} {R : D → Own → Prop} (hc : C i j) (h : R (toD (g i j)) O) : BD X Z (rI C g) (.int i) (.int j) ρ O R := fun σ B0 B H v1 v2 s e r1 r2 => by
  cases r1; cases r2
  exact ⟨i, j, rfl, rfl, hc, _, B, O, s, rep_toD _, e, h⟩

/-! equality: of flat data; of data at any depth -/
mutual
def D.flat : D → Bool
  | .non => true | .bl _ => true | .int _ => true | .str _ => true
  | _ => false
end
mutual
/-- the library's datum -/
def D.py : D → Option PyData
  | .non => some .none
  | .bl b => some (.bool b)
  | .int i => some (.int i)
  | .str x => some (.str x)
  | .tup ds => (D.pys ds).map .tuple
  | .lst ds => (D.pys ds).map .list
  | _ => none
def D.pys : List D → Option (List PyData)
  | [] => some []
  | d :: ds => (D.py d).bind fun x => (D.pys ds).map fun xs => x :: xs
end
mutual
theorem Rep.dp {K : PySem.W.Frag} {B : Hp} : ∀ (d : D) (v : V) (p : PyData), Rep K B d v → d.py = some p → Dp K B v p
  | .non, _, _, h, e => by cases h; cases e; exact .non
  | .bl _, _, _, h, e => by cases h; cases e; exact .bl _
  | .int _, _, _, h, e => by cases h; cases e; exact .int _
  | .str _, _, _, h, e => by cases h; cases e; exact .str _
  | .raw _, _, _, h, e => by simp [D.py] at e
  | .tup ds, _, _, h, e => by
    cases h with
    | tup h1 h2 =>
      simp only [D.py, Option.map_eq_some_iff] at e
      obtain ⟨xs, e1, e2⟩ := e
      subst e2
      exact .tup h1 (Reps.dps ds _ xs h2 e1)
  | .lst ds, _, _, h, e => by
    cases h with
    | lst h1 h2 =>
      simp only [D.py, Option.map_eq_some_iff] at e
      obtain ⟨xs, e1, e2⟩ := e
      subst e2
      exact .lst (SqL.of h1) (Reps.dps ds _ xs h2 e1)
  | .scr _, _, _, h, e => by simp [D.py] at e
  | .dic _ _, _, _, h, e => by simp [D.py] at e
  | .ins _ _ _, _, _, h, e => by simp [D.py] at e
theorem Reps.dps {K : PySem.W.Frag} {B : Hp} : ∀ (ds : List D) (vs : List V) (ps : List PyData), Reps K B ds vs → D.pys ds = some ps → DpAll K B vs ps
  | [], _, _, h, e => by cases h; cases e; exact .nil
  | d :: ds, _, _, h, e => by
    cases h with
    | cons h1 h2 =>
      simp only [D.pys, Option.bind_eq_some_iff, Option.map_eq_some_iff] at e
      obtain ⟨x, e1, xs, e2, e3⟩ := e
      subst e3
      exact .cons (Rep.dp d _ x h1 e1) (Reps.dps ds _ xs h2 e2)
end
mutual
theorem dp_mono {K : PySem.W.Frag} {B B' : Hp} (e : Ex B B') : ∀ (p : PyData) (v : V), Dp K B v p → Dp K B' v p
  | .none, _, h => by cases h; exact .non
  | .bool _, _, h => by cases h; exact .bl _
  | .int _, _, h => by cases h; exact .int _
  | .str _, _, h => by cases h; exact .str _
  | .list ds, _, h => by cases h with | lst h1 h2 => exact .lst (e.l h1) (dps_mono e ds _ h2)
  | .tuple ds, _, h => by cases h with | tup h1 h2 => exact .tup (e.t h1) (dps_mono e ds _ h2)
  | .dict _, _, h => by cases h
theorem dps_mono {K : PySem.W.Frag} {B B' : Hp} (e : Ex B B') : ∀ (ps : List PyData) (vs : List V), DpAll K B vs ps → DpAll K B' vs ps
  | [], _, h => by cases h; exact .nil
  | p :: ps, _, h => by cases h with | cons h1 h2 => exact .cons (dp_mono e p _ h1) (dps_mono e ps _ h2)
end
theorem bd_eqD {d1 d2 : D} {p1 p2 : PyData} {R : D → Own → Prop} (e1 : d1.py = some p1) (e2 : d2.py = some p2) (s1 : SeqAt.shaped p1 = true) (s2 : SeqAt.shaped p2 = true) (h : R (.bl (PyData.eqv p1 p2)) O) : BD X Z (rEqD X.K) d1 d2 ρ O R :=
  fun σ B0 B H v1 v2 s e r1 r2 => ⟨p1, p2, dp_mono s.gr.bh _ _ (r1.dp _ _ _ e1), dp_mono s.gr.bh _ _ (r2.dp _ _ _ e2), s1, s2, _, B, O, s, .bl _, e, h⟩
theorem bt_eqD {d1 d2 : D} {p1 p2 : PyData} {R : Bool → Own → Prop} (e1 : d1.py = some p1) (e2 : d2.py = some p2) (s1 : SeqAt.shaped p1 = true) (s2 : SeqAt.shaped p2 = true) (h : R (PyData.eqv p1 p2) O) : BT X Z (rEqD X.K) d1 d2 ρ O R :=
  fun σ B0 B H v1 v2 s e r1 r2 => ⟨p1, p2, dp_mono s.gr.bh _ _ (r1.dp _ _ _ e1), dp_mono s.gr.bh _ _ (r2.dp _ _ _ e2), s1, s2, _, rfl, B, O, s, e, h⟩
theorem bd_neD {d1 d2 : D} {p1 p2 : PyData} {R : D → Own → Prop} (e1 : d1.py = some p1) (e2 : d2.py = some p2) (s1 : SeqAt.shaped p1 = true) (s2 : SeqAt.shaped p2 = true) (h : R (.bl (!PyData.eqv p1 p2)) O) : BD X Z (rNeD X.K) d1 d2 ρ O R :=
  fun σ B0 B H v1 v2 s e r1 r2 => ⟨p1, p2, dp_mono s.gr.bh _ _ (r1.dp _ _ _ e1), dp_mono s.gr.bh _ _ (r2.dp _ _ _ e2), s1, s2, _, B, O, s, .bl _, e, h⟩
theorem bt_neD {d1 d2 : D} {p1 p2 : PyData} {R : Bool → Own → Prop} (e1 : d1.py = some p1) (e2 : d2.py = some p2) (s1 : SeqAt.shaped p1 = true) (s2 : SeqAt.shaped p2 = true) (h : R (!PyData.eqv p1 p2) O) : BT X Z (rNeD X.K) d1 d2 ρ O R :=
  fun σ B0 B H v1 v2 s e r1 r2 => ⟨p1, p2, dp_mono s.gr.bh _ _ (r1.dp _ _ _ e1), dp_mono s.gr.bh _ _ (r2.dp _ _ _ e2), s1, s2, _, rfl, B, O, s, e, h⟩
/-- two ints, two texts -/
theorem bt_eqI {i j : Int} {R : Bool → Own → Prop} (h : R (decide (i = j)) O) : BT X Z rEq (.int i) (.int j) ρ O R := fun σ B0 B H v1 v2 s e r1 r2 => by
  cases r1; cases r2
  refine ⟨rfl, _, rfl, B, O, s, e, ?_⟩
  rw [show decide (V.int i = V.int j) = decide (i = j) by rw [dec_int, Bool.beq_eq_decide_eq]]
  exact h
theorem bt_neI {i j : Int} {R : Bool → Own → Prop} (h : R (!decide (i = j)) O) : BT X Z rNe (.int i) (.int j) ρ O R := fun σ B0 B H v1 v2 s e r1 r2 => by
  cases r1; cases r2
  refine ⟨rfl, _, rfl, B, O, s, e, ?_⟩
  rw [show decide (V.int i = V.int j) = decide (i = j) by rw [dec_int, Bool.beq_eq_decide_eq]]
  exact h
theorem bd_eqI {i j : Int} {R : D → Own → Prop} (h : R (.bl (decide (i = j))) O) : BD X Z rEq (.int i) (.int j) ρ O R := fun σ B0 B H v1 v2 s e r1 r2 => by
  cases r1; cases r2
  refine ⟨rfl, _, B, O, s, .bl _, e, ?_⟩
  rw [show decide (V.int i = V.int j) = decide (i = j) by rw [dec_int, Bool.beq_eq_decide_eq]]
  exact h
theorem bd_neI {i j : Int} {R : D → Own → Prop} (h : R (.bl (!decide (i = j))) O) : BD X Z rNe (.int i) (.int j) ρ O R := fun σ B0 B H v1 v2 s e r1 r2 => by
  cases r1; cases r2
  refine ⟨rfl, _, B, O, s, .bl _, e, ?_⟩
  rw [show decide (V.int i = V.int j) = decide (i = j) by rw [dec_int, Bool.beq_eq_decide_eq]]
  exact h
theorem bt_eqS {i j : Str} {R : Bool → Own → Prop} (h : R (decide (i = j)) O) : BT X Z rEq (.str i) (.str j) ρ O R := fun σ B0 B H v1 v2 s e r1 r2 => by
  cases r1; cases r2
  refine ⟨rfl, _, rfl, B, O, s, e, ?_⟩
  rw [show decide (V.str i = V.str j) = decide (i = j) by rw [dec_str, Bool.beq_eq_decide_eq]]
  exact h
theorem bt_neS {i j : Str} {R : Bool → Own → Prop} (h : R (!decide (i = j)) O) : BT X Z rNe (.str i) (.str j) ρ O R := fun σ B0 B H v1 v2 s e r1 r2 => by
  cases r1; cases r2
  refine ⟨rfl, _, rfl, B, O, s, e, ?_⟩
  rw [show decide (V.str i = V.str j) = decide (i = j) by rw [dec_str, Bool.beq_eq_decide_eq]]
  exact h
def D.isNon : D → Option Bool
  | .non => some true
  | .raw v => some (decide (v = .non))
  | _ => some false
theorem rep_isNon {K : PySem.W.Frag} {B : Hp} {d : D} {v : V} (r : Rep K B d v) : d.isNon = some (decide (v = .non)) := by
  cases r <;> simp [D.isNon]
theorem ex_isN {a : Expr} {j pos pos'} {R : D → Own → Prop} (h : EX X Z a ρ O fun d O1 => ∀ k, d.isNon = some k → R (.bl k) O1) : EX X Z (.Compare a [.Is] [.Constant .none j pos'] pos) ρ O R := fun σ B H s => by
  refine EV.of (pe_cmp (pc_isN pe_ev)) ?_
  refine (h σ B H s).mono fun v1 H1 ⟨d1, B1, O1, s1, r1, e1, q1⟩ => ?_
  exact ⟨_, B1, O1, s1, .bl _, e1, q1 _ (rep_isNon r1)⟩
theorem ex_notN {a : Expr} {j pos pos'} {R : D → Own → Prop} (h : EX X Z a ρ O fun d O1 => ∀ k, d.isNon = some k → R (.bl (!k)) O1) : EX X Z (.Compare a [.IsNot] [.Constant .none j pos'] pos) ρ O R := fun σ B H s => by
  refine EV.of (pe_cmp (pc_notN pe_ev)) ?_
  refine (h σ B H s).mono fun v1 H1 ⟨d1, B1, O1, s1, r1, e1, q1⟩ => ?_
  exact ⟨_, B1, O1, s1, .bl _, e1, q1 _ (rep_isNon r1)⟩
theorem et_isN {a : Expr} {j pos pos'} {R : Bool → Own → Prop} (h : EX X Z a ρ O fun d O1 => ∀ k, d.isNon = some k → R k O1) : ET X Z (.Compare a [.Is] [.Constant .none j pos'] pos) ρ O R := fun σ B H s => by
  refine EVT.of (pt_cmp (pc_isN pe_ev)) ?_
  refine (h σ B H s).mono fun v1 H1 ⟨d1, B1, O1, s1, r1, e1, q1⟩ => ?_
  exact ⟨_, rfl, B1, O1, s1, e1, q1 _ (rep_isNon r1)⟩
theorem et_notN {a : Expr} {j pos pos'} {R : Bool → Own → Prop} (h : EX X Z a ρ O fun d O1 => ∀ k, d.isNon = some k → R (!k) O1) : ET X Z (.Compare a [.IsNot] [.Constant .none j pos'] pos) ρ O R := fun σ B H s => by
  refine EVT.of (pt_cmp (pc_notN pe_ev)) ?_
  refine (h σ B H s).mono fun v1 H1 ⟨d1, B1, O1, s1, r1, e1, q1⟩ => ?_
  exact ⟨_, rfl, B1, O1, s1, e1, q1 _ (rep_isNon r1)⟩
/-- a op1 b op2 c, of ints -/
theorem et_chainI {op op' : CmpOp} {p p' : Int → Int → Bool} {a b c : Expr} {pos : Pos} {R : Bool → Own → Prop} (ho : OpR X (compareOp op) (rI0 fun i j => .bl (p i j))) (ho' : OpR X (compareOp op') (rI0 fun i j => .bl (p' i j)))
    (h : EX X Z a ρ O fun d1 O1 => EX X Z b ρ O1 fun d2 O2 => ∃ i j, d1 = .int i ∧ d2 = .int j ∧ (p i j = false → R false O2) ∧ (p i j = true → EX X Z c ρ O2 fun d3 O3 => ∃ k, d3 = .int k ∧ R (p' j k) O3))
    (hm : lastMarks [op, op'] [b, c] = false := by with_unfolding_all rfl) : ET X Z (.Compare a [op, op'] [b, c] pos) ρ O R := fun σ B H s => by
  refine EVT.of (pt_chain ho ho' pe_ev pe_ev pe_ev hm) ?_
  refine (h σ B H s).mono fun v1 H1 ⟨d1, B1, O1, s1, r1, e1, q1⟩ => ?_
  refine (q1 σ B1 H1 s1).mono fun v2 H2 ⟨d2, B2, O2, s2, r2, e2, i, j, x1, x2, q2, q3⟩ => ?_
  subst x1 x2
  cases r1; cases r2
  refine ⟨i, j, rfl, rfl, _, rfl, ?_⟩
  cases z : p i j with
  | false =>
    rw [if_neg Bool.false_ne_true]
    exact ⟨_, rfl, B2, O2, s2, e1.trans e2, q2 z⟩
  | true =>
    rw [if_pos rfl]
    refine (q3 z σ B2 H2 s2).mono fun v3 H3 ⟨d3, B3, O3, s3, r3, e3, k, x3, q4⟩ => ?_
    subst x3
    cases r3
    exact ⟨j, k, rfl, rfl, _, rfl, B3, O3, s3, (e1.trans e2).trans e3, q4⟩

/-! truth of bools; and, or, not -/
theorem et_val {e : Expr} {R : Bool → Own → Prop} (h : EX X Z e ρ O fun d O1 => ∃ b, d = .bl b ∧ R b O1) (he : ∀ whole, isTrue e X.env whole = (do let v ← whole; standAt e.pos; holding [v] (truthy v)) := by intro _; rfl) : ET X Z e ρ O R := fun σ B H s => by
  refine EVT.of (pt_val pe_ev he) ?_
  refine (h σ B H s).mono fun v1 H1 ⟨d1, B1, O1, s1, r1, e1, b, x, q1⟩ => ?_
  subst x
  cases r1
  exact ⟨b, rfl, B1, O1, s1, e1, q1⟩
theorem et_not {a : Expr} {pos : Pos} {R : Bool → Own → Prop} (h : ET X Z a ρ O fun b O1 => R (!b) O1) : ET X Z (.UnaryOp .Not a pos) ρ O R := fun σ B H s => by
  refine EVT.of (pt_not pt_ev) ?_
  exact (h σ B H s).mono fun b H1 ⟨B1, O1, s1, e1, q1⟩ => ⟨B1, O1, s1, e1, q1⟩
theorem et_w {e : Expr} {R : Bool → Own → Prop} (h : EW X Z e ρ O R) : ET X Z e ρ O R := fun σ B H s pins s0 I => h σ B H s _ pins s0 I
theorem ew_and1 {a : Expr} {pos : Pos} {R : Bool → Own → Prop} (h : ET X Z a ρ O R) : EW X Z (.BoolOp .And [a] pos) ρ O R := fun σ B H s => EVW.of (pw_and1 pt_ev) (h σ B H s)
theorem ew_or1 {a : Expr} {pos : Pos} {R : Bool → Own → Prop} (h : ET X Z a ρ O R) : EW X Z (.BoolOp .Or [a] pos) ρ O R := fun σ B H s => EVW.of (pw_or1 pt_ev) (h σ B H s)
theorem EVW.mono {e : Expr} {σ : L2.St} {H : Hp} {Q Q' : Bool → Hp → Prop} (h : EVW X e σ H Q) (q : ∀ v H', Q v H' → Q' v H') : EVW X e σ H Q' := fun wh pins s I =>
  thn (h wh pins s I) fun u s' ⟨H', I', z⟩ => ⟨H', I', q _ H' z⟩
theorem ew_and {a b : Expr} {rest : List Expr} {pos : Pos} {R : Bool → Own → Prop} (h : ET X Z a ρ O fun c O1 => (c = false → R false O1) ∧ (c = true → EW X Z (.BoolOp .And (b :: rest) pos) ρ O1 R)) : EW X Z (.BoolOp .And (a :: b :: rest) pos) ρ O R := fun σ B H s => by
  refine EVW.of (pw_and pt_ev pw_ev) ?_
  refine (h σ B H s).mono fun c H1 ⟨B1, O1, s1, e1, q1, q2⟩ => ?_
  cases c with
  | true => rw [if_pos rfl]; exact EVW.mono (q2 rfl σ B1 H1 s1) fun v H' z => z.back e1
  | false => rw [if_neg Bool.false_ne_true]; exact ⟨B1, O1, s1, e1, q1 rfl⟩
theorem ew_or {a b : Expr} {rest : List Expr} {pos : Pos} {R : Bool → Own → Prop} (h : ET X Z a ρ O fun c O1 => (c = true → R true O1) ∧ (c = false → EW X Z (.BoolOp .Or (b :: rest) pos) ρ O1 R)) : EW X Z (.BoolOp .Or (a :: b :: rest) pos) ρ O R := fun σ B H s => by
  refine EVW.of (pw_or pt_ev pw_ev) ?_
  refine (h σ B H s).mono fun c H1 ⟨B1, O1, s1, e1, q1, q2⟩ => ?_
  cases c with
  | true => rw [if_pos rfl]; exact ⟨B1, O1, s1, e1, q1 rfl⟩
  | false => rw [if_neg Bool.false_ne_true]; exact EVW.mono (q2 rfl σ B1 H1 s1) fun v H' z => z.back e1
theorem et_and {a b : Expr} {rest : List Expr} {pos : Pos} {R : Bool → Own → Prop} (h : ET X Z a ρ O fun c O1 => (c = false → R false O1) ∧ (c = true → EW X Z (.BoolOp .And (b :: rest) pos) ρ O1 R)) : ET X Z (.BoolOp .And (a :: b :: rest) pos) ρ O R := et_w (ew_and h)
theorem et_or {a b : Expr} {rest : List Expr} {pos : Pos} {R : Bool → Own → Prop} (h : ET X Z a ρ O fun c O1 => (c = true → R true O1) ∧ (c = false → EW X Z (.BoolOp .Or (b :: rest) pos) ρ O1 R)) : ET X Z (.BoolOp .Or (a :: b :: rest) pos) ρ O R := et_w (ew_or h)
/-- as values, of bools -/
theorem ex_one {op} {a : Expr} {pos : Pos} {R : D → Own → Prop} (h : EX X Z a ρ O R) : EX X Z (.BoolOp op [a] pos) ρ O R := fun σ B H s => EV.of (pe_one pe_ev) (h σ B H s)
theorem ex_and {a b : Expr} {rest : List Expr} {pos : Pos} {R : D → Own → Prop} (h : EX X Z a ρ O fun d O1 => ∃ c, d = .bl c ∧ (c = false → R (.bl false) O1) ∧ (c = true → EX X Z (.BoolOp .And (b :: rest) pos) ρ O1 R)) : EX X Z (.BoolOp .And (a :: b :: rest) pos) ρ O R := fun σ B H s => by
  refine EV.of (pe_and pe_ev pe_ev) ?_
  refine (h σ B H s).mono fun v1 H1 ⟨d1, B1, O1, s1, r1, e1, c, x, q1, q2⟩ => ?_
  subst x
  cases r1
  refine ⟨c, rfl, ?_⟩
  cases c with
  | true => rw [if_pos rfl]; exact (q2 rfl σ B1 H1 s1).mono fun v H' z => z.back e1
  | false => rw [if_neg Bool.false_ne_true]; exact ⟨_, B1, O1, s1, .bl _, e1, q1 rfl⟩
theorem ex_or {a b : Expr} {rest : List Expr} {pos : Pos} {R : D → Own → Prop} (h : EX X Z a ρ O fun d O1 => ∃ c, d = .bl c ∧ (c = true → R (.bl true) O1) ∧ (c = false → EX X Z (.BoolOp .Or (b :: rest) pos) ρ O1 R)) : EX X Z (.BoolOp .Or (a :: b :: rest) pos) ρ O R := fun σ B H s => by
  refine EV.of (pe_or pe_ev pe_ev) ?_
  refine (h σ B H s).mono fun v1 H1 ⟨d1, B1, O1, s1, r1, e1, c, x, q1, q2⟩ => ?_
  subst x
  cases r1
  refine ⟨c, rfl, ?_⟩
  cases c with
  | true => rw [if_pos rfl]; exact ⟨_, B1, O1, s1, .bl _, e1, q1 rfl⟩
  | false => rw [if_neg Bool.false_ne_true]; exact (q2 rfl σ B1 H1 s1).mono fun v H' z => z.back e1
theorem ex_not {a : Expr} {pos : Pos} {R : D → Own → Prop} (h : EX X Z a ρ O fun d O1 => ∃ c, d = .bl c ∧ R (.bl (!c)) O1) : EX X Z (.UnaryOp .Not a pos) ρ O R := fun σ B H s => by
  refine EV.of (pe_not pe_ev) ?_
  refine (h σ B H s).mono fun v1 H1 ⟨d1, B1, O1, s1, r1, e1, c, x, q1⟩ => ?_
  subst x
  cases r1
  exact ⟨c, rfl, _, B1, O1, s1, .bl _, e1, q1⟩
theorem ex_if {c a b : Expr} {pos : Pos} {R : D → Own → Prop} (h : ET X Z c ρ O fun k O1 => (k = true → EX X Z a ρ O1 R) ∧ (k = false → EX X Z b ρ O1 R)) : EX X Z (.IfExp c a b pos) ρ O R := fun σ B H s => by
  refine EV.of (pe_ifExp pt_ev pe_ev pe_ev) ?_
  refine (h σ B H s).mono fun k H1 ⟨B1, O1, s1, e1, q1, q2⟩ => ?_
  cases k with
  | true => rw [if_pos rfl]; exact (q1 rfl σ B1 H1 s1).mono fun v H' z => z.back e1
  | false => rw [if_neg Bool.false_ne_true]; exact (q2 rfl σ B1 H1 s1).mono fun v H' z => z.back e1
theorem ex_un {op : UnaryOp} {r : V → Hp → VK → Prop} {a : Expr} {pos : Pos} {R : D → Own → Prop} (ho : UnR X (unaryOp op) r)
    (h : EX X Z a ρ O fun d O1 => ∀ σ B0 B H v, Sts X.K Z B H σ ρ O1 → Ex B0 B → Rep X.K B d v → r v H (RQ X.K Z σ ρ B0 R)) : EX X Z (.UnaryOp op a pos) ρ O R := fun σ B H s => by
  refine EV.of (pe_un ho pe_ev) ?_
  exact (h σ B H s).mono fun v1 H1 ⟨d1, B1, O1, s1, r1, e1, q1⟩ => q1 σ B B1 H1 v1 s1 e1 r1

/-! arguments, displays -/
theorem ea_nil {R : List D → Own → Prop} (h : R [] O) : EA X Z [] ρ O R := fun σ B H s => EVA.of pa_nil ⟨[], B, O, s, .nil, Ex.refl _, h⟩
theorem ea_cons {e : Expr} {es : List Expr} {R : List D → Own → Prop} (h : EX X Z e ρ O fun d O1 => EA X Z es ρ O1 fun ds O2 => R (d :: ds) O2)
    (hs : starEach (e :: es) X.env = (false, eval e X.env) :: starEach es X.env := by rfl) : EA X Z (e :: es) ρ O R := fun σ B H s => by
  refine EVA.of (pa_cons pe_ev pa_ev hs) ?_
  refine (h σ B H s).mono fun v1 H1 ⟨d1, B1, O1, s1, r1, e1, q1⟩ => ?_
  refine (q1 σ B1 H1 s1).mono fun vs H2 ⟨ds, B2, O2, s2, r2, e2, q2⟩ => ?_
  exact ⟨_, B2, O2, s2, .cons (r1.mono e2 _ _) r2, e1.trans e2, q2⟩
theorem small_le {n : Nat} (h : n ≤ 1000000) : n ≤ sizeLine := Nat.le_trans h (by rw [sizeLine_eq]; decide)
theorem ex_tup {es : List Expr} {x1 pos} {R : D → Own → Prop} (h : EA X Z es ρ O fun ds O1 => ds.length ≤ 1000000 ∧ R (.tup ds) O1) : EX X Z (.Tuple es x1 pos) ρ O R := fun σ B H s => by
  refine EV.of (pe_tup pa_ev) ?_
  refine (h σ B H s).mono fun vs H1 ⟨ds, B1, O1, s1, r1, e1, z, q1⟩ => ⟨small_le (by rw [← r1.len]; exact z), fun p hp => ?_⟩
  have g := Grow.laid (M := []) (o := .tup vs) s1.gr.bh hp
  exact ⟨_, _, O1, s1.grow g, .tup (SqT.of upd_same) (r1.mono g.bb _ _), e1.trans g.bb, q1⟩
theorem ex_lst {es : List Expr} {pos} {R : D → Own → Prop} (h : EA X Z es ρ O fun ds O1 => ds.length ≤ 1000000 ∧ R (.lst ds) O1) : EX X Z (.List es pos) ρ O R := fun σ B H s => by
  refine EV.of (pe_lst pa_ev) ?_
  refine (h σ B H s).mono fun vs H1 ⟨ds, B1, O1, s1, r1, e1, z, q1⟩ => ⟨small_le (by rw [← r1.len]; exact z), fun p hp => ?_⟩
  have g := Grow.laid (M := []) (o := .lst vs) s1.gr.bh hp
  exact ⟨_, _, O1, s1.grow g, .lst upd_same (r1.mono g.bb _ _), e1.trans g.bb, q1⟩
/-- a list of one's own -/
theorem ex_lstO {es : List Expr} {pos} {R : D → Own → Prop} (h : EA X Z es ρ O fun ds O1 => ds.length ≤ 1000000 ∧ ∀ p, p ∉ Z.M → p ∉ O1.map (·.1) → R (.raw (.ref p)) ((p, .lst ds) :: O1)) : EX X Z (.List es pos) ρ O R := fun σ B H s => by
  refine EV.of (pe_lst pa_ev) ?_
  refine (h σ B H s).mono fun vs H1 ⟨ds, B1, O1, s1, r1, e1, z, q1⟩ => ⟨small_le (by rw [← r1.len]; exact z), fun p hp => ?_⟩
  exact ⟨_, B1, _, s1.own (c := .lst ds) hp ⟨vs, rfl, r1⟩, .raw _, e1, q1 p (s1.notM hp) (s1.notO hp)⟩

/-- what is owned is frozen -/
theorem ex_frz {e : Expr} {R : D → Own → Prop} (h : EX X Z e ρ O fun d O1 => ∃ p c O2, d = .raw (.ref p) ∧ p ∉ Z.M ∧ O1.Perm ((p, c) :: O2) ∧ R c.d O2) : EX X Z e ρ O R := fun σ B H s =>
  (h σ B H s).mono fun v H1 ⟨d1, B1, O1, s1, r1, e1, p, c, O2, x, hm, hp, q⟩ => by
    subst x
    cases r1
    obtain ⟨B2, s2, e2, r2⟩ := (s1.perm hp.symm).frz hm
    exact ⟨_, B2, O2, s2, r2, e1.trans e2, q⟩

/-! calls of what is built in -/
def CD (X : Cx) (Z : Zn) (r : List V → Hp → VK → Prop) (ds : List D) (ρ : Slots) (O : Own) (R : D → Own → Prop) : Prop :=
  ∀ σ B0 B H vs, Sts X.K Z B H σ ρ O → Ex B0 B → Reps X.K B ds vs → r vs H (RQ X.K Z σ ρ B0 R)
theorem ex_callB {id : String} {r : List V → Hp → VK → Prop} {x : Str} {p pos : Pos} {e : Expr} {es : List Expr} {R : D → Own → Prop} (hc : CallR X (.builtin id) r) (hm : X.mg x = none) (hv : bootBuiltins x = some (.builtin id))
    (h : EA X Z (e :: es) ρ O fun ds O1 => CD X Z r ds ρ O1 R) (hg : Gl X x := by rfl) (hn : x ≠ "__name__" := by decide) (hdb : (x == ("__debug__" : Str)) = false := by decide)
    (he : starEach (e :: es) X.env = (false, eval e X.env) :: starEach es X.env := by rfl) (hpl : (backTo pos (starEach es X.env)).any (·.1) = false := by rfl) : EX X Z (.Call (.Name x p) (e :: es) [] pos) ρ O R := fun σ B H s => by
  refine EV.of (pe_callB hc hg hm hv pa_ev hn hdb he hpl) ?_
  exact (h σ B H s).mono fun vs H1 ⟨ds, B1, O1, s1, r1, e1, q1⟩ => q1 σ B B1 H1 vs s1 e1 r1
theorem ex_callTy {T : String} {r : List V → Hp → VK → Prop} {x : Str} {p pos : Pos} {e : Expr} {es : List Expr} {R : D → Own → Prop} (hc : CallR X (.type T) r) (hm : X.mg x = none) (hv : bootBuiltins x = some (.type T))
    (h : EA X Z (e :: es) ρ O fun ds O1 => CD X Z r ds ρ O1 R) (hg : Gl X x := by rfl) (hn : x ≠ "__name__" := by decide) (hdb : (x == ("__debug__" : Str)) = false := by decide)
    (he : starEach (e :: es) X.env = (false, eval e X.env) :: starEach es X.env := by rfl) (hpl : (backTo pos (starEach es X.env)).any (·.1) = false := by rfl) : EX X Z (.Call (.Name x p) (e :: es) [] pos) ρ O R := fun σ B H s => by
  refine EV.of (pe_callTy hc hg hm hv pa_ev hn hdb he hpl) ?_
  exact (h σ B H s).mono fun vs H1 ⟨ds, B1, O1, s1, r1, e1, q1⟩ => q1 σ B B1 H1 vs s1 e1 r1
end
end PD

set_option Elab.async false
set_option linter.all false
set_option autoImplicit false
set_option maxRecDepth 100000
set_option maxHeartbeats 2000000
/-! PD, part C: what is asked of lists, tuples, dicts, texts, built-in calls. -/
namespace PD
open PySem PySem.Spec L2
open PyProof.Rows hiding St

/-! dicts by their pairs -/
def D.dct (kvs : List (Key × D)) : D := .dic (kvs.map (·.1)) (kvs.map (·.2))
def OC.dct (kvs : List (Key × D)) : OC := .dic (kvs.map (·.1)) (kvs.map (·.2))
def dval (kvs : List (Key × D)) (k : Key) : Option D := (kvs.find? fun kv => decide (kv.1 = k)).map (·.2)
def dput (kvs : List (Key × D)) (k : Key) (d : D) : List (Key × D) := if (kvs.any fun kv => decide (kv.1 = k)) = true then kvs.map (fun kv => if kv.1 = k then (kv.1, d) else kv) else kvs ++ [(k, d)]
/-- pairs that stand for each other -/
abbrev RepKV (K : PySem.W.Frag) (B : Hp) : List (Key × D) → List (Key × V) → Prop := Paired fun (p : Key × D) (q : Key × V) => p.1 = q.1 ∧ Rep K B p.2 q.2
section
variable {K : PySem.W.Frag} {B B' : Hp}
theorem repKV_of : ∀ {kvs : List (Key × D)} {ys : List (Key × V)}, ys.map (·.1) = kvs.map (·.1) → Reps K B (kvs.map (·.2)) (ys.map (·.2)) → RepKV K B kvs ys
  | [], [], _, _ => .nil
  | [], _ :: _, h, _ => by simp at h
  | _ :: _, [], h, _ => by simp at h
  | (k, d) :: kvs, (k', v) :: ys, h, r => by
    simp only [List.map_cons, List.cons.injEq] at h
    cases r with
    | cons r1 r2 => exact .cons ⟨h.1.symm, r1⟩ (repKV_of h.2 r2)
theorem repKV_to : ∀ {kvs : List (Key × D)} {ys : List (Key × V)}, RepKV K B kvs ys → ys.map (·.1) = kvs.map (·.1) ∧ Reps K B (kvs.map (·.2)) (ys.map (·.2))
  | [], _, .nil => ⟨rfl, .nil⟩
  | _ :: _, _, .cons h r => by
    obtain ⟨h1, h2⟩ := repKV_to r
    exact ⟨by simp only [List.map_cons, h1, h.1], .cons h.2 h2⟩
theorem RepKV.mono (e : Ex B B') : ∀ {kvs : List (Key × D)} {ys : List (Key × V)}, RepKV K B kvs ys → RepKV K B' kvs ys
  | [], _, .nil => .nil
  | _ :: _, _, .cons h r => .cons ⟨h.1, h.2.mono e _ _⟩ (RepKV.mono e r)
theorem RepKV.len : ∀ {kvs : List (Key × D)} {ys : List (Key × V)}, RepKV K B kvs ys → kvs.length = ys.length
  | [], _, .nil => rfl
  | _ :: _, _, .cons h r => by simp [RepKV.len r]
theorem RepKV.val (k : Key) : ∀ {kvs : List (Key × D)} {ys : List (Key × V)}, RepKV K B kvs ys → (dval kvs k = none ∧ valV ys k = none) ∨ ∃ d v, dval kvs k = some d ∧ valV ys k = some v ∧ Rep K B d v
  | [], _, .nil => .inl ⟨rfl, rfl⟩
  | (k1, d1) :: kvs, (k2, v2) :: ys, .cons h r => by
    obtain ⟨h1, h2⟩ := h
    have h1 : k1 = k2 := h1
    subst h1
    by_cases z : k1 = k
    · subst z
      exact .inr ⟨d1, v2, by simp [dval], by simp [valV], h2⟩
    · have e1 : dval ((k1, d1) :: kvs) k = dval kvs k := by simp [dval, List.find?_cons, z]
      have e2 : valV ((k1, v2) :: ys) k = valV ys k := by simp [valV, List.find?_cons, z]
      rw [e1, e2]
      exact RepKV.val k r
theorem RepKV.any (k : Key) : ∀ {kvs : List (Key × D)} {ys : List (Key × V)}, RepKV K B kvs ys → (kvs.any fun kv => decide (kv.1 = k)) = (ys.any fun kv => decide (kv.1 = k))
  | [], _, .nil => rfl
  | _ :: _, _, .cons h r => by rw [List.any_cons, List.any_cons, RepKV.any k r, h.1]
theorem RepKV.app : ∀ {kvs ls : List (Key × D)} {ys zs : List (Key × V)}, RepKV K B kvs ys → RepKV K B ls zs → RepKV K B (kvs ++ ls) (ys ++ zs)
  | [], _, _, _, .nil, g => g
  | _ :: _, _, _, _, .cons h r, g => .cons h (RepKV.app r g)
theorem RepKV.repl (k : Key) {d : D} {v : V} (hd : Rep K B d v) : ∀ {kvs : List (Key × D)} {ys : List (Key × V)}, RepKV K B kvs ys → RepKV K B (kvs.map fun kv => if kv.1 = k then (kv.1, d) else kv) (ys.map fun kv => if kv.1 = k then (kv.1, v) else kv)
  | [], _, .nil => .nil
  | (k1, d1) :: _, (k2, v2) :: _, .cons h r => by
    obtain ⟨h1, h2⟩ := h
    have h1 : k1 = k2 := h1
    subst h1
    refine .cons ?_ (RepKV.repl k hd r)
    show (if k1 = k then (k1, d) else (k1, d1)).1 = (if k1 = k then (k1, v) else (k1, v2)).1 ∧ Rep K B (if k1 = k then (k1, d) else (k1, d1)).2 (if k1 = k then (k1, v) else (k1, v2)).2
    by_cases z : k1 = k
    · rw [if_pos z, if_pos z]; exact ⟨rfl, hd⟩
    · rw [if_neg z, if_neg z]; exact ⟨rfl, h2⟩
theorem RepKV.put (k : Key) {d : D} {v : V} (hd : Rep K B d v) {kvs : List (Key × D)} {ys : List (Key × V)} (h : RepKV K B kvs ys) : RepKV K B (dput kvs k d) (putK ys k v) := by
  unfold dput putK
  rw [h.any k]
  split
  · exact h.repl k hd
  · exact h.app (.cons ⟨rfl, hd⟩ .nil)
end

/-! where a list, a tuple, a dict stands: frozen, or owned -/
def LsAt (O : Own) (d : D) (ds : List D) : Prop := d = .lst ds ∨ ∃ p, d = .raw (.ref p) ∧ O.lookup p = some (.lst ds)
def DcAt (O : Own) (d : D) (kvs : List (Key × D)) : Prop := d = .dct kvs ∨ ∃ p, d = .raw (.ref p) ∧ O.lookup p = some (.dct kvs)
/-- anything that is walked by its places -/
def SqAt (O : Own) (d : D) (ds : List D) : Prop := LsAt O d ds ∨ d = .tup ds ∨ d = .scr ds
theorem LsAt.fr {O : Own} {ds : List D} : LsAt O (.lst ds) ds := .inl rfl
theorem LsAt.ow {O : Own} {p : Addr} {ds : List D} (h : O.lookup p = some (.lst ds)) : LsAt O (.raw (.ref p)) ds := .inr ⟨p, rfl, h⟩
theorem DcAt.fr {O : Own} {kvs : List (Key × D)} : DcAt O (.dct kvs) kvs := .inl rfl
theorem DcAt.ow {O : Own} {p : Addr} {kvs : List (Key × D)} (h : O.lookup p = some (.dct kvs)) : DcAt O (.raw (.ref p)) kvs := .inr ⟨p, rfl, h⟩
section
variable {K : PySem.W.Frag} {Z : Zn} {B H : Hp} {σ : L2.St} {ρ : Slots} {O : Own} {d : D} {v : V} {ds : List D}
theorem Sts.ls (s : Sts K Z B H σ ρ O) (h : LsAt O d ds) (r : Rep K B d v) : ∃ a xs, v = .ref a ∧ H a = some (.lst xs) ∧ Reps K B ds xs := by
  rcases h with e | ⟨p, e, h⟩
  · subst e
    cases r with
    | lst h1 h2 => exact ⟨_, _, rfl, s.gr.bh _ _ h1, h2⟩
  · subst e
    cases r
    obtain ⟨xs, h1, h2⟩ := s.own_at h
    exact ⟨p, xs, rfl, h1, h2⟩
theorem Sts.dc {kvs : List (Key × D)} (s : Sts K Z B H σ ρ O) (h : DcAt O d kvs) (r : Rep K B d v) : ∃ a ys, v = .ref a ∧ H a = some (.dK ys) ∧ RepKV K B kvs ys := by
  rcases h with e | ⟨p, e, h⟩
  · subst e
    cases r with
    | dic h1 h2 h3 => exact ⟨_, _, rfl, s.gr.bh _ _ h1, repKV_of h2 h3⟩
  · subst e
    cases r
    obtain ⟨ys, h1, h2, h3⟩ := s.own_at h
    exact ⟨p, ys, rfl, h1, repKV_of h2 h3⟩
theorem Sts.tp (s : Sts K Z B H σ ρ O) (r : Rep K B (.tup ds) v) : ∃ a xs, v = .ref a ∧ SqT K H a xs ∧ Reps K B ds xs := by
  cases r with
  | tup h1 h2 => exact ⟨_, _, rfl, s.gr.bh.t h1, h2⟩
theorem Sts.sq (s : Sts K Z B H σ ρ O) (h : SqAt O d ds) (r : Rep K B d v) : ∃ a xs, v = .ref a ∧ (SqL K H a xs ∨ SqT K H a xs) ∧ Reps K B ds xs := by
  rcases h with h | h | h
  · obtain ⟨a, xs, e, h1, h2⟩ := s.ls h r
    exact ⟨a, xs, e, .inl (SqL.of h1), h2⟩
  · subst h
    obtain ⟨a, xs, e, h1, h2⟩ := s.tp r
    exact ⟨a, xs, e, .inr h1, h2⟩
  · subst h
    cases r with
    | scr h1 h2 => exact ⟨_, _, rfl, .inl (s.gr.bh.l h1), h2⟩
/-- its new, frozen -/
theorem Sts.lay {p : Addr} {o : HO} (s : Sts K Z B H σ ρ O) (hp : H p = none) : Sts K Z (upd B p o) (upd H p o) σ ρ O ∧ Ex B (upd B p o) :=
  ⟨s.grow (Grow.laid s.gr.bh hp), Ex.new (s.gr.bh.free hp)⟩
end
theorem atI_at {K : PySem.W.Frag} {B : Hp} {ds : List D} {vs : List V} {i : Int} {x : D} (r : Reps K B ds vs) (h : atI ds i = some x) : ∃ v, atI vs i = some v ∧ Rep K B x v := by
  unfold atI at h ⊢
  rw [← r.len]
  cases e : ixN ds.length i with
  | none => rw [e] at h; cases h
  | some j =>
    rw [e] at h
    obtain ⟨v, h1, h2⟩ := r.get (show ds[j]? = some x from h)
    exact ⟨v, h1, h2⟩

section
variable {X : Cx} {Z : Zn} {ρ : Slots} {O : Own}
/-! items -/
theorem bd_ix {d : D} {ds : List D} {i : Int} {x : D} {R : D → Own → Prop} (hd : SqAt O d ds) (hi : atI ds i = some x) (h : R x O) : BD X Z (rIx X.K) d (.int i) ρ O R := fun σ B0 B H v1 v2 s e r1 r2 => by
  cases r2
  obtain ⟨a, xs, e1, h1, h2⟩ := s.sq hd r1
  subst e1
  obtain ⟨v, h3, h4⟩ := atI_at h2 hi
  rcases h1 with h1 | h1
  · exact .inl ⟨a, xs, i, v, rfl, rfl, h1, h3, x, B, O, s, h4, e, h⟩
  · exact .inr (.inl ⟨a, xs, i, v, rfl, rfl, h1, h3, x, B, O, s, h4, e, h⟩)
theorem bd_ixS {z : Str} {i : Int} {c : Nat} {R : D → Own → Prop} (hz : z.length ≤ 1000000) (hi : atI z.cps.toList i = some c) (h : R (.str ⟨#[c]⟩) O) : BD X Z (rIx X.K) (.str z) (.int i) ρ O R := fun σ B0 B H v1 v2 s e r1 r2 => by
  cases r1; cases r2
  exact .inr (.inr ⟨z, i, c, rfl, rfl, small_le hz, hi, _, B, O, s, .str _, e, h⟩)
/-! len -/
theorem cd_len {d : D} {ds : List D} {R : D → Own → Prop} (hd : SqAt O d ds) (h : R (.int ds.length) O) : CD X Z (fun xs H Q => ∃ p ys, xs = [.ref p] ∧ (SqL X.K H p ys ∨ SqT X.K H p ys) ∧ Q (.int ys.length) H) [d] ρ O R := fun σ B0 B H vs s e r => by
  cases r with
  | cons r1 r2 =>
    cases r2
    obtain ⟨a, xs, e1, h1, h2⟩ := s.sq hd r1
    subst e1
    exact ⟨a, xs, rfl, h1, _, B, O, s, .int _, e, by rw [← h2.len]; exact h⟩
theorem cd_lenS {z : Str} {R : D → Own → Prop} (hz : z.length ≤ 1000000) (h : R (.int z.length) O) : CD X Z (fun xs H Q => ∃ z, xs = [.str z] ∧ z.length ≤ sizeLine ∧ Q (.int z.length) H) [.str z] ρ O R := fun σ B0 B H vs s e r => by
  cases r with
  | cons r1 r2 => cases r2; cases r1; exact ⟨z, rfl, small_le hz, _, B, O, s, .int _, e, h⟩
theorem cd_lenD {d : D} {kvs : List (Key × D)} {R : D → Own → Prop} (hd : DcAt O d kvs) (h : R (.int kvs.length) O) : CD X Z (fun xs H Q => ∃ a kvs, xs = [V.ref a] ∧ H a = some (.dK kvs) ∧ Q (.int kvs.length) H) [d] ρ O R := fun σ B0 B H vs s e r => by
  cases r with
  | cons r1 r2 =>
    cases r2
    obtain ⟨a, ys, e1, h1, h2⟩ := s.dc hd r1
    subst e1
    exact ⟨a, ys, rfl, h1, _, B, O, s, .int _, e, by rw [← h2.len]; exact h⟩
/-! tuple(x), list(x) -/
theorem cd_tupL {d : D} {ds : List D} {R : D → Own → Prop} (hd : LsAt O d ds) (h : R (.tup ds) O) : CD X Z (fun xs H Q => ∃ p ys, xs = [.ref p] ∧ ((SqL X.K H p ys ∧ ∀ l, H l = none → Q (.ref l) (upd H l (.tup ys))) ∨ (SqT X.K H p ys ∧ Q (.ref p) H))) [d] ρ O R := fun σ B0 B H vs s e r => by
  cases r with
  | cons r1 r2 =>
    cases r2
    obtain ⟨a, xs, e1, h1, h2⟩ := s.ls hd r1
    subst e1
    refine ⟨a, xs, rfl, .inl ⟨SqL.of h1, fun l hl => ?_⟩⟩
    obtain ⟨s', e'⟩ := s.lay (o := .tup xs) hl
    exact ⟨_, _, O, s', .tup (SqT.of upd_same) (h2.mono e' _ _), e.trans e', h⟩
theorem cd_tupT {ds : List D} {R : D → Own → Prop} (h : R (.tup ds) O) : CD X Z (fun xs H Q => ∃ p ys, xs = [.ref p] ∧ ((SqL X.K H p ys ∧ ∀ l, H l = none → Q (.ref l) (upd H l (.tup ys))) ∨ (SqT X.K H p ys ∧ Q (.ref p) H))) [.tup ds] ρ O R := fun σ B0 B H vs s e r => by
  cases r with
  | cons r1 r2 =>
    cases r2
    obtain ⟨a, xs, e1, h1, h2⟩ := s.tp r1
    subst e1
    exact ⟨a, xs, rfl, .inr ⟨h1, _, B, O, s, r1, e, h⟩⟩
theorem cd_list {d : D} {ds : List D} {R : D → Own → Prop} (hd : SqAt O d ds) (h : R (.lst ds) O) : CD X Z (fun xs H Q => ∃ p ys, xs = [.ref p] ∧ (SqL X.K H p ys ∨ SqT X.K H p ys) ∧ ∀ l, H l = none → Q (.ref l) (upd H l (.lst ys))) [d] ρ O R := fun σ B0 B H vs s e r => by
  cases r with
  | cons r1 r2 =>
    cases r2
    obtain ⟨a, xs, e1, h1, h2⟩ := s.sq hd r1
    subst e1
    refine ⟨a, xs, rfl, h1, fun l hl => ?_⟩
    obtain ⟨s', e'⟩ := s.lay (o := .lst xs) hl
    exact ⟨_, _, O, s', .lst upd_same (h2.mono e' _ _), e.trans e', h⟩
theorem cd_listO {d : D} {ds : List D} {R : D → Own → Prop} (hd : SqAt O d ds) (h : ∀ p, p ∉ Z.M → p ∉ O.map (·.1) → R (.raw (.ref p)) ((p, .lst ds) :: O)) : CD X Z (fun xs H Q => ∃ p ys, xs = [.ref p] ∧ (SqL X.K H p ys ∨ SqT X.K H p ys) ∧ ∀ l, H l = none → Q (.ref l) (upd H l (.lst ys))) [d] ρ O R := fun σ B0 B H vs s e r => by
  cases r with
  | cons r1 r2 =>
    cases r2
    obtain ⟨a, xs, e1, h1, h2⟩ := s.sq hd r1
    subst e1
    exact ⟨a, xs, rfl, h1, fun l hl => ⟨_, B, _, s.own (c := .lst ds) hl ⟨xs, rfl, h2⟩, .raw _, e, h l (s.notM hl) (s.notO hl)⟩⟩
/-! numbers -/
theorem cd_all {d : D} {bs : List Bool} {R : D → Own → Prop} (hd : LsAt O d (bs.map D.bl)) (h : R (.bl (bs.all id)) O) : CD X Z (rAll X.K) [d] ρ O R := fun σ B0 B H vs s e r => by
  cases r with
  | cons r1 r2 =>
    cases r2
    obtain ⟨a, xs, e1, h1, h2⟩ := s.ls hd r1
    subst e1
    rw [h2.bls_eq] at h1
    exact ⟨a, bs, rfl, SqL.of h1, _, B, O, s, .bl _, e, h⟩
theorem cd_any {d : D} {bs : List Bool} {R : D → Own → Prop} (hd : LsAt O d (bs.map D.bl)) (h : R (.bl (bs.any id)) O) : CD X Z (rAny X.K) [d] ρ O R := fun σ B0 B H vs s e r => by
  cases r with
  | cons r1 r2 =>
    cases r2
    obtain ⟨a, xs, e1, h1, h2⟩ := s.ls hd r1
    subst e1
    rw [h2.bls_eq] at h1
    exact ⟨a, bs, rfl, SqL.of h1, _, B, O, s, .bl _, e, h⟩
theorem cd_sum {d : D} {ns : List Int} {R : D → Own → Prop} (hd : LsAt O d (ns.map D.int)) (h : R (.int ns.sum) O) : CD X Z (rSum X.K) [d] ρ O R := fun σ B0 B H vs s e r => by
  cases r with
  | cons r1 r2 =>
    cases r2
    obtain ⟨a, xs, e1, h1, h2⟩ := s.ls hd r1
    subst e1
    rw [h2.ints_eq] at h1
    exact ⟨a, ns, rfl, SqL.of h1, _, B, O, s, .int _, e, h⟩
theorem cd_max {d : D} {ns : List Int} {R : D → Own → Prop} (hd : LsAt O d (ns.map D.int)) (h0 : 0 < ns.length) (h : ∀ m, m ∈ ns → (∀ y, y ∈ ns → y ≤ m) → R (.int m) O) : CD X Z (rMax X.K) [d] ρ O R := fun σ B0 B H vs s e r => by
  cases r with
  | cons r1 r2 =>
    cases r2
    obtain ⟨a, xs, e1, h1, h2⟩ := s.ls hd r1
    subst e1
    rw [h2.ints_eq] at h1
    exact ⟨a, ns, rfl, SqL.of h1, h0, fun m m1 m2 => ⟨_, B, O, s, .int _, e, h m m1 m2⟩⟩
theorem cd_abs {i : Int} {R : D → Own → Prop} (h : R (.int (if i < 0 then -i else i)) O) : CD X Z (fun xs H Q => ∃ i, xs = [.int i] ∧ Q (.int (if i < 0 then -i else i)) H) [.int i] ρ O R := fun σ B0 B H vs s e r => by
  cases r with
  | cons r1 r2 => cases r2; cases r1; exact ⟨i, rfl, _, B, O, s, .int _, e, h⟩
theorem cd_int {i : Int} {R : D → Own → Prop} (h : R (.int i) O) : CD X Z (fun xs H Q => (∃ i, xs = [.int i] ∧ Q (.int i) H) ∨ ∃ k, xs = [.bl k] ∧ Q (.int (if k then 1 else 0)) H) [.int i] ρ O R := fun σ B0 B H vs s e r => by
  cases r with
  | cons r1 r2 => cases r2; cases r1; exact .inl ⟨i, rfl, _, B, O, s, .int _, e, h⟩
theorem cd_intB {k : Bool} {R : D → Own → Prop} (h : R (.int (if k then 1 else 0)) O) : CD X Z (fun xs H Q => (∃ i, xs = [.int i] ∧ Q (.int i) H) ∨ ∃ k, xs = [.bl k] ∧ Q (.int (if k then 1 else 0)) H) [.bl k] ρ O R := fun σ B0 B H vs s e r => by
  cases r with
  | cons r1 r2 => cases r2; cases r1; exact .inr ⟨k, rfl, _, B, O, s, .int _, e, h⟩
/-! isinstance of a built-in class -/
def D.ty : D → Option String
  | .non => some "NoneType" | .bl _ => some "bool" | .int _ => some "int" | .str _ => some "str"
  | .tup _ => some "tuple" | .lst _ => some "list" | .dic _ _ => some "dict"
  | _ => none
theorem rep_ty {K : PySem.W.Frag} {B H : Hp} {d : D} {v : V} {T : String} (e : Ex B H) (r : Rep K B d v) (h : d.ty = some T) : TyX K H v (.type T) := by
  cases r with
  | non => cases h; exact .base .non
  | bl b => cases h; exact .base (.bl _)
  | int i => cases h; exact .base (.int _)
  | str x => cases h; exact .base (.str _)
  | raw v => cases h
  | tup h1 h2 =>
    cases h
    rcases h1 with (h1 | ⟨o, h1⟩) | ⟨o, its, n, h1, h3, h4⟩
    · exact .base (.tup (e _ _ h1))
    · exact .fTuple (e _ _ h1)
    · exact .kTuple h1 h3
  | lst h1 h2 => cases h; exact .base (.lst (e _ _ h1))
  | scr h1 h2 => cases h
  | dic h1 h2 h3 => cases h; exact .base (.dK (e _ _ h1))
  | ins h1 h2 h3 => cases h
  | err h1 h2 => cases h
theorem cd_isi {d : D} {T T' : String} {b : Bool} {R : D → Own → Prop} (hd : d.ty = some T) (hk : kitB T T' = some b) (h : R (.bl b) O) : CD X Z (rIsi X.K) [d, .raw (.ty T')] ρ O R := fun σ B0 B H vs s e r => by
  cases r with
  | cons r1 r2 =>
    cases r2 with
    | cons r2 r3 =>
      cases r3; cases r2
      exact ⟨_, _, _, _, b, rfl, .ty _, rep_ty s.gr.bh r1 hd, kit_ty hk, _, B, O, s, .bl _, e, h⟩
/-! lists, tuples, texts put together -/
theorem bd_cat {d1 d2 : D} {ds es : List D} {R : D → Own → Prop} (h1 : LsAt O d1 ds) (h2 : LsAt O d2 es) (hl : ds.length + es.length ≤ 1000000) (h : R (.lst (ds ++ es)) O) : BD X Z rCat d1 d2 ρ O R := fun σ B0 B H v1 v2 s e r1 r2 => by
  obtain ⟨a, xs, e1, g1, q1⟩ := s.ls h1 r1
  obtain ⟨b, ys, e2, g2, q2⟩ := s.ls h2 r2
  subst e1 e2
  refine ⟨a, b, xs, ys, rfl, rfl, g1, g2, small_le (by rw [← q1.len, ← q2.len]; exact hl), fun p hp => ?_⟩
  obtain ⟨s', e'⟩ := s.lay (o := .lst (xs ++ ys)) hp
  exact ⟨_, _, O, s', .lst upd_same ((q1.append q2).mono e' _ _), e.trans e', h⟩
theorem reps_rep {K : PySem.W.Frag} {B : Hp} {ds : List D} {vs : List V} (r : Reps K B ds vs) : ∀ k : Nat, Reps K B (List.replicate k ds).flatten (List.replicate k vs).flatten
  | 0 => .nil
  | k + 1 => by rw [List.replicate_succ, List.replicate_succ, List.flatten_cons, List.flatten_cons]; exact r.append (reps_rep r k)
theorem bd_rep {d1 : D} {ds : List D} {k : Int} {R : D → Own → Prop} (h1 : LsAt O d1 ds) (hk : 0 ≤ k ∧ k ≤ 1000000) (hl : ds.length * k.toNat ≤ 1000000) (h : R (.lst (List.replicate k.toNat ds).flatten) O) : BD X Z rRep d1 (.int k) ρ O R := fun σ B0 B H v1 v2 s e r1 r2 => by
  obtain ⟨a, xs, e1, g1, q1⟩ := s.ls h1 r1
  subst e1
  cases r2
  refine ⟨a, k, xs, rfl, rfl, g1, by omega, by omega, small_le (by rw [← q1.len]; exact hl), fun p hp => ?_⟩
  obtain ⟨s', e'⟩ := s.lay (o := .lst (List.replicate k.toNat xs).flatten) hp
  exact ⟨_, _, O, s', .lst upd_same ((reps_rep q1 _).mono e' _ _), e.trans e', h⟩
theorem bd_repO {d1 : D} {ds : List D} {k : Int} {R : D → Own → Prop} (h1 : LsAt O d1 ds) (hk : 0 ≤ k ∧ k ≤ 1000000) (hl : ds.length * k.toNat ≤ 1000000) (h : ∀ p, p ∉ Z.M → p ∉ O.map (·.1) → R (.raw (.ref p)) ((p, .lst (List.replicate k.toNat ds).flatten) :: O)) : BD X Z rRep d1 (.int k) ρ O R := fun σ B0 B H v1 v2 s e r1 r2 => by
  obtain ⟨a, xs, e1, g1, q1⟩ := s.ls h1 r1
  subst e1
  cases r2
  exact ⟨a, k, xs, rfl, rfl, g1, by omega, by omega, small_le (by rw [← q1.len]; exact hl), fun p hp => ⟨_, B, _, s.own (c := .lst (List.replicate k.toNat ds).flatten) hp ⟨_, rfl, reps_rep q1 _⟩, .raw _, e, h p (s.notM hp) (s.notO hp)⟩⟩
/-- t + u, of any lengths -/
def rCatA (K : PySem.W.Frag) : R2 := fun x y H Q => ∃ a b xs ys, x = .ref a ∧ y = .ref b ∧ SqT K H a xs ∧ SqT K H b ys ∧ xs.length + ys.length ≤ sizeLine ∧
  (xs = [] → Q (.ref b) H) ∧ (ys = [] → Q (.ref a) H) ∧ ∀ p, H p = none → Q (.ref p) (upd H p (.tup (xs ++ ys)))
theorem op_catA : OpR X (binaryOp .Add) (rCatA X.K) := by
  intro pins s σ H x y v u Q I rx ry h
  obtain ⟨a, b, xs, ys, rfl, rfl, ha, hb, hz, q0, q1, q2⟩ := h
  by_cases hx : xs = []
  · cases rx
    cases ry
    obtain ⟨its, r1, p1, _⟩ := I.tuple ha
    obtain ⟨its2, r2, p2, _⟩ := I.tuple hb
    have hv : its = [] := r1.nil_iff.mpr hx
    subst hv
    obtain ⟨⟨cls, dd, data, sl⟩, ho, hc, n, hd⟩ := id p1
    obtain ⟨⟨cls2, dd2, data2, sl2⟩, ho2, hc2, n2, hd2⟩ := id p2
    simp only at hc hd hc2 hd2
    subst hc hd hc2 hd2
    exact concat_meets ⟨_, ho, rfl⟩ ⟨_, ho2, rfl⟩ noFill_tuple_add seq_tuple_add PySem.F.slot_tuple_add PySem.F.entry_tuple_add (PySem.F.args_tuple_add_2 _ _)
      (tuple_addW0 a b (#[] : Array Value) its2.toArray n n2 dd dd2 sl sl2 (by simp)) ⟨ho, ho2, ⟨.ref b, H, I, rfl, q0 hx⟩⟩
  · exact op_catT pins s σ H _ _ v u Q I rx ry ⟨a, b, xs, ys, rfl, rfl, ha, hb, hx, hz, q1, fun _ => q2⟩
theorem bd_catT {ds es : List D} {R : D → Own → Prop} (hl : ds.length + es.length ≤ 1000000) (h : R (.tup (ds ++ es)) O) : BD X Z (rCatA X.K) (.tup ds) (.tup es) ρ O R := fun σ B0 B H v1 v2 s e r1 r2 => by
  obtain ⟨a, xs, e1, g1, q1⟩ := s.tp r1
  obtain ⟨b, ys, e2, g2, q2⟩ := s.tp r2
  subst e1 e2
  refine ⟨a, b, xs, ys, rfl, rfl, g1, g2, small_le (by rw [← q1.len, ← q2.len]; exact hl), fun hx => ?_, fun hy => ?_, fun p hp => ?_⟩
  · have he : ds = [] := by
      have := q1.len
      rw [hx] at this
      exact List.length_eq_zero_iff.mp this
    subst he
    exact ⟨_, B, O, s, r2, e, h⟩
  · have he : es = [] := by
      have := q2.len
      rw [hy] at this
      exact List.length_eq_zero_iff.mp this
    subst he
    rw [List.append_nil] at h
    exact ⟨_, B, O, s, r1, e, h⟩
  · obtain ⟨s', e'⟩ := s.lay (o := .tup (xs ++ ys)) hp
    exact ⟨_, _, O, s', .tup (SqT.of upd_same) ((q1.append q2).mono e' _ _), e.trans e', h⟩
theorem op_addS {X : Cx} : OpR X (binaryOp .Add) (fun x y H Q => ∃ i j, x = .str i ∧ y = .str j ∧ i.length + j.length ≤ sizeLine ∧ Q (.str (i ++ j)) H) := op_add_str
theorem bd_addS {i j : Str} {R : D → Own → Prop} (hl : i.length + j.length ≤ 1000000) (h : R (.str (i ++ j)) O) : BD X Z (fun x y H Q => ∃ i j, x = .str i ∧ y = .str j ∧ i.length + j.length ≤ sizeLine ∧ Q (.str (i ++ j)) H) (.str i) (.str j) ρ O R := fun σ B0 B H v1 v2 s e r1 r2 => by
  cases r1; cases r2
  exact ⟨i, j, rfl, rfl, small_le hl, _, B, O, s, .str _, e, h⟩
end
end PD

set_option Elab.async false
set_option linter.all false
set_option autoImplicit false
set_option maxRecDepth 100000
set_option maxHeartbeats 2000000
/-! PD, part D: dicts, slices, fields, methods of built-in types. -/
namespace PD
open PySem PySem.Spec L2
open PyProof.Rows hiding St

def keyD : D → Option Key
  | .int i => some (.inl i)
  | .str x => some (.inr x)
  | _ => none
theorem rep_key {K : PySem.W.Frag} {B : Hp} {d : D} {v : V} {k : Key} (r : Rep K B d v) (h : keyD d = some k) : v = kV k := by
  cases r with
  | int i => cases h; rfl
  | str x => cases h; rfl
  | _ => cases h
section
variable {X : Cx} {Z : Zn} {ρ : Slots} {O : Own}
/-! dicts -/
theorem ex_dget {o i : Expr} {pos : Pos} {R : D → Own → Prop} (hu : X.A.units + 1 < cLine)
    (h : EX X Z o ρ O fun d1 O1 => EX X Z i ρ O1 fun d2 O2 => ∃ kvs k x, DcAt O2 d1 kvs ∧ keyD d2 = some k ∧ dval kvs k = some x ∧ R x O2) (hs : NoSl i := by exact fun _ _ => rfl) : EX X Z (.Subscript o i pos) ρ O R := fun σ B H s => by
  refine EV.of (pe_dget hu pe_ev pe_ev hs) ?_
  refine (h σ B H s).mono fun v1 H1 ⟨d1, B1, O1, s1, r1, e1, q1⟩ => ?_
  refine (q1 σ B1 H1 s1).mono fun v2 H2 ⟨d2, B2, O2, s2, r2, e2, kvs, k, x, g1, g2, g3, q⟩ => ?_
  obtain ⟨a, ys, ea, h1, h2⟩ := s2.dc g1 (r1.mono e2 _ _)
  subst ea
  have ek := rep_key r2 g2
  subst ek
  rcases h2.val k with ⟨z, _⟩ | ⟨d, v, z1, z2, z3⟩
  · rw [g3] at z; cases z
  · rw [g3] at z1; cases z1
    exact ⟨a, v, rfl, by rw [← z2]; exact DGet.k h1, x, B2, O2, s2, z3, e1.trans e2, q⟩
theorem et_din {o i : Expr} {pos : Pos} {R : Bool → Own → Prop} (hu : X.A.units + 1 < cLine)
    (h : EX X Z i ρ O fun d2 O1 => EX X Z o ρ O1 fun d1 O2 => ∃ kvs k, DcAt O2 d1 kvs ∧ keyD d2 = some k ∧ R (dval kvs k).isSome O2) (hm : behindInMarks .In o = false := by first | rfl | with_unfolding_all rfl) : ET X Z (.Compare i [.In] [o] pos) ρ O R := fun σ B H s => by
  refine EVT.of (pt_cmp (pc_din hu pe_ev pe_ev) hm) ?_
  refine (h σ B H s).mono fun v2 H1 ⟨d2, B1, O1, s1, r1, e1, q1⟩ => ?_
  refine (q1 σ B1 H1 s1).mono fun v1 H2 ⟨d1, B2, O2, s2, r2, e2, kvs, k, g1, g2, q⟩ => ?_
  obtain ⟨a, ys, ea, h1, h2⟩ := s2.dc g1 r2
  subst ea
  have ek := rep_key (r1.mono e2 _ _) g2
  subst ek
  refine ⟨a, valV ys k, rfl, DGet.k h1, _, rfl, B2, O2, s2, e1.trans e2, ?_⟩
  rcases h2.val k with ⟨z, w⟩ | ⟨d, v, z1, z2, z3⟩
  · rw [z] at q; rw [w]; exact q
  · rw [z1] at q; rw [z2]; exact q
theorem et_dnotin {o i : Expr} {pos : Pos} {R : Bool → Own → Prop} (hu : X.A.units + 1 < cLine)
    (h : EX X Z i ρ O fun d2 O1 => EX X Z o ρ O1 fun d1 O2 => ∃ kvs k, DcAt O2 d1 kvs ∧ keyD d2 = some k ∧ R (!(dval kvs k).isSome) O2) (hm : behindInMarks .NotIn o = false := by first | rfl | with_unfolding_all rfl) : ET X Z (.Compare i [.NotIn] [o] pos) ρ O R := fun σ B H s => by
  refine EVT.of (pt_cmp (pc_dnotin hu pe_ev pe_ev) hm) ?_
  refine (h σ B H s).mono fun v2 H1 ⟨d2, B1, O1, s1, r1, e1, q1⟩ => ?_
  refine (q1 σ B1 H1 s1).mono fun v1 H2 ⟨d1, B2, O2, s2, r2, e2, kvs, k, g1, g2, q⟩ => ?_
  obtain ⟨a, ys, ea, h1, h2⟩ := s2.dc g1 r2
  subst ea
  have ek := rep_key (r1.mono e2 _ _) g2
  subst ek
  refine ⟨a, valV ys k, rfl, DGet.k h1, _, rfl, B2, O2, s2, e1.trans e2, ?_⟩
  rcases h2.val k with ⟨z, w⟩ | ⟨d, v, z1, z2, z3⟩
  · rw [z] at q; rw [w]; exact q
  · rw [z1] at q; rw [z2]; exact q
/-- d.get(k, x) -/
theorem ex_dget2 {o e f : Expr} {apos cpos : Pos} {R : D → Own → Prop} (hu : X.A.units + 1 < cLine)
    (h : EX X Z o ρ O fun d1 O1 => (∃ kvs, DcAt O1 d1 kvs) ∧ EX X Z e ρ O1 fun d2 O2 => EX X Z f ρ O2 fun d3 O3 => ∃ kvs k, DcAt O3 d1 kvs ∧ keyD d2 = some k ∧ R ((dval kvs k).getD d3) O3)
    (m : M2 X o "get" apos e f cpos := by exact ⟨rfl, rfl, rfl, rfl⟩) : EX X Z (.Call (.Attribute o "get" apos) [e, f] [] cpos) ρ O R := fun σ B H s => by
  refine EV.of (pe_dget2 hu pe_ev pe_ev pe_ev m) ?_
  refine (h σ B H s).mono fun v1 H1 ⟨d1, B1, O1, s1, r1, e1, ⟨kvs0, g0⟩, q1⟩ => ?_
  obtain ⟨a, ys, ea, h1, h2⟩ := s1.dc g0 r1
  subst ea
  refine ⟨a, rfl, .inl ⟨ys, .inl h1⟩, ?_⟩
  refine (q1 σ B1 H1 s1).mono fun v2 H2 ⟨d2, B2, O2, s2, r2, e2, q2⟩ => ?_
  refine (q2 σ B2 H2 s2).mono fun v3 H3 ⟨d3, B3, O3, s3, r3, e3, kvs, k, g1, g2, q⟩ => ?_
  obtain ⟨a', ys', ea, h1, h2⟩ := s3.dc g1 (r1.mono (e2.trans e3) _ _)
  cases ea
  have ek := rep_key (r2.mono e3 _ _) g2
  subst ek
  refine ⟨valV ys' k, DGet.k h1, ?_⟩
  rcases h2.val k with ⟨z, w⟩ | ⟨d, v, z1, z2, z3⟩
  · rw [z] at q; rw [w]; exact ⟨d3, B3, O3, s3, r3, (e1.trans e2).trans e3, q⟩
  · rw [z1] at q; rw [z2]; exact ⟨d, B3, O3, s3, z3, (e1.trans e2).trans e3, q⟩
/-- {} of one's own -/
theorem ex_dnew {pos : Pos} {R : D → Own → Prop} (h : ∀ p, p ∉ Z.M → p ∉ O.map (·.1) → R (.raw (.ref p)) ((p, .dct []) :: O)) : EX X Z (.Dict [] [] pos) ρ O R := fun σ B H s =>
  EV.of pe_dnewK fun p hp => ⟨_, B, _, s.own (c := .dct []) hp ⟨[], rfl, rfl, .nil⟩, .raw _, Ex.refl _, h p (s.notM hp) (s.notO hp)⟩
/-- {k: v} of one's own -/
theorem ex_disp1 {ke ve : Expr} {pos : Pos} {R : D → Own → Prop} (h : ∀ p, p ∉ Z.M → p ∉ O.map (·.1) → EX X Z ke ρ ((p, .dct []) :: O) fun d1 O1 => EX X Z ve ρ O1 fun d2 O2 => ∃ k, keyD d1 = some k ∧ O2.lookup p = some (.dct []) ∧ R (.raw (.ref p)) (setO O2 p (.dct [(k, d2)]))) : EX X Z (.Dict [some ke] [ve] pos) ρ O R := fun σ B H s => by
  refine EV.of (pe_disp (pps_cons pe_ev pe_ev pps_nil) (by rfl) (by rfl) (fun z => by cases z) (by show 1 ≤ 15; decide)) ?_
  intro p hp
  have s0 := s.own (c := .dct []) hp ⟨[], rfl, rfl, .nil⟩
  show EV X ke σ _ _
  refine (h p (s.notM hp) (s.notO hp) σ B _ s0).mono fun v1 H1 ⟨d1, B1, O1, s1, r1, e1, q1⟩ => ?_
  refine EV.mono (q1 σ B1 H1 s1) fun v2 H2 ⟨d2, B2, O2, s2, r2, e2, k, hk, hl, q⟩ => ?_
  obtain ⟨ys, g1, g2, g3⟩ := s2.own_at hl
  have hy : ys = [] := by cases ys with | nil => rfl | cons y ys => simp at g2
  subst hy
  have ek := rep_key (r1.mono e2 _ _) hk
  subst ek
  refine ⟨g1, [(k, v2)], rfl, by show 1 ≤ 15; decide, ?_⟩
  exact ⟨_, B2, _, s2.put (c := .dct [(k, d2)]) (List.mem_map.mpr ⟨_, mem_addrs hl, rfl⟩) ⟨[(k, v2)], rfl, rfl, .cons r2 .nil⟩, .raw _, e1.trans e2, q⟩
/-! in, not in, of flat items -/
theorem inV_int (x : Int) : ∀ ns : List Int, inV (.int x) (ns.map V.int) = decide (x ∈ ns)
  | [] => rfl
  | n :: ns => by
    have ih := inV_int x ns
    unfold inV at ih ⊢
    rw [List.map_cons, List.any_cons, ih]
    have e : eqV (.int n) (.int x) = decide (x = n) := by
      show (n == x) = decide (x = n)
      rw [Bool.beq_eq_decide_eq]
      by_cases z : n = x
      · simp [z]
      · simp [z, Ne.symm z]
    rw [e]
    by_cases z : x = n <;> simp [z]
theorem flat_ints (ns : List Int) : (ns.map V.int).all flatV = true := by
  rw [List.all_eq_true]
  intro x hx
  obtain ⟨n, _, rfl⟩ := List.mem_map.mp hx
  rfl
theorem bt_inI {d : D} {ns : List Int} {x : Int} {R : Bool → Own → Prop} (hd : SqAt O d (ns.map D.int)) (h : R (decide (x ∈ ns)) O) : BT X Z (rIn X.K false) (.int x) d ρ O R := fun σ B0 B H v1 v2 s e r1 r2 => by
  cases r1
  obtain ⟨a, xs, ea, h1, h2⟩ := s.sq hd r2
  subst ea
  rw [h2.ints_eq] at h1
  refine ⟨a, ns.map V.int, rfl, h1, rfl, flat_ints ns, _, rfl, B, O, s, e, ?_⟩
  show R (if false = true then !inV (.int x) (ns.map V.int) else inV (.int x) (ns.map V.int)) O
  rw [if_neg Bool.false_ne_true, inV_int]
  exact h
theorem bt_notInI {d : D} {ns : List Int} {x : Int} {R : Bool → Own → Prop} (hd : SqAt O d (ns.map D.int)) (h : R (!decide (x ∈ ns)) O) : BT X Z (rIn X.K true) (.int x) d ρ O R := fun σ B0 B H v1 v2 s e r1 r2 => by
  cases r1
  obtain ⟨a, xs, ea, h1, h2⟩ := s.sq hd r2
  subst ea
  rw [h2.ints_eq] at h1
  refine ⟨a, ns.map V.int, rfl, h1, rfl, flat_ints ns, _, rfl, B, O, s, e, ?_⟩
  show R (if true = true then !inV (.int x) (ns.map V.int) else inV (.int x) (ns.map V.int)) O
  rw [if_pos rfl, inV_int]
  exact h
/-! slices -/
def EO (X : Cx) (Z : Zn) (e : Option Expr) (ρ : Slots) (O : Own) (R : Option Int → Own → Prop) : Prop := match e with
  | none => R none O
  | some e => EX X Z e ρ O fun d O1 => ∃ i, d = .int i ∧ R (some i) O1
theorem ex_slice {r : V → Option Int → Option Int → Hp → VK → Prop} {e : Expr} {lo hi : Option Expr} {pos p2 : Pos} {R : D → Own → Prop} (hr : SlR X r)
    (h : EX X Z e ρ O fun d O1 => EO X Z lo ρ O1 fun l O2 => EO X Z hi ρ O2 fun u O3 => ∀ σ B0 B H v, Sts X.K Z B H σ ρ O3 → Ex B0 B → Rep X.K B d v → r v l u H (RQ X.K Z σ ρ B0 R)) : EX X Z (.Subscript e (.Slice lo hi none p2) pos) ρ O R := fun σ B H s => by
  cases lo with
  | none =>
    cases hi with
    | none =>
      refine EV.of (pe_slice hr pe_ev po_none po_none) ?_
      exact (h σ B H s).mono fun v1 H1 ⟨d1, B1, O1, s1, r1, e1, q⟩ => q σ B B1 H1 v1 s1 e1 r1
    | some hi =>
      refine EV.of (pe_slice hr pe_ev po_none (po_some pe_ev)) ?_
      refine (h σ B H s).mono fun v1 H1 ⟨d1, B1, O1, s1, r1, e1, q⟩ => ?_
      refine ((show EX X Z hi ρ O1 _ from q) σ B1 H1 s1).mono fun v2 H2 ⟨d2, B2, O2, s2, r2, e2, i, x, q⟩ => ?_
      subst x; cases r2
      exact ⟨i, rfl, q σ B B2 H2 v1 s2 (e1.trans e2) (r1.mono e2 _ _)⟩
  | some lo =>
    cases hi with
    | none =>
      refine EV.of (pe_slice hr pe_ev (po_some pe_ev) po_none) ?_
      refine (h σ B H s).mono fun v1 H1 ⟨d1, B1, O1, s1, r1, e1, q⟩ => ?_
      refine ((show EX X Z lo ρ O1 _ from q) σ B1 H1 s1).mono fun v2 H2 ⟨d2, B2, O2, s2, r2, e2, i, x, q⟩ => ?_
      subst x; cases r2
      exact ⟨i, rfl, q σ B B2 H2 v1 s2 (e1.trans e2) (r1.mono e2 _ _)⟩
    | some hi =>
      refine EV.of (pe_slice hr pe_ev (po_some pe_ev) (po_some pe_ev)) ?_
      refine (h σ B H s).mono fun v1 H1 ⟨d1, B1, O1, s1, r1, e1, q⟩ => ?_
      refine ((show EX X Z lo ρ O1 _ from q) σ B1 H1 s1).mono fun v2 H2 ⟨d2, B2, O2, s2, r2, e2, i, x, q⟩ => ?_
      subst x; cases r2
      refine ⟨i, rfl, ?_⟩
      refine ((show EX X Z hi ρ O2 _ from q) σ B2 H2 s2).mono fun v3 H3 ⟨d3, B3, O3, s3, r3, e3, j, x, q⟩ => ?_
      subst x; cases r3
      exact ⟨j, rfl, q σ B B3 H3 v1 s3 ((e1.trans e2).trans e3) (r1.mono (e2.trans e3) _ _)⟩
/-- a cut of data -/
def cutD (ds : List D) (lo hi : Option Int) : List D := (ds.drop (HT.sIx ds.length 0 lo)).take (HT.sIx ds.length ds.length hi - HT.sIx ds.length 0 lo)
theorem reps_cut {K : PySem.W.Frag} {B : Hp} {ds : List D} {vs : List V} (r : Reps K B ds vs) (lo hi : Option Int) : Reps K B (cutD ds lo hi) (cutV vs lo hi) := by
  unfold cutD cutV
  rw [r.len]
  exact (r.drop _).take _
theorem sl_L {d : D} {ds : List D} {l u : Option Int} {R : D → Own → Prop} (hd : LsAt O d ds ∨ d = .scr ds) (h : R (.lst (cutD ds l u)) O) : ∀ σ B0 B H v, Sts X.K Z B H σ ρ O → Ex B0 B → Rep X.K B d v → rSlL X.K v l u H (RQ X.K Z σ ρ B0 R) := fun σ B0 B H v s e r => by
  have : ∃ a xs, v = .ref a ∧ SqL X.K H a xs ∧ Reps X.K B ds xs := by
    rcases hd with hd | hd
    · obtain ⟨a, xs, ea, h1, h2⟩ := s.ls hd r
      exact ⟨a, xs, ea, SqL.of h1, h2⟩
    · subst hd
      cases r with
      | scr h1 h2 => exact ⟨_, _, rfl, s.gr.bh.l h1, h2⟩
  obtain ⟨a, xs, ea, h1, h2⟩ := this
  subst ea
  refine ⟨a, xs, rfl, h1, fun p hp => ?_⟩
  obtain ⟨s', e'⟩ := s.lay (o := .lst (cutV xs l u)) hp
  exact ⟨_, _, O, s', .lst upd_same ((reps_cut h2 l u).mono e' _ _), e.trans e', h⟩
theorem sl_T {ds : List D} {l u : Option Int} {R : D → Own → Prop} (hn : ¬ (HT.sIx ds.length 0 l = 0 ∧ HT.sIx ds.length ds.length u = ds.length)) (h : R (.tup (cutD ds l u)) O) : ∀ σ B0 B H v, Sts X.K Z B H σ ρ O → Ex B0 B → Rep X.K B (.tup ds) v → rSlT X.K v l u H (RQ X.K Z σ ρ B0 R) := fun σ B0 B H v s e r => by
  obtain ⟨a, xs, ea, h1, h2⟩ := s.tp r
  subst ea
  refine ⟨a, xs, rfl, h1, by rw [← h2.len]; exact hn, fun p hp => ?_⟩
  obtain ⟨s', e'⟩ := s.lay (o := .tup (cutV xs l u)) hp
  exact ⟨_, _, O, s', .tup (SqT.of upd_same) ((reps_cut h2 l u).mono e' _ _), e.trans e', h⟩
theorem sl_S {z : Str} {l u : Option Int} {R : D → Own → Prop} (hz : z.length ≤ 1000000) (h : R (.str (cutS z l u)) O) : ∀ σ B0 B H v, Sts X.K Z B H σ ρ O → Ex B0 B → Rep X.K B (.str z) v → rSlS v l u H (RQ X.K Z σ ρ B0 R) := fun σ B0 B H v s e r => by
  cases r
  exact ⟨z, rfl, small_le hz, _, B, O, s, .str _, e, h⟩
/-- xs[::-1], frozen -/
theorem ex_rev {e : Expr} {k : Nat} {p1 p2 p3 pos : Pos} {R : D → Own → Prop} (h : EX X Z e ρ O fun d O1 => ∃ ds, LsAt O1 d ds ∧ R (.lst ds.reverse) O1) : EX X Z (.Subscript e (.Slice none none (some (.UnaryOp .USub (.Constant (.int 1) k p1) p2)) p3) pos) ρ O R := fun σ B H s => by
  refine EV.of (pe_revL pe_ev) ?_
  refine (h σ B H s).mono fun v1 H1 ⟨d1, B1, O1, s1, r1, e1, ds, hd, q⟩ => ?_
  obtain ⟨a, xs, ea, h1, h2⟩ := s1.ls hd r1
  subst ea
  refine ⟨a, xs, rfl, SqL.of h1, fun p hp => ?_⟩
  obtain ⟨s', e'⟩ := s1.lay (o := .lst xs.reverse) hp
  exact ⟨_, _, O1, s', .lst upd_same (h2.rev.mono e' _ _), e1.trans e', q⟩
/-- xs[::-1], owned -/
theorem ex_revO {e : Expr} {k : Nat} {p1 p2 p3 pos : Pos} {R : D → Own → Prop} (h : EX X Z e ρ O fun d O1 => ∃ ds, LsAt O1 d ds ∧ ∀ p, p ∉ Z.M → p ∉ O1.map (·.1) → R (.raw (.ref p)) ((p, .lst ds.reverse) :: O1)) : EX X Z (.Subscript e (.Slice none none (some (.UnaryOp .USub (.Constant (.int 1) k p1) p2)) p3) pos) ρ O R := fun σ B H s => by
  refine EV.of (pe_revL pe_ev) ?_
  refine (h σ B H s).mono fun v1 H1 ⟨d1, B1, O1, s1, r1, e1, ds, hd, q⟩ => ?_
  obtain ⟨a, xs, ea, h1, h2⟩ := s1.ls hd r1
  subst ea
  exact ⟨a, xs, rfl, SqL.of h1, fun p hp => ⟨_, B1, _, s1.own (c := .lst ds.reverse) hp ⟨_, rfl, h2.rev⟩, .raw _, e1, q p (s1.notM hp) (s1.notO hp)⟩⟩
/-! an instance's fields -/
def D.obj (C : Addr) (fs : List (Str × D)) : D := .ins C (fs.map (·.1)) (fs.map (·.2))
def OC.obj (C : Addr) (fs : List (Str × D)) : OC := .ins C (fs.map (·.1)) (fs.map (·.2))
abbrev RepF (K : PySem.W.Frag) (B : Hp) : List (Str × D) → List (Str × V) → Prop := Paired fun (p : Str × D) (q : Str × V) => p.1 = q.1 ∧ Rep K B p.2 q.2
theorem repF_of {K : PySem.W.Frag} {B : Hp} : ∀ {kvs : List (Str × D)} {ys : List (Str × V)}, ys.map (·.1) = kvs.map (·.1) → Reps K B (kvs.map (·.2)) (ys.map (·.2)) → RepF K B kvs ys
  | [], [], _, _ => .nil
  | [], _ :: _, h, _ => by simp at h
  | _ :: _, [], h, _ => by simp at h
  | (k, d) :: kvs, (k', v) :: ys, h, r => by
    simp only [List.map_cons, List.cons.injEq] at h
    cases r with
    | cons r1 r2 => exact .cons ⟨h.1.symm, r1⟩ (repF_of h.2 r2)
theorem repF_to {K : PySem.W.Frag} {B : Hp} : ∀ {kvs : List (Str × D)} {ys : List (Str × V)}, RepF K B kvs ys → ys.map (·.1) = kvs.map (·.1) ∧ Reps K B (kvs.map (·.2)) (ys.map (·.2))
  | [], _, .nil => ⟨rfl, .nil⟩
  | _ :: _, _, .cons h r => by
    obtain ⟨h1, h2⟩ := repF_to r
    exact ⟨by simp only [List.map_cons, h1, h.1], .cons h.2 h2⟩
theorem RepF.look {K : PySem.W.Frag} {B : Hp} {f : Str} {x : D} : ∀ {kvs : List (Str × D)} {ys : List (Str × V)}, RepF K B kvs ys → kvs.lookup f = some x → ∃ v, ys.lookup f = some v ∧ Rep K B x v
  | [], _, .nil, h => by cases h
  | (k1, d1) :: kvs, (k2, v2) :: ys, .cons h r, e => by
    obtain ⟨h1, h2⟩ := h
    have h1 : k1 = k2 := h1
    subst h1
    rw [List.lookup_cons] at e ⊢
    cases z : f == k1 with
    | true => rw [z] at e; cases e; exact ⟨v2, rfl, h2⟩
    | false => rw [z] at e; exact RepF.look r e
theorem RepF.none {K : PySem.W.Frag} {B : Hp} {f : Str} : ∀ {kvs : List (Str × D)} {ys : List (Str × V)}, RepF K B kvs ys → kvs.lookup f = .none → ys.lookup f = .none
  | [], _, .nil, h => rfl
  | (k1, d1) :: kvs, (k2, v2) :: ys, .cons h r, e => by
    obtain ⟨h1, h2⟩ := h
    have h1 : k1 = k2 := h1
    subst h1
    rw [List.lookup_cons] at e ⊢
    cases z : f == k1 with
    | true => rw [z] at e; cases e
    | false => rw [z] at e; exact RepF.none r e
def InAt (O : Own) (d : D) (C : Addr) (fs : List (Str × D)) : Prop := d = .obj C fs ∨ ∃ p, d = .raw (.ref p) ∧ O.lookup p = some (.obj C fs)
theorem Sts.io {K : PySem.W.Frag} {B H : Hp} {σ : L2.St} {d : D} {v : V} {C : Addr} {fs : List (Str × D)} (s : Sts K Z B H σ ρ O) (h : InAt O d C fs) (r : Rep K B d v) : ∃ a dx ys, v = .ref a ∧ H a = some (.ins C dx ys) ∧ RepF K B fs ys := by
  rcases h with e | ⟨p, e, h⟩
  · subst e
    cases r with
    | ins h1 h2 h3 => exact ⟨_, _, _, rfl, s.gr.bh _ _ h1, repF_of h2 h3⟩
  · subst e
    cases r
    obtain ⟨dx, ys, h1, h2, h3⟩ := s.own_at h
    exact ⟨p, dx, ys, rfl, h1, repF_of h2 h3⟩
theorem ex_fld {e : Expr} {f : Str} {pos : Pos} {C : Addr} {R : D → Own → Prop} (hc : Cls X.K C) (hn : NoAttr X.K C f)
    (h : EX X Z e ρ O fun d O1 => ∃ fs x, InAt O1 d C fs ∧ fs.lookup f = some x ∧ R x O1) (hb : attributeBase e f X.env (eval e X.env) = eval e X.env := by rfl) : EX X Z (.Attribute e f pos) ρ O R := fun σ B H s => by
  refine EV.of (pe_fld pe_ev hb) ?_
  refine (h σ B H s).mono fun v1 H1 ⟨d1, B1, O1, s1, r1, e1, fs, x, hi, hl, q⟩ => ?_
  obtain ⟨a, dx, ys, ea, h1, h2⟩ := s1.io hi r1
  obtain ⟨v, g1, g2⟩ := h2.look hl
  exact ⟨a, C, dx, ys, v, ea, h1, hc, hn, g1, x, B1, O1, s1, g2, e1, q⟩
/-! methods of built-in types -/
theorem ex_bm0 {T id : String} {name : Str} {r : V → List V → Hp → VK → Prop} {o : Expr} {apos cpos : Pos} {R : D → Own → Prop} (pa : PlainAttrs T) (slot : Slot T name id) (hty : typeOf (.builtin id) = pure (.type "method_descriptor")) (hm : MtR X id r)
    (h : EX X Z o ρ O fun d O1 => ∀ σ B0 B H v, Sts X.K Z B H σ ρ O1 → Ex B0 B → Rep X.K B d v → tyV X.K T v H ∧ r v [] H (RQ X.K Z σ ρ B0 R))
    (hbase : attributeBase o name X.env (eval o X.env) = eval o X.env := by rfl) (hline : (apos.endLine == cpos.line) = true := by rfl) : EX X Z (.Call (.Attribute o name apos) [] [] cpos) ρ O R := fun σ B H s => by
  refine EV.of (pe_bm0 pa slot hty hm pe_ev hbase hline) ?_
  exact (h σ B H s).mono fun v1 H1 ⟨d1, B1, O1, s1, r1, e1, q⟩ => q σ B B1 H1 v1 s1 e1 r1
theorem ex_bm {T id : String} {name : Str} {r : V → List V → Hp → VK → Prop} {o e : Expr} {es : List Expr} {apos cpos : Pos} {R : D → Own → Prop} (pa : PlainAttrs T) (slot : Slot T name id) (hty : typeOf (.builtin id) = pure (.type "method_descriptor")) (hm : MtR X id r)
    (h : EX X Z o ρ O fun d O1 => (∀ σ B H v, Sts X.K Z B H σ ρ O1 → Rep X.K B d v → tyV X.K T v H) ∧ EA X Z (e :: es) ρ O1 fun ds O2 => ∀ σ B0 B H v vs, Sts X.K Z B H σ ρ O2 → Ex B0 B → Rep X.K B d v → Reps X.K B ds vs → r v vs H (RQ X.K Z σ ρ B0 R))
    (hbase : attributeBase o name X.env (eval o X.env) = eval o X.env := by rfl)
    (hfew : ((backTo cpos (starEach (e :: es) X.env)).all (fun x => !x.1) && (backToKw cpos (keywordEach [] X.env)).all (fun x => x.1.isSome)
      && decide ((e :: es).length + ([] : List Keyword).length + (if ([] : List Keyword).isEmpty then 0 else 1) < 30)) = true := by rfl)
    (hline : (apos.endLine == cpos.line) = true := by rfl) (hs : starEach (e :: es) X.env = (false, eval e X.env) :: starEach es X.env := by rfl) (hplain : (backTo cpos (starEach es X.env)).any (·.1) = false := by rfl) :
    EX X Z (.Call (.Attribute o name apos) (e :: es) [] cpos) ρ O R := fun σ B H s => by
  refine EV.of (pe_bm pa slot hty hm pe_ev pa_ev hbase hfew hline hs hplain) ?_
  refine (h σ B H s).mono fun v1 H1 ⟨d1, B1, O1, s1, r1, e1, q1, q2⟩ => ⟨q1 σ B1 H1 v1 s1 r1, ?_⟩
  exact (q2 σ B1 H1 s1).mono fun vs H2 ⟨ds, B2, O2, s2, r2, e2, q⟩ => q σ B B2 H2 v1 vs s2 (e1.trans e2) (r1.mono e2 _ _) r2
theorem ty_L {d : D} {ds : List D} (hd : LsAt O d ds) : ∀ σ B H v, Sts X.K Z B H σ ρ O → Rep X.K B d v → tyV X.K "list" v H := fun σ B H v s r => by
  obtain ⟨a, xs, ea, h1, h2⟩ := s.ls hd r
  subst ea
  exact .inl ⟨rfl, _, .inl (.inl h1)⟩
theorem put_one {p : Addr} {c c' : OC} {O : Own} (h : O.lookup p = some c) : p ∈ O.map (·.1) := List.mem_map.mpr ⟨_, mem_addrs h, rfl⟩
theorem ex_append {o e : Expr} {apos cpos : Pos} {R : D → Own → Prop}
    (h : EX X Z o ρ O fun d O1 => ∃ p ds0, d = .raw (.ref p) ∧ O1.lookup p = some (.lst ds0) ∧ EX X Z e ρ O1 fun x O2 => ∃ ds, O2.lookup p = some (.lst ds) ∧ ds.length ≤ 1000000 ∧ R .non (setO O2 p (.lst (ds ++ [x]))))
    (hbase : attributeBase o "append" X.env (eval o X.env) = eval o X.env := by rfl)
    (hfew : ((backTo cpos (starEach [e] X.env)).all (fun x => !x.1) && (backToKw cpos (keywordEach [] X.env)).all (fun x => x.1.isSome)
      && decide (([e] : List Expr).length + ([] : List Keyword).length + (if ([] : List Keyword).isEmpty then 0 else 1) < 30)) = true := by rfl)
    (hline : (apos.endLine == cpos.line) = true := by rfl) (hs : starEach [e] X.env = (false, eval e X.env) :: starEach [] X.env := by rfl) (hplain : (backTo cpos (starEach [] X.env)).any (·.1) = false := by rfl) :
    EX X Z (.Call (.Attribute o "append" apos) [e] [] cpos) ρ O R := by
  refine ex_bm PySem.F.plainAttrs_list PySem.F.slot_list_append PySem.F.type_list_append mt_append (h.mono fun d O1 ⟨p, ds0, x, hp, q⟩ => ?_) hbase hfew hline hs hplain
  subst x
  refine ⟨ty_L (.ow hp), ea_cons (q.mono fun x O2 ⟨ds, hl, hz, q⟩ => ea_nil ?_) hs⟩
  intro σ B0 B H v vs s e r rs
  cases r
  cases rs with
  | cons r1 r2 =>
    cases r2
    rename_i v2
    obtain ⟨xs, h1, h2⟩ := s.own_at hl
    refine ⟨p, xs, v2, rfl, rfl, h1, Nat.lt_of_lt_of_le (Nat.lt_succ_of_le (by rw [← h2.len]; exact hz)) (by rw [sizeLine_eq]; decide), ?_⟩
    exact ⟨_, B, _, s.put (c := .lst (ds ++ [x])) (put_one (c' := .lst []) hl) ⟨_, rfl, h2.append (.cons r1 .nil)⟩, .non, e, q⟩
/-- xs.pop() -/
theorem ex_pop {o : Expr} {apos cpos : Pos} {R : D → Own → Prop}
    (h : EX X Z o ρ O fun d O1 => ∃ p ds x, d = .raw (.ref p) ∧ O1.lookup p = some (.lst (ds ++ [x])) ∧ R x (setO O1 p (.lst ds)))
    (hbase : attributeBase o "pop" X.env (eval o X.env) = eval o X.env := by rfl) (hline : (apos.endLine == cpos.line) = true := by rfl) : EX X Z (.Call (.Attribute o "pop" apos) [] [] cpos) ρ O R := by
  refine ex_bm0 PySem.F.plainAttrs_list PySem.F.slot_list_pop PySem.F.type_list_pop mt_pop (h.mono fun d O1 ⟨p, ds, x, ed, hp, q⟩ => ?_) hbase hline
  subst ed
  intro σ B0 B H v s e r
  refine ⟨ty_L (.ow hp) σ B H v s r, ?_⟩
  cases r
  obtain ⟨xs, h1, h2⟩ := s.own_at hp
  have hl : xs.length = ds.length + 1 := by rw [← h2.len]; simp
  obtain ⟨v, h3, h4⟩ := h2.get (i := ds.length) (d := x) (by simp)
  refine ⟨p, xs, v, rfl, rfl, h1, by rw [hl]; simpa using h3, ?_⟩
  refine ⟨x, B, _, s.put (c := .lst ds) (put_one (c' := .lst []) hp) ⟨_, rfl, ?_⟩, h4, e, q⟩
  have e1 : xs.dropLast = xs.take ds.length := by rw [List.dropLast_eq_take, hl]; simp
  rw [e1]
  have := h2.take ds.length
  rwa [List.take_left'] at this
  rfl
end
end PD

set_option Elab.async false
set_option linter.all false
set_option autoImplicit false
set_option maxRecDepth 100000
set_option maxHeartbeats 2000000
/-! PD, part E: targets, statements, loops. -/
namespace PD
open PySem PySem.Spec L2
open PyProof.Rows hiding St

section
variable {X : Cx} {Z : Zn} {ρ : Slots} {O : Own} {E : En}
theorem SQ.back {K : PySem.W.Frag} {B B' : Hp} {R : Slots → Own → Prop} (e : Ex B B') {σ : L2.St} {H : Hp} (h : SQ K Z B' R σ H) : SQ K Z B R σ H := by
  obtain ⟨B2, ρ', O', s', b, z⟩ := h
  exact ⟨B2, ρ', O', s', e.trans b, z⟩
theorem EVS.mono {st : Stmt} {σ : L2.St} {H : Hp} {D D' : Ends} (h : EVS X st σ H D) (n : ∀ σ' H', D.nx σ' H' → D'.nx σ' H') (r : ∀ v H', D.rt v H' → D'.rt v H') (b : ∀ σ' H', D.bk σ' H' → D'.bk σ' H') (c : ∀ σ' H', D.ct σ' H' → D'.ct σ' H') : EVS X st σ H D' := fun pins s I =>
  thn (h pins s I) fun f s' q => by
    cases f with
    | next => obtain ⟨σ', H', I', z⟩ := q; exact ⟨σ', H', I', n _ _ z⟩
    | brk => obtain ⟨σ', H', I', z⟩ := q; exact ⟨σ', H', I', b _ _ z⟩
    | cont => obtain ⟨σ', H', I', z⟩ := q; exact ⟨σ', H', I', c _ _ z⟩
    | ret u => obtain ⟨v, σ', H', I', rv, z⟩ := q; exact ⟨v, σ', H', I', rv, r _ _ z⟩
theorem EVSs.mono {st : List Stmt} {σ : L2.St} {H : Hp} {D D' : Ends} (h : EVSs X st σ H D) (n : ∀ σ' H', D.nx σ' H' → D'.nx σ' H') (r : ∀ v H', D.rt v H' → D'.rt v H') (b : ∀ σ' H', D.bk σ' H' → D'.bk σ' H') (c : ∀ σ' H', D.ct σ' H' → D'.ct σ' H') : EVSs X st σ H D' := fun pins s I =>
  thn (h pins s I) fun f s' q => by
    cases f with
    | next => obtain ⟨σ', H', I', z⟩ := q; exact ⟨σ', H', I', n _ _ z⟩
    | brk => obtain ⟨σ', H', I', z⟩ := q; exact ⟨σ', H', I', b _ _ z⟩
    | cont => obtain ⟨σ', H', I', z⟩ := q; exact ⟨σ', H', I', c _ _ z⟩
    | ret u => obtain ⟨v, σ', H', I', rv, z⟩ := q; exact ⟨v, σ', H', I', rv, r _ _ z⟩
theorem EVG.mono {tg : Expr} {v : V} {σ : L2.St} {H : Hp} {Q Q' : L2.St → Hp → Prop} (h : EVG X tg v σ H Q) (q : ∀ σ' H', Q σ' H' → Q' σ' H') : EVG X tg v σ H Q' := fun pins s u I r =>
  thn (h pins s u I r) fun _ s' ⟨σ', H', I', z⟩ => ⟨σ', H', I', q _ _ z⟩
/-- the ends of a longer state are those of the shorter -/
theorem SE.nx_back {K : PySem.W.Frag} {B B' : Hp} (e : Ex B B') (σ' : L2.St) (H' : Hp) (h : (SE K Z B' E).nx σ' H') : (SE K Z B E).nx σ' H' := SQ.back e h
theorem SE.rt_back {K : PySem.W.Frag} {B B' : Hp} (e : Ex B B') (v : V) (H' : Hp) (h : (SE K Z B' E).rt v H') : (SE K Z B E).rt v H' := by
  obtain ⟨d, σ', B2, ρ', O', s', r, b, q⟩ := h
  exact ⟨d, σ', B2, ρ', O', s', r, e.trans b, q⟩
theorem SE.bk_back {K : PySem.W.Frag} {B B' : Hp} (e : Ex B B') (σ' : L2.St) (H' : Hp) (h : (SE K Z B' E).bk σ' H') : (SE K Z B E).bk σ' H' := SQ.back e h
theorem SE.ct_back {K : PySem.W.Frag} {B B' : Hp} (e : Ex B B') (σ' : L2.St) (H' : Hp) (h : (SE K Z B' E).ct σ' H') : (SE K Z B E).ct σ' H' := SQ.back e h
theorem SX.from {st : List Stmt} {B B' H : Hp} {σ : L2.St} {ρ' : Slots} {O' : Own} (h : SX X Z st ρ' O' E) (s : Sts X.K Z B' H σ ρ' O') (e : Ex B B') : EVSs X st σ H (SE X.K Z B E) :=
  EVSs.mono (h σ B' H s) (SE.nx_back e) (SE.rt_back e) (SE.bk_back e) (SE.ct_back e)
theorem S1.from {st : Stmt} {B B' H : Hp} {σ : L2.St} {ρ' : Slots} {O' : Own} (h : S1 X Z st ρ' O' E) (s : Sts X.K Z B' H σ ρ' O') (e : Ex B B') : EVS X st σ H (SE X.K Z B E) :=
  EVS.mono (h σ B' H s) (SE.nx_back e) (SE.rt_back e) (SE.bk_back e) (SE.ct_back e)
theorem SX.mono {st : List Stmt} {E E' : En} (h : SX X Z st ρ O E) (n : ∀ ρ' O', E.nx ρ' O' → E'.nx ρ' O') (r : ∀ d O', E.rt d O' → E'.rt d O') (b : ∀ ρ' O', E.bk ρ' O' → E'.bk ρ' O') (c : ∀ ρ' O', E.ct ρ' O' → E'.ct ρ' O') : SX X Z st ρ O E' := fun σ B H s =>
  EVSs.mono (h σ B H s) (fun _ _ ⟨B', ρ', O', s', e, q⟩ => ⟨B', ρ', O', s', e, n _ _ q⟩) (fun _ _ ⟨d, σ', B', ρ', O', s', rr, e, q⟩ => ⟨d, σ', B', ρ', O', s', rr, e, r _ _ q⟩)
    (fun _ _ ⟨B', ρ', O', s', e, q⟩ => ⟨B', ρ', O', s', e, b _ _ q⟩) (fun _ _ ⟨B', ρ', O', s', e, q⟩ => ⟨B', ρ', O', s', e, c _ _ q⟩)
/-! less may be known -/
theorem SX.fewer {st : List Stmt} {ρ' : Slots} {O' : Own} (h : SX X Z st ρ' O' E) (f : Fewer ρ' ρ) (o : O'.Sublist O) : SX X Z st ρ O E := fun σ B H s => h σ B H ((s.fewer f).drop o)

/-! targets -/
theorem gx_name {i : Nat} {x : Str} {pos : Pos} {d : D} {R : Slots → Own → Prop} (h : R (ρ.set i (some d)) O) (hN : X.N.Nodup := by assumption) (hi : X.N[i]? = some x := by rfl) (hx : Loc X.env.scope x := by first | exact Or.inl rfl | exact Or.inr rfl)
    (hf : X.fn x = true ∨ X.env.scope.names.lookup x = some .local := by first | exact .inl rfl | exact .inr rfl) : GX X Z (.Name x pos) d ρ O R := fun σ B H v s r => by
  intro pins s0 u I rv
  have hl : i < σ.length := by rw [I.len]; exact (List.getElem?_eq_some_iff.mp hi).1
  exact (pg_name (pos := pos) hN hi hx hf).run pins s0 σ H v u _ I rv ⟨B, _, O, s.set hl r, Ex.refl _, h⟩
/-- targets one after another -/
def GXs (X : Cx) (Z : Zn) (tgs : List Expr) (ds : List D) (ρ : Slots) (O : Own) (R : Slots → Own → Prop) : Prop := ∀ σ B H vs, Sts X.K Z B H σ ρ O → Reps X.K B ds vs → ∀ pins s us, Inv X pins σ H s → Vals vs us →
  wpAny (model X.prog X.w) X.A (assignInOrder ((assignEach tgs X.env).map (·.2)) us) (fun _ s' => ∃ σ' H', Inv X pins σ' H' s' ∧ SQ X.K Z B R σ' H') X.xe s
theorem gxs_nil {R : Slots → Own → Prop} (h : R ρ O) : GXs X Z [] [] ρ O R := fun σ B H vs s r pins s0 us I rv => by
  cases r
  exact pgs_nil.run pins s0 σ H [] us _ I rv ⟨rfl, B, ρ, O, s, Ex.refl _, h⟩
theorem gxs_cons {e : Expr} {es : List Expr} {d : D} {ds : List D} {R : Slots → Own → Prop} (h : GX X Z e d ρ O fun ρ' O' => GXs X Z es ds ρ' O' R)
    (hs : (assignEach (e :: es) X.env).map (·.2) = assign e X.env :: (assignEach es X.env).map (·.2) := by rfl) : GXs X Z (e :: es) (d :: ds) ρ O R := fun σ B H vs s r pins s0 us I rv => by
  cases r with
  | cons r1 r2 =>
    cases rv with
    | cons q1 q2 =>
      rw [hs]
      refine assignInOrder_cons (thn (h σ B H _ s r1 pins s0 _ I q1) fun _ s1 ⟨σ1, H1, I1, B1, ρ1, O1, s1', e1, q⟩ => ?_)
      refine thn (q σ1 B1 H1 _ s1' (r2.mono e1 _ _) pins s1 _ I1 q2) fun _ s2 ⟨σ2, H2, I2, z⟩ => ⟨σ2, H2, I2, z.back e1⟩
theorem gx_tup {es : List Expr} {k : Nat} {pos : Pos} {ds : List D} {R : Slots → Own → Prop} (hc : X.calm = true) (h : GXs X Z es ds ρ O R)
    (hn : (assignEach es X.env).length = ds.length := by rfl) (hst : (assignEach es X.env).findIdx? (·.1) = none := by rfl) : GX X Z (.Tuple es k pos) (.tup ds) ρ O R := fun σ B H v s r => by
  obtain ⟨a, xs, ea, h1, h2⟩ := s.tp r
  subst ea
  refine EVG.of (pg_tup (t := fun vs σ H Q => vs = xs ∧ ∀ pins s us, Inv X pins σ H s → Vals vs us → wpAny (model X.prog X.w) X.A (assignInOrder ((assignEach es X.env).map (·.2)) us) (fun _ s' => ∃ σ' H', Inv X pins σ' H' s' ∧ Q σ' H') X.xe s) (n := ds.length) hc ⟨fun pins s0 σ H vs us Q I rv q => q.2 pins s0 us I rv⟩ hn hst) ?_
  exact ⟨a, xs, rfl, h1, h2.len.symm, rfl, fun pins s0 us I rv => h σ B H xs s h2 pins s0 us I rv⟩
/-- (a, b) = a list of that length -/
theorem gx_unl {es : List Expr} {k : Nat} {pos : Pos} {d : D} {ds : List D} {R : Slots → Own → Prop} (hc : X.calm = true) (hd : LsAt O d ds) (h : GXs X Z es ds ρ O R)
    (hn : (assignEach es X.env).length = ds.length := by rfl) (hst : (assignEach es X.env).findIdx? (·.1) = none := by rfl) : GX X Z (.Tuple es k pos) d ρ O R := fun σ B H v s r => by
  obtain ⟨a, xs, ea, h1, h2⟩ := s.ls hd r
  subst ea
  refine EVG.of (pg_unl (t := fun vs σ H Q => vs = xs ∧ ∀ pins s us, Inv X pins σ H s → Vals vs us → wpAny (model X.prog X.w) X.A (assignInOrder ((assignEach es X.env).map (·.2)) us) (fun _ s' => ∃ σ' H', Inv X pins σ' H' s' ∧ Q σ' H') X.xe s) (n := ds.length) hc ⟨fun pins s0 σ H vs us Q I rv q => q.2 pins s0 us I rv⟩ hn hst) ?_
  exact ⟨a, xs, rfl, SqL.of h1, h2.len.symm, rfl, fun pins s0 us I rv => h σ B H xs s h2 pins s0 us I rv⟩
/-- xs[i] = x, the list owned -/
theorem gx_setL {o i : Expr} {pos : Pos} {d : D} {R : Slots → Own → Prop}
    (h : EX X Z o ρ O fun d1 O1 => EX X Z i ρ O1 fun d2 O2 => ∃ p ds k j, d1 = .raw (.ref p) ∧ d2 = .int k ∧ O2.lookup p = some (.lst ds) ∧ ixN ds.length k = some j ∧ R ρ (setO O2 p (.lst (ds.set j d))))
    (ha : ∀ v, assign (.Subscript o i pos) X.env v = (do
      let ov ← holding [v] (eval o X.env)
      let iv ← holding [v, ov] (eval i X.env)
      standAt pos
      holding [v, ov, iv] (setItem ov iv v)
      release [v, ov, iv] []) := by intro _; rfl) : GX X Z (.Subscript o i pos) d ρ O R := fun σ B H v s r => by
  refine EVG.of (pg_sub pe_ev pe_ev set_list ha) ?_
  refine (h σ B H s).mono fun v1 H1 ⟨d1, B1, O1, s1, r1, e1, q1⟩ => ?_
  refine (q1 σ B1 H1 s1).mono fun v2 H2 ⟨d2, B2, O2, s2, r2, e2, p, ds, k, j, x1, x2, hl, hj, q⟩ => ?_
  subst x1 x2
  cases r1; cases r2
  obtain ⟨xs, g1, g2⟩ := s2.own_at hl
  exact ⟨p, xs, k, j, rfl, rfl, g1, by rw [← g2.len]; exact hj, B2, ρ, _, s2.put (c := .lst (ds.set j d)) (List.mem_map.mpr ⟨_, mem_addrs hl, rfl⟩) ⟨_, rfl, g2.set (r.mono (e1.trans e2) _ _) j⟩, e1.trans e2, q⟩

/-! blocks -/
theorem sx_nil (h : E.nx ρ O) : SX X Z [] ρ O E := fun σ B H s => EVSs.of pss_nil ⟨B, ρ, O, s, Ex.refl _, h⟩
theorem sx_cons {st : Stmt} {rest : List Stmt} (h : S1 X Z st ρ O { E with nx := fun ρ' O' => SX X Z rest ρ' O' E }) : SX X Z (st :: rest) ρ O E := fun σ B H s => by
  refine EVSs.of (pss_cons ps_ev pss_ev) ?_
  exact EVS.mono (h σ B H s) (fun σ' H' ⟨B', ρ', O', s', e, q⟩ => SX.from q s' e) (fun _ _ q => q) (fun _ _ q => q) (fun _ _ q => q)
theorem sx_one {st : Stmt} (h : S1 X Z st ρ O E) : SX X Z [st] ρ O E := fun σ B H s => EVSs.of (pss_one ps_ev) (h σ B H s)
theorem s1_asg {tg e : Expr} {pos : Pos} (h : EX X Z e ρ O fun d O1 => GX X Z tg d ρ O1 E.nx)
    (hs : swapsWithSole [tg] e pos.line X.env = pure false := by rfl) (hw : swappedStores [tg] e X.env = pure none := by rfl)
    (h1 : (assignEach [tg] X.env).map (·.2) = [assign tg X.env] := by rfl) : S1 X Z (.Assign [tg] e pos) ρ O E := fun σ B H s => by
  refine EVS.of (ps_asg pe_ev pg_ev hs hw h1) ?_
  refine (h σ B H s).mono fun v1 H1 ⟨d1, B1, O1, s1, r1, e1, q⟩ => ?_
  exact EVG.mono (q σ B1 H1 v1 s1 r1) fun σ' H' z => z.back e1
theorem s1_set {i : Nat} {x : Str} {e : Expr} {pos pos' : Pos} (hN : X.N.Nodup) (h : EX X Z e ρ O fun d O1 => E.nx (ρ.set i (some d)) O1) (hi : X.N[i]? = some x := by rfl) (hx : Loc X.env.scope x := by first | exact Or.inl rfl | exact Or.inr rfl)
    (hs : swapsWith e (some (.Name x pos')) pos.line X.env = pure false := by rfl) (hf : X.fn x = true ∨ X.env.scope.names.lookup x = some .local := by first | exact .inl rfl | exact .inr rfl) : S1 X Z (.Assign [.Name x pos'] e pos) ρ O E := fun σ B H s => by
  intro pins s0 I
  have hl : i < σ.length := by rw [I.len]; exact (List.getElem?_eq_some_iff.mp hi).1
  refine (ps_set hN hi hx pe_ev hs hf).run pins s0 σ H _ I ?_
  refine (h σ B H s).mono fun v1 H1 ⟨d1, B1, O1, s1, r1, e1, q⟩ => ?_
  exact ⟨B1, _, O1, s1.set hl r1, e1, q⟩
theorem s1_augI {op : Operator} {f : Int → Int → Int} {i : Nat} {x : Str} {e : Expr} {pos pos' : Pos} (hN : X.N.Nodup) (ho : PIp X op (ipI f)) (h : EX X Z e ρ O fun d O1 => ∃ a b, ρ[i]? = some (some (.int a)) ∧ d = .int b ∧ E.nx (ρ.set i (some (.int (f a b)))) O1) {a0 : Int} (ha : ρ[i]? = some (some (.int a0)))
    (hi : X.N[i]? = some x := by rfl) (hx : Loc X.env.scope x := by first | exact Or.inl rfl | exact Or.inr rfl) (hf : X.fn x = true ∨ X.env.scope.names.lookup x = some .local := by first | exact .inl rfl | exact .inr rfl) : S1 X Z (.AugAssign (.Name x pos') op e pos) ρ O E := fun σ B H s => by
  intro pins s0 I
  have hl : i < σ.length := by rw [I.len]; exact (List.getElem?_eq_some_iff.mp hi).1
  refine (ps_aug hN hi hx pe_ev ho hf).run pins s0 σ H _ I ?_
  obtain ⟨v, hv, rv⟩ := s.sl i _ ha
  cases rv
  refine ⟨_, hv, ?_⟩
  refine (h σ B H s).mono fun v1 H1 ⟨d1, B1, O1, s1, r1, e1, a, b, z1, z2, q⟩ => ?_
  rw [ha] at z1
  cases z1
  subst z2
  cases r1
  exact ⟨a0, b, rfl, rfl, B1, _, O1, s1.set hl (.int _), e1, q⟩
theorem s1_expr {e : Expr} {pos : Pos} (h : EX X Z e ρ O fun _ O1 => E.nx ρ O1) (hs : swapsWith e none pos.line X.env = pure false := by rfl) : S1 X Z (.Expr e pos) ρ O E := fun σ B H s => by
  refine EVS.of (ps_expr pe_ev hs) ?_
  exact (h σ B H s).mono fun v1 H1 ⟨d1, B1, O1, s1, r1, e1, q⟩ => ⟨B1, ρ, O1, s1, e1, q⟩
theorem s1_ret {e : Expr} {pos : Pos} (h : EX X Z e ρ O E.rt) : S1 X Z (.Return (some e) pos) ρ O E := fun σ B H s => by
  refine EVS.of (ps_ret pe_ev) ?_
  exact (h σ B H s).mono fun v1 H1 ⟨d1, B1, O1, s1, r1, e1, q⟩ => ⟨d1, σ, B1, ρ, O1, s1, r1, e1, q⟩
theorem s1_retN {pos : Pos} (h : E.rt .non O) : S1 X Z (.Return none pos) ρ O E := fun σ B H s => EVS.of ps_retN ⟨.non, σ, B, ρ, O, s, .non, Ex.refl _, h⟩
theorem s1_if {c : Expr} {a b : List Stmt} {pos : Pos} (h : ET X Z c ρ O fun k O1 => (k = true → SX X Z a ρ O1 E) ∧ (k = false → SX X Z b ρ O1 E)) : S1 X Z (.If c a b pos) ρ O E := fun σ B H s => by
  refine EVS.of (ps_if pt_ev pss_ev pss_ev) ?_
  refine (h σ B H s).mono fun k H1 ⟨B1, O1, s1, e1, q1, q2⟩ => ?_
  cases k with
  | true => rw [if_pos rfl]; exact SX.from (q1 rfl) s1 e1
  | false => rw [if_neg Bool.false_ne_true]; exact SX.from (q2 rfl) s1 e1
theorem s1_pass {pos : Pos} (h : E.nx ρ O) : S1 X Z (.Pass pos) ρ O E := fun σ B H s => EVS.of ps_pass ⟨B, ρ, O, s, Ex.refl _, h⟩
theorem s1_break {pos : Pos} (h : E.bk ρ O) : S1 X Z (.Break pos) ρ O E := fun σ B H s => EVS.of ps_break ⟨B, ρ, O, s, Ex.refl _, h⟩
theorem s1_cont {pos : Pos} (h : E.ct ρ O) : S1 X Z (.Continue pos) ρ O E := fun σ B H s => EVS.of ps_continue ⟨B, ρ, O, s, Ex.refl _, h⟩
theorem s1_dput {o i value : Expr} {pos pos' : Pos} (hu : X.A.units + 1 < cLine)
    (h : EX X Z value ρ O fun d O1 => EX X Z o ρ O1 fun d1 O2 => EX X Z i ρ O2 fun d2 O3 => ∃ p kvs k, d1 = .raw (.ref p) ∧ O3.lookup p = some (.dct kvs) ∧ keyD d2 = some k ∧ kvs.length ≤ 1000000 ∧ E.nx ρ (setO O3 p (.dct (dput kvs k d))))
    (hs : swapsWith value (some (.Subscript o i pos')) pos.line X.env = pure false := by rfl) : S1 X Z (.Assign [.Subscript o i pos'] value pos) ρ O E := fun σ B H s => by
  refine EVS.of (ps_dput hu pe_ev pe_ev pe_ev hs) ?_
  refine (h σ B H s).mono fun v H1 ⟨d, B1, O1, s1, r1, e1, q1⟩ => ?_
  refine EV.mono (q1 σ B1 H1 s1) fun v1 H2 ⟨d1, B2, O2, s2, r2, e2, q2⟩ => ?_
  refine EV.mono (q2 σ B2 H2 s2) fun v2 H3 ⟨d2, B3, O3, s3, r3, e3, p, kvs, k, x1, hl, hk, hz, q⟩ => ?_
  subst x1
  cases r2
  have ek := rep_key r3 hk
  subst ek
  obtain ⟨ys, g1, g2, g3⟩ := s3.own_at hl
  have rk := repKV_of g2 g3
  refine ⟨p, _, rfl, DPut.k g1 (Nat.lt_of_lt_of_le (Nat.lt_succ_of_le (by rw [← rk.len]; exact hz)) (by rw [sizeLine_eq]; decide)), B3, ρ, _, s3.put (c := .dct (dput kvs k d)) (List.mem_map.mpr ⟨_, mem_addrs hl, rfl⟩) ?_, (e1.trans e2).trans e3, q⟩
  have rp := rk.put k (r1.mono (e2.trans e3) _ _)
  exact ⟨_, rfl, (repKV_to rp).1, (repKV_to rp).2⟩
/-- self.f = e, the instance owned -/
theorem s1_fld {o value : Expr} {f : Str} {pos pos' : Pos} {C : Addr} (hc : Cls X.K C) (hn : NoAttr X.K C f)
    (h : EX X Z value ρ O fun d O1 => EX X Z o ρ O1 fun d1 O2 => ∃ p fs, d1 = .raw (.ref p) ∧ O2.lookup p = some (.obj C fs) ∧ fs.length ≤ 900 ∧ fs.lookup f = none ∧ E.nx ρ (setO O2 p (.obj C (fs ++ [(f, d)]))))
    (hs : swapsWith value (some (.Attribute o f pos')) pos.line X.env = pure false := by rfl) : S1 X Z (.Assign [.Attribute o f pos'] value pos) ρ O E := fun σ B H s => by
  refine EVS.of (ps_fld pe_ev pe_ev hs) ?_
  refine (h σ B H s).mono fun v H1 ⟨d, B1, O1, s1, r1, e1, q1⟩ => ?_
  refine EV.mono (q1 σ B1 H1 s1) fun v1 H2 ⟨d1, B2, O2, s2, r2, e2, p, fs, x1, hl, hz, hf, q⟩ => ?_
  subst x1
  cases r2
  obtain ⟨dx, ys, g1, g2, g3⟩ := s2.own_at hl
  have rf := repF_of g2 g3
  have hy : ys.lookup f = none := rf.none hf
  have hlen : fs.length = ys.length := by
    have := congrArg List.length g2
    simpa using this.symm
  have ep : ∀ zs : List (Str × V), zs.lookup f = none → putF f v zs = zs ++ [(f, v)] := by
    intro zs
    induction zs with
    | nil => intro _; rfl
    | cons z zs ih =>
      intro hz
      obtain ⟨g, w⟩ := z
      rw [List.lookup_cons] at hz
      cases hb : f == g with
      | true => rw [hb] at hz; cases hz
      | false =>
        rw [hb] at hz
        have ne : ¬ g = f := fun e => by subst e; simp at hb
        unfold putF
        rw [if_neg ne, ih hz]
        rfl
  refine ⟨p, C, dx, ys, rfl, g1, hc, hn, by omega, B2, ρ, _, s2.put (c := .obj C (fs ++ [(f, d)])) (List.mem_map.mpr ⟨_, mem_addrs hl, rfl⟩) ?_, e1.trans e2, q⟩
  rw [ep ys hy]
  refine ⟨dx, _, rfl, ?_, ?_⟩
  · rw [List.map_append, List.map_append, g2]; rfl
  · rw [List.map_append, List.map_append]; exact g3.append (.cons (r1.mono e2 _ _) .nil)
/-- while -/
theorem s1_while {c : Expr} {body : List Stmt} {pos : Pos} (hp : PassesOwn (model X.prog X.w) X.A X.env X.xe) (W : Nat → Slots → Own → Prop) (m0 : Nat) (h0 : W m0 ρ O)
    (h : ∀ m ρ' O', W m ρ' O' → ET X Z c ρ' O' fun k O1 => (k = true → SX X Z body ρ' O1 { nx := fun ρ2 O2 => ∃ m', m' < m ∧ W m' ρ2 O2, ct := fun ρ2 O2 => ∃ m', m' < m ∧ W m' ρ2 O2, bk := E.nx, rt := E.rt }) ∧ (k = false → E.nx ρ' O1)) :
    S1 X Z (.While c body [] pos) ρ O E := fun σ B H s => by
  refine EVS.of (ps_while hp pt_ev pss_ev) ?_
  refine ⟨fun m σ' H' => ∃ B' ρ' O', Sts X.K Z B' H' σ' ρ' O' ∧ Ex B B' ∧ W m ρ' O', ⟨m0, B, ρ, O, s, Ex.refl _, h0⟩, fun m σ1 H1 ⟨B1, ρ1, O1, s1, e1, w⟩ => ?_⟩
  refine (h m ρ1 O1 w σ1 B1 H1 s1).mono fun k H2 ⟨B2, O2, s2, e2, q1, q2⟩ => ?_
  cases k with
  | true =>
    rw [if_pos rfl]
    refine ⟨fun σ' H' => ∃ m', m' < m ∧ ∃ B' ρ' O', Sts X.K Z B' H' σ' ρ' O' ∧ Ex B B' ∧ W m' ρ' O', fun _ _ z => z, ?_⟩
    refine EVSs.mono (q1 rfl σ1 B2 H2 s2) (fun σ' H' ⟨B', ρ', O', s', e, m', hm, z⟩ => ⟨m', hm, B', ρ', O', s', (e1.trans e2).trans e, z⟩) (SE.rt_back (E := E) (e1.trans e2)) (SE.nx_back (E := E) (e1.trans e2)) (fun σ' H' ⟨B', ρ', O', s', e, m', hm, z⟩ => ⟨m', hm, B', ρ', O', s', (e1.trans e2).trans e, z⟩)
  | false =>
    rw [if_neg Bool.false_ne_true]
    exact ⟨B2, ρ1, O2, s2, e1.trans e2, q2 rfl⟩

/-! what is walked -/
def EVI (X : Cx) (tg iter : Expr) (σ : L2.St) (H : Hp) (R : It → Hp → Prop) : Prop := ∀ pins s, Inv X pins σ H s → wpAny (model X.prog X.w) X.A (eval iter X.env) (fun v s1 => wpAny (model X.prog X.w) X.A (pyIter v) (PIE X pins σ tg R) X.xe s1) X.xe s
theorem pi_ev {X : Cx} {tg iter : Expr} : PI X tg iter (fun σ H R => EVI X tg iter σ H R) := ⟨fun pins s σ H R I h => h pins s I⟩
theorem EVI.of {tg iter : Expr} {wi : TI} {σ : L2.St} {H : Hp} {R : It → Hp → Prop} (p : PI X tg iter wi) (h : wi σ H R) : EVI X tg iter σ H R := fun pins s I => p.run pins s σ H R I h
/-- the iterator J gives ds, one after the other, wherever Gd holds of what is owned -/
structure Walk (K : PySem.W.Frag) (Z : Zn) (J : It) (ds : List D) (Gd : Own → Prop) (B0 : Hp) : Prop where
  go : ∀ i B H σ ρ O, Sts K Z B H σ ρ O → Ex B0 B → Gd O → i < ds.length → J.go i H
  stop : ∀ i B H σ ρ O, Sts K Z B H σ ρ O → Ex B0 B → Gd O → i = ds.length → J.stop i H
  yld : ∀ i B H σ ρ O x H' d, Sts K Z B H σ ρ O → Ex B0 B → Gd O → ds[i]? = some d → J.yld i H x H' → ∃ B', Grow [] B H B' H' ∧ Rep K B' d x
def IX (X : Cx) (Z : Zn) (tg iter : Expr) (ρ : Slots) (O : Own) (R : List D → (Own → Prop) → Own → Prop) : Prop := ∀ σ B H, Sts X.K Z B H σ ρ O →
  EVI X tg iter σ H fun J H' => ∃ ds Gd B' O', Sts X.K Z B' H' σ ρ O' ∧ Ex B B' ∧ Walk X.K Z J ds Gd B' ∧ R ds Gd O'
theorem s1_for {tg iter : Expr} {body : List Stmt} {pos : Pos} (hp : PassesOwn (model X.prog X.w) X.A X.env X.xe) (hc : X.calm = true)
    (h : IX X Z tg iter ρ O fun ds Gd O1 => ∃ Iv : Nat → Slots → Own → Prop, Iv 0 ρ O1 ∧ (∀ i ρ' O', Iv i ρ' O' → Gd O') ∧
      (∀ (i : Nat) (d : D) ρ' O', ds[i]? = some d → Iv i ρ' O' → GX X Z tg d ρ' O' fun ρ2 O2 => SX X Z body ρ2 O2 { nx := Iv (i + 1), ct := Iv (i + 1), bk := E.nx, rt := E.rt }) ∧ (∀ ρ' O', Iv ds.length ρ' O' → E.nx ρ' O'))
    (hs : ∀ x, foldedSetIterable iter X.env x = pure x := by intro _; rfl) : S1 X Z (.For tg iter body [] pos) ρ O E := fun σ B H s => by
  refine EVS.of (ps_for hp hc pi_ev pg_ev pss_ev hs) ?_
  intro pins s0 I
  refine thn (h σ B H s pins s0 I) fun v s1 h1 => thn h1 fun itv s2 ⟨it, fp, tn, J, H', e1, I2, T, st, fpk, ds, Gd, B1, O1, s1', eB, Wk, Iv, h0, hg, turn, hend⟩ => ?_
  refine ⟨it, fp, tn, J, H', e1, I2, T, st, fpk, ?_⟩
  refine ⟨fun i m σ' H' => m = ds.length - i ∧ i ≤ ds.length ∧ ∃ B' ρ' O', Sts X.K Z B' H' σ' ρ' O' ∧ Ex B1 B' ∧ Iv i ρ' O', ⟨ds.length, by simp, Nat.zero_le _, B1, ρ, O1, s1', Ex.refl _, h0⟩, ?_⟩
  rintro i m σ2 H2 ⟨rfl, hi, B2, ρ2, O2, s2', e2, iv⟩
  by_cases hlt : i < ds.length
  · refine .inr ⟨Wk.go i B2 H2 σ2 ρ2 O2 s2' e2 (hg _ _ _ iv) hlt, fun σ' H' => ∃ B' ρ' O', Sts X.K Z B' H' σ' ρ' O' ∧ Ex B1 B' ∧ Iv (i + 1) ρ' O', fun σ' H' z => ⟨ds.length - (i + 1), by omega, rfl, hlt, z⟩, fun x H3 y => ?_⟩
    obtain ⟨B3, g3, r3⟩ := Wk.yld i B2 H2 σ2 ρ2 O2 x H3 _ s2' e2 (hg _ _ _ iv) (List.getElem?_eq_getElem hlt) y
    refine EVG.mono (turn i _ ρ2 O2 (List.getElem?_eq_getElem hlt) iv σ2 B3 H3 x (s2'.grow g3) r3) fun σ4 H4 ⟨B4, ρ4, O4, s4, e4, q⟩ => ?_
    have e14 := (e2.trans g3.bb).trans e4
    refine EVSs.mono (q σ4 B4 H4 s4) (fun σ' H' ⟨B', ρ', O', s', e, z⟩ => ⟨B', ρ', O', s', e14.trans e, z⟩) (SE.rt_back (E := E) (eB.trans e14)) (SE.nx_back (E := E) (eB.trans e14)) (fun σ' H' ⟨B', ρ', O', s', e, z⟩ => ⟨B', ρ', O', s', e14.trans e, z⟩)
  · have e : i = ds.length := by omega
    subst e
    exact .inl ⟨Wk.stop _ B2 H2 σ2 ρ2 O2 s2' e2 (hg _ _ _ iv) rfl, B2, ρ2, O2, s2', eB.trans e2, hend _ _ iv⟩
theorem ix_tup {tg l : Expr} {R : List D → (Own → Prop) → Own → Prop} (h : EX X Z l ρ O fun d O1 => ∃ ds, d = .tup ds ∧ R ds (fun _ => True) O1) : IX X Z tg l ρ O R := fun σ B H s => by
  refine EVI.of (pi_tup pe_ev) ?_
  refine (h σ B H s).mono fun v H1 ⟨d, B1, O1, s1, r1, e1, ds, x, q⟩ => ?_
  subst x
  have r1' := r1
  obtain ⟨a, xs, ea, h1, h2⟩ := s1.tp r1
  subst ea
  cases r1' with
  | tup g1 g2 =>
    rename_i ys
    refine ⟨a, rfl, ⟨xs, h1⟩, ds, _, B1, O1, s1, e1, ⟨fun i B' H' σ' ρ' O' s' e' _ hi => ?_, fun i B' H' σ' ρ' O' s' e' _ hi => ?_, fun i B' H' σ' ρ' O' x H'' d s' e' _ hd y => ?_⟩, q⟩
    · obtain ⟨v, hv, _⟩ := g2.get (List.getElem?_eq_getElem hi)
      exact ⟨_, v, s'.gr.bh.t (e'.t g1), hv⟩
    · exact ⟨_, s'.gr.bh.t (e'.t g1), by rw [hi, g2.len]; exact Nat.le_refl _⟩
    · obtain ⟨eh, y⟩ := y
      subst eh
      obtain ⟨v, hv, rv⟩ := g2.get hd
      have := y _ (s'.gr.bh.t (e'.t g1))
      rw [hv] at this
      cases this
      exact ⟨B', Grow.refl s'.gr.bh, rv.mono e' _ _⟩
/-- a list that stays as it is: frozen, read only, or owned -/
theorem ix_lst {tg l : Expr} {R : List D → (Own → Prop) → Own → Prop} (h : EX X Z l ρ O fun d O1 => ∃ ds, ((LsAt O1 d ds) ∨ d = .scr ds) ∧ R ds (fun O' => LsAt O' d ds ∨ d = .scr ds) O1) : IX X Z tg l ρ O R := fun σ B H s => by
  refine EVI.of (pi_list pe_ev) ?_
  refine (h σ B H s).mono fun v H1 ⟨d, B1, O1, s1, r1, e1, ds, hd, q⟩ => ?_
  have key : ∀ B' H' σ' ρ' O', Sts X.K Z B' H' σ' ρ' O' → Ex B1 B' → (LsAt O' d ds ∨ d = .scr ds) → ∃ a xs, v = .ref a ∧ SqL X.K H' a xs ∧ Reps X.K B' ds xs := fun B' H' σ' ρ' O' s' e' hd => by
    have r' := r1.mono e' _ _
    rcases hd with hd | hd
    · obtain ⟨a, xs, ea, h1, h2⟩ := s'.ls hd r'
      exact ⟨a, xs, ea, SqL.of h1, h2⟩
    · subst hd
      cases r' with
      | scr h1 h2 => exact ⟨_, _, rfl, s'.gr.bh.l h1, h2⟩
  obtain ⟨a, xs, ea, h1, h2⟩ := key B1 H1 σ ρ O1 s1 (Ex.refl _) hd
  subst ea
  refine ⟨a, rfl, ⟨xs, h1⟩, ds, _, B1, O1, s1, e1, ⟨fun i B' H' σ' ρ' O' s' e' g hi => ?_, fun i B' H' σ' ρ' O' s' e' g hi => ?_, fun i B' H' σ' ρ' O' x H'' d s' e' g hd y => ?_⟩, q⟩
  · obtain ⟨_, ys, eq, k1, k2⟩ := key B' H' σ' ρ' O' s' e' g
    cases eq
    obtain ⟨v, hv, _⟩ := k2.get (List.getElem?_eq_getElem hi)
    exact ⟨_, v, k1, hv⟩
  · obtain ⟨_, ys, eq, k1, k2⟩ := key B' H' σ' ρ' O' s' e' g
    cases eq
    exact ⟨_, k1, by rw [hi, k2.len]; exact Nat.le_refl _⟩
  · obtain ⟨eh, y⟩ := y
    subst eh
    obtain ⟨_, ys, eq, k1, k2⟩ := key B' _ σ' ρ' O' s' e' g
    cases eq
    obtain ⟨v, hv, rv⟩ := k2.get hd
    have := y _ k1
    rw [hv] at this
    cases this
    exact ⟨B', Grow.refl s'.gr.bh, rv⟩
/-- lo, lo + 1, .. -/
def rangeD (lo : Int) (n : Nat) : List D := (List.range n).map fun i => D.int (lo + (i : Nat))
theorem walk_range {K : PySem.W.Frag} {lo : Int} {n : Nat} {B : Hp} : Walk K Z (Itr lo n) (rangeD lo n) (fun _ => True) B where
  go := fun i B' H' σ' ρ' O' _ _ _ hi => by
    have : i < n := by unfold rangeD at hi; simpa using hi
    exact this
  stop := fun i B' H' σ' ρ' O' _ _ _ hi => by unfold rangeD at hi; have : i = n := by simpa using hi
                                              subst this; exact Nat.le_refl _
  yld := fun i B' H' σ' ρ' O' x H'' d s' _ _ hd y => by
    obtain ⟨e1, e2⟩ := y
    subst e1 e2
    have : d = .int (lo + i) := by
      unfold rangeD at hd
      rw [List.getElem?_map] at hd
      obtain ⟨j, hj, ej⟩ := Option.map_eq_some_iff.mp hd
      have := List.getElem?_range (n := n) (i := i)
      have hi : i < n := by
        by_cases z : i < n
        · exact z
        · rw [List.getElem?_eq_none (by simpa using z)] at hj; cases hj
      rw [List.getElem?_range hi] at hj
      cases hj
      exact ej.symm
    subst this
    exact ⟨B', Grow.refl s'.gr.bh, .int _⟩
theorem ix_range1 {tg a : Expr} {p pos : Pos} {R : List D → (Own → Prop) → Own → Prop} (hm : X.mg "range" = none) (h : EX X Z a ρ O fun d O1 => ∃ j, d = .int j ∧ -1000000000 ≤ j ∧ j ≤ 1000000000 ∧ R (rangeD 0 j.toNat) (fun _ => True) O1) (hg : Gl X "range" := by rfl)
    (hs : starEach [a] X.env = [(false, eval a X.env)] := by rfl) : IX X Z tg (.Call (.Name "range" p) [a] [] pos) ρ O R := fun σ B H s => by
  refine EVI.of (pi_range1 hg hm (pa_cons pe_ev pa_nil (by rw [hs]; rfl)) hs) ?_
  refine (h σ B H s).mono fun v H1 ⟨d, B1, O1, s1, r1, e1, j, x, z1, z2, q⟩ => ?_
  subst x
  cases r1
  exact ⟨j, rfl, by omega, by omega, _, _, B1, O1, s1, e1, walk_range, q⟩
theorem ix_range2 {tg a b : Expr} {p pos : Pos} {R : List D → (Own → Prop) → Own → Prop} (hm : X.mg "range" = none) (h : EX X Z a ρ O fun d O1 => EX X Z b ρ O1 fun d2 O2 => ∃ i j, d = .int i ∧ d2 = .int j ∧ -1000000000 ≤ i ∧ i ≤ 1000000000 ∧ -1000000000 ≤ j ∧ j ≤ 1000000000 ∧ R (rangeD i (j - i).toNat) (fun _ => True) O2) (hg : Gl X "range" := by rfl)
    (hs : starEach [a, b] X.env = [(false, eval a X.env), (false, eval b X.env)] := by rfl) (hs2 : starEach [b] X.env = [(false, eval b X.env)] := by rfl) : IX X Z tg (.Call (.Name "range" p) [a, b] [] pos) ρ O R := fun σ B H s => by
  refine EVI.of (pi_range2 hg hm (pa_cons pe_ev (pa_cons pe_ev pa_nil (by rw [hs2]; rfl)) (by rw [hs, hs2])) hs hs2) ?_
  refine (h σ B H s).mono fun v H1 ⟨d, B1, O1, s1, r1, e1, q1⟩ => ?_
  refine EV.mono (q1 σ B1 H1 s1) fun v2 H2 ⟨d2, B2, O2, s2, r2, e2, i, j, x, y, z1, z2, z3, z4, q⟩ => ?_
  subst x y
  cases r1; cases r2
  exact ⟨i, j, rfl, ⟨by omega, by omega, by omega, by omega⟩, _, _, B2, O2, s2, e1.trans e2, walk_range, q⟩
end
end PD

set_option Elab.async false
set_option linter.all false
set_option autoImplicit false
set_option maxRecDepth 100000
set_option maxHeartbeats 2000000
/-! PD, part F: comprehensions of any number of clauses. -/
namespace PD
open PySem PySem.Spec L2
open PyProof.Rows hiding St

abbrev FF {α : Type} : α → Shared → Prop := fun _ _ => False
theorem toF {α : Type} {t : Sem α} {Q : α → Shared → Prop} {M : Model} {A : Around} {E : Value → Shared → Prop} {s : Shared} (h : wpAny M A t Q FF s) : wpAny M A t Q E s := wpAny_mono h (fun _ _ q => q) fun _ _ z => False.elim z

/-! ### a clause's loop, what it does inside by its weakest precondition w -/
section
variable {prog : Program} {wd : World} {A : Around}
abbrev tests (ifs : List Expr) (env : Env) : Sem Bool := forIn ifs true fun c r => if r = true then do let ok ← isTrue c env (eval c env); pure (ForInStep.yield ok) else pure (ForInStep.yield r)
/-- the rule of a clause's loop -/
def LR (prog : Program) (wd : World) (A : Around) (ce : Expr) (k : Nat) (tg : Expr) (ifs : List Expr) (acc : Value) (env : Env) (w : (Shared → Prop) → Shared → Prop) : Prop :=
  ∀ (it : Value) (Post : Shared → Prop) (I : Nat → Shared → Prop), (∀ n s, I n s → wpAny (model prog wd) A (pyNext it) (fun r s₁ => match r with
      | none => Post s₁
      | some v => wpAny (model prog wd) A (letOwnedTupleGo tg it v) (fun _ s₁' => wpAny (model prog wd) A (assign tg env v) (fun _ s₂ =>
          wpAny (model prog wd) A (tests ifs env) (fun ok s₃ => if ok = true then w (fun s₄ => ∃ m, m < n ∧ I m s₄) s₃ else ∃ m, m < n ∧ I m s₃) FF s₂) FF s₁') FF s₁) FF s) →
    ∀ n s, I n s → codeAny (model prog wd) A (.compLoop ce k it acc env) (fun r s' => r = .ok .next ∧ Post s') s
/-- what the last clause does: emit -/
def wLast (prog : Program) (wd : World) (A : Around) (emit : Sem Unit) : (Shared → Prop) → Shared → Prop := fun Q s => wpAny (model prog wd) A emit (fun _ s' => Q s') FF s
/-- what a clause ahead of another does -/
def wMid (prog : Program) (wd : World) (A : Around) (ce : Expr) (k : Nat) (i1 : Expr) (acc : Value) (env : Env) : (Shared → Prop) → Shared → Prop := fun Q s =>
  wpAny (model prog wd) A (eval i1 env) (fun x s₄ => wpAny (model prog wd) A (pyIter x) (fun it1 s₅ => codeAny (model prog wd) A (.compStart ce k it1 acc env) (fun r s' => r = .ok .next ∧ Q s') s₅) FF s₄) FF s
variable {k : Nat} {tg it0 t1 i1 elt kx vx : Expr} {ifs ifs1 : List Expr} {gens : List Comprehension} {scope : Scope} {pos : Pos} {acc : Value} {D : Addr} {env : Env} {emit : Sem Unit}
/-- the turn of the last clause -/
def turnLast (ce : Expr) (k : Nat) (tg it0 : Expr) (ifs : List Expr) (acc : Value) (env : Env) (emit : Sem Unit) (it : Value) : Sem Fin := (do
      standAt it0.pos
      match ← pyNext it with
      | none => pure (.done .next)
      | some v =>
        letOwnedTupleGo tg it v
        assign tg env v
        let mut ok := true
        for c in ifs do
          if ok then ok ← isTrue c env (eval c env)
        if ok then emit
        again (.compLoop ce k it acc env))
def turnMid (ce : Expr) (k : Nat) (tg it0 i1 : Expr) (ifs : List Expr) (acc : Value) (env : Env) (it : Value) : Sem Fin := (do
      standAt it0.pos
      match ← pyNext it with
      | none => pure (.done .next)
      | some v =>
        letOwnedTupleGo tg it v
        assign tg env v
        let mut ok := true
        for c in ifs do
          if ok then ok ← isTrue c env (eval c env)
        if ok then
          let x ← eval i1 env
          standAt i1.pos
          let x ← foldedSetIterable i1 env x
          let _ ← runOwn (.compStart ce (k + 1) (← holding [x] (pyIter x)) acc env) env
        again (.compLoop ce k it acc env))
def emitL (elt : Expr) (acc : Value) (env : Env) : Sem Unit := do let _ ← call (.builtin "list.append") [acc, ← eval elt env]
def emitD (kx vx : Expr) (D : Addr) (env : Env) : Sem Unit := do
        let kv ← eval kx env
        let vv ← holding [kv] (eval vx env)
        do
          standAt { kx.pos with endLine := vx.pos.endLine, endCol := vx.pos.endCol }
          holding [kv, vv] (dictSet D kv vv)
theorem turn_LL (h0 : gens[k]? = some ⟨tg, it0, ifs, 0⟩) (h1 : gens[k + 1]? = none) (it : Value) : compTurn (.ListComp elt gens scope pos) k it acc env = turnLast (.ListComp elt gens scope pos) k tg it0 ifs acc env (emitL elt acc env) it := by
  unfold compTurn
  simp only [h0, h1]
  rfl
theorem turn_LM (h0 : gens[k]? = some ⟨tg, it0, ifs, 0⟩) (h1 : gens[k + 1]? = some ⟨t1, i1, ifs1, 0⟩) (it : Value) : compTurn (.ListComp elt gens scope pos) k it acc env = turnMid (.ListComp elt gens scope pos) k tg it0 i1 ifs acc env it := by
  unfold compTurn
  simp only [h0, h1]
  rfl
theorem turn_DL (h0 : gens[k]? = some ⟨tg, it0, ifs, 0⟩) (h1 : gens[k + 1]? = none) (it : Value) : compTurn (.DictComp kx vx gens scope pos) k it (.ref D) env = turnLast (.DictComp kx vx gens scope pos) k tg it0 ifs (.ref D) env (emitD kx vx D env) it := by
  unfold compTurn
  simp only [h0, h1]
  rfl
theorem turn_DM (h0 : gens[k]? = some ⟨tg, it0, ifs, 0⟩) (h1 : gens[k + 1]? = some ⟨t1, i1, ifs1, 0⟩) (it : Value) : compTurn (.DictComp kx vx gens scope pos) k it acc env = turnMid (.DictComp kx vx gens scope pos) k tg it0 i1 ifs acc env it := by
  unfold compTurn
  simp only [h0, h1]
  rfl
/-- the two forms a comprehension has here -/
def IsComp (ce : Expr) (gens : List Comprehension) : Prop := (∃ elt scope pos, ce = .ListComp elt gens scope pos) ∨ ∃ kx vx scope pos, ce = .DictComp kx vx gens scope pos
theorem lr_last {ce : Expr} (hc : IsComp ce gens) (ht : ∀ it, compTurn ce k it acc env = turnLast ce k tg it0 ifs acc env emit it) : LR prog wd A ce k tg ifs acc env (wLast prog wd A emit) := by
  intro it Post I turn n s h
  have main : ∀ n s, I n s → wpAny (model prog wd) A (compTurn ce k it acc env) (fun fin s' => match fin with | .done f => (Except.ok f : Result) = .ok .next ∧ Post s' | .again c' => c' = .compLoop ce k it acc env ∧ ∃ m, m < n ∧ I m s') FF s := fun n s hI => by
    rw [ht]
    unfold turnLast
    refine wpAny_bind (wpAny_standAt (wpAny_bind (wpAny_mono (turn n s hI) (fun r s₁ h₁ => ?_) fun _ _ h' => h')))
    cases r with
    | none => exact wpAny_pure ⟨rfl, h₁⟩
    | some v =>
      refine wpAny_bind (wpAny_mono h₁ (fun _ s₁' h₁' => ?_) fun _ _ h' => h')
      refine wpAny_bind (wpAny_mono h₁' (fun _ s₂ h₂ => wpAny_bind (wpAny_mono h₂ (fun ok s₃ h₃ => ?_) fun _ _ h' => h')) fun _ _ h' => h')
      cases ok with
      | false => exact wpAny_pure ⟨rfl, h₃⟩
      | true => exact wpAny_bind (wpAny_mono h₃ (fun x s₄ h₄ => wpAny_pure ⟨rfl, h₄⟩) fun _ _ h' => h')
  rcases hc with ⟨elt, scope, pos, rfl⟩ | ⟨kx, vx, scope, pos, rfl⟩
  · refine codeAny_loop rfl I (fun n s hI => ?_) n h
    show wpAny _ A ((compTurn _ k it acc env).onRaise (fun x => do noteFrame x env; theTreesLotGoes x)) _ _ s
    exact wpAny_noted (toF (main n s hI))
  · refine codeAny_loop rfl I (fun n s hI => ?_) n h
    show wpAny _ A ((compTurn _ k it acc env).onRaise (fun x => do noteFrame x env; theTreesLotGoes x)) _ _ s
    exact wpAny_noted (toF (main n s hI))
theorem lr_mid {ce : Expr} (hc : IsComp ce gens) (hs : ∀ x, foldedSetIterable i1 env x = pure x) (ht : ∀ it, compTurn ce k it acc env = turnMid ce k tg it0 i1 ifs acc env it) : LR prog wd A ce k tg ifs acc env (wMid prog wd A ce (k + 1) i1 acc env) := by
  intro it Post I turn n s h
  have main : ∀ n s, I n s → wpAny (model prog wd) A (compTurn ce k it acc env) (fun fin s' => match fin with | .done f => (Except.ok f : Result) = .ok .next ∧ Post s' | .again c' => c' = .compLoop ce k it acc env ∧ ∃ m, m < n ∧ I m s') FF s := fun n s hI => by
    rw [ht]
    unfold turnMid
    refine wpAny_bind (wpAny_standAt (wpAny_bind (wpAny_mono (turn n s hI) (fun r s₁ h₁ => ?_) fun _ _ h' => h')))
    cases r with
    | none => exact wpAny_pure ⟨rfl, h₁⟩
    | some v =>
      refine wpAny_bind (wpAny_mono h₁ (fun _ s₁' h₁' => ?_) fun _ _ h' => h')
      refine wpAny_bind (wpAny_mono h₁' (fun _ s₂ h₂ => wpAny_bind (wpAny_mono h₂ (fun ok s₃ h₃ => ?_) fun _ _ h' => h')) fun _ _ h' => h')
      cases ok with
      | false => exact wpAny_pure ⟨rfl, h₃⟩
      | true =>
        refine wpAny_bind (wpAny_mono h₃ (fun x s₄ h₄ => ?_) fun _ _ h' => h')
        refine wpAny_bind (wpAny_standAt (wpAny_bind (wpAny_of_eq (hs x) (wpAny_bind (wpAny_holding (wpAny_mono h₄ (fun it1 s₅ h₅ => ?_) fun _ _ h' => h'))))))
        refine wpAny_bind (wpAny_runOwn ?_)
        rw [Around.mark_none]
        refine codeAny_mono h₅ fun r s' hr => ?_
        obtain ⟨hr, q⟩ := hr
        subst hr
        exact wpAny_pure ⟨rfl, q⟩
  rcases hc with ⟨elt, scope, pos, rfl⟩ | ⟨kx, vx, scope, pos, rfl⟩
  · refine codeAny_loop rfl I (fun n s hI => ?_) n h
    show wpAny _ A ((compTurn _ k it acc env).onRaise (fun x => do noteFrame x env; theTreesLotGoes x)) _ _ s
    exact wpAny_noted (toF (main n s hI))
  · refine codeAny_loop rfl I (fun n s hI => ?_) n h
    show wpAny _ A ((compTurn _ k it acc env).onRaise (fun x => do noteFrame x env; theTreesLotGoes x)) _ _ s
    exact wpAny_noted (toF (main n s hI))
/-- a clause's start -/
theorem compStart_ok {ce : Expr} {R : Result → Shared → Prop} {it : Value} {s : Shared} (hc : IsComp ce gens) (hk : gens[k]? = some ⟨tg, it0, ifs, 0⟩) (h0 : codeAny (model prog wd) A (.compLoop ce k it acc env) R s)
    (h : wpAny (model prog wd) A (pyIter it) (fun it' s' => codeAny (model prog wd) A (.compLoop ce k it' acc env) R s') FF s) :
    codeAny (model prog wd) A (.compStart ce k it acc env) R s := by
  rcases hc with ⟨elt, scope, pos, rfl⟩ | ⟨kx, vx, scope, pos, rfl⟩
  · refine codeAny_of_tree ?_
    show wpAny _ _ ((compStart (.ListComp elt gens scope pos) k it acc env).onRaise (fun x => do noteFrame x env; standAt theWindowsPlace)) _ _ s
    refine wpAny_notedAt ?_
    have hcl : (clausesOf (.ListComp elt gens scope pos))[k]? = some ⟨tg, it0, ifs, 0⟩ := hk
    unfold compStart
    rw [hcl]
    show wpAny _ _ (ask >>= _) _ _ s
    refine wpAny_bind (wpAny_askSetting (wpAny_ite ?_))
    split
    · first
        | exact wpAny_bind (wpAny_pure (wpAny_pure (And.intro rfl h0)))
        | exact wpAny_pure (And.intro rfl h0)
    · first
        | exact wpAny_bind (wpAny_rule (wpAny_bind (wpAny_standAt (wpAny_bind (wpAny_mono h (fun it' s' h' => wpAny_pure (And.intro rfl h')) fun _ _ x => x.elim)))))
        | (refine wpAny_bind (wpAny_rule ?_); show wpAny _ _ (standAt it0.pos >>= _) _ _ s; exact wpAny_bind (wpAny_standAt (wpAny_bind (wpAny_mono h (fun it' s' h' => wpAny_pure (And.intro rfl h')) fun _ _ x => x.elim))))
  · refine codeAny_of_tree ?_
    show wpAny _ _ ((compStart (.DictComp kx vx gens scope pos) k it acc env).onRaise (fun x => do noteFrame x env; standAt theWindowsPlace)) _ _ s
    refine wpAny_notedAt ?_
    have hcl : (clausesOf (.DictComp kx vx gens scope pos))[k]? = some ⟨tg, it0, ifs, 0⟩ := hk
    unfold compStart
    rw [hcl]
    show wpAny _ _ (ask >>= _) _ _ s
    refine wpAny_bind (wpAny_askSetting (wpAny_ite ?_))
    split
    · first
        | exact wpAny_bind (wpAny_pure (wpAny_pure (And.intro rfl h0)))
        | exact wpAny_pure (And.intro rfl h0)
    · first
        | exact wpAny_bind (wpAny_rule (wpAny_bind (wpAny_standAt (wpAny_bind (wpAny_mono h (fun it' s' h' => wpAny_pure (And.intro rfl h')) fun _ _ x => x.elim)))))
        | (refine wpAny_bind (wpAny_rule ?_); show wpAny _ _ (standAt it0.pos >>= _) _ _ s; exact wpAny_bind (wpAny_standAt (wpAny_bind (wpAny_mono h (fun it' s' h' => wpAny_pure (And.intro rfl h')) fun _ _ x => x.elim))))
end
end PD

set_option Elab.async false
set_option linter.all false
set_option autoImplicit false
set_option maxRecDepth 100000
set_option maxHeartbeats 2000000
/-! PD, part G: comprehensions over data. -/
namespace PD
open PySem PySem.Spec L2
open PyProof.Rows hiding St

def WMono (w : (Shared → Prop) → Shared → Prop) : Prop := ∀ (Q Q' : Shared → Prop) (s : Shared), (∀ s, Q s → Q' s) → w Q s → w Q' s
theorem wm_last {prog : Program} {wd : World} {A : Around} {emit : Sem Unit} : WMono (wLast prog wd A emit) := fun Q Q' s h q => wpAny_mono q (fun _ s z => h s z) fun _ _ z => z
theorem wm_mid {prog : Program} {wd : World} {A : Around} {ce i1 : Expr} {k : Nat} {acc : Value} {env : Env} : WMono (wMid prog wd A ce k i1 acc env) := fun Q Q' s h q =>
  wpAny_mono q (fun _ s1 z => wpAny_mono z (fun _ s2 z2 => codeAny_mono z2 fun r s3 z3 => ⟨z3.1, h _ z3.2⟩) fun _ _ z => z) fun _ _ z => z
/-- a clause's tests -/
def TS (Y : Cx) (Z : Zn) (ifs : List Expr) (ρ : Slots) (O : Own) (R : Bool → Own → Prop) : Prop := ∀ σ B H, Sts Y.K Z B H σ ρ O → ∀ pins s, Inv Y pins σ H s →
  wpAny (model Y.prog Y.w) Y.A (tests ifs Y.env) (TP Y pins σ (RQT Y.K Z σ ρ B R)) Y.xe s
/-- what a clause does inside: back to the slots ρ0 at least -/
def AX (Y : Cx) (Z : Zn) (w : (Shared → Prop) → Shared → Prop) (ρ0 ρ : Slots) (O : Own) (R : Own → Prop) : Prop := ∀ σ B H, Sts Y.K Z B H σ ρ O → ∀ pins s, Inv Y pins σ H s →
  w (fun s' => ∃ σ' B' H' O', Inv Y pins σ' H' s' ∧ Sts Y.K Z B' H' σ' ρ0 O' ∧ Ex B B' ∧ R O') s
section
variable {Y : Cx} {Z : Zn} {ρ ρ0 : Slots} {O : Own}
theorem ts_nil {R : Bool → Own → Prop} (h : R true O) : TS Y Z [] ρ O R := fun σ B H s pins s0 I => wpAny_tests_nil ⟨H, I, B, O, s, Ex.refl _, h⟩
theorem ts_one {c : Expr} {R : Bool → Own → Prop} (h : ET Y Z c ρ O R) : TS Y Z [c] ρ O R := fun σ B H s pins s0 I => wpAny_tests_one (h σ B H s pins s0 I)
theorem Fewer.refl (ρ : Slots) : Fewer ρ ρ := fun _ _ h => h
theorem Fewer.trans {a b c : Slots} (x : Fewer a b) (y : Fewer b c) : Fewer a c := fun i d h => y i d (x i d h)
theorem Fewer.set {i : Nat} {d : D} (h : ρ0[i]? = some none) (f : Fewer ρ0 ρ) : Fewer ρ0 (ρ.set i (some d)) := fun j e q => by
  have z : i ≠ j := fun z => by subst z; rw [h] at q; cases q
  rw [List.getElem?_set_ne z]
  exact f j e q

theorem loopD {ce : Expr} {k : Nat} {tg : Expr} {ifs : List Expr} {acc : Value} {w : (Shared → Prop) → Shared → Prop} (hr : LR Y.prog Y.w Y.A ce k tg ifs acc Y.env w) (hw : WMono w) (hc : Y.calm = true) (hx : Y.xe = FF)
    {it : Addr} {fp : List Addr} {tn : Nat → Heap → Prop} {J : It} {pins : List (Addr × Obj)} {ds : List D} {Gd : Own → Prop} {B0 : Hp}
    (T : Turn Y.prog Y.w Y.K tg J fp it tn) (hfp : ∀ σ H s, Inv Y pins σ H s → (∀ b ∈ fp, H b = none) → ∀ b ∈ fp, FpOk Y pins H b) (Wk : Walk Y.K Z J ds Gd B0) (P : Nat → Own → Prop) (hg : ∀ i O, P i O → Gd O)
    (turn : ∀ i d O, ds[i]? = some d → P i O → GX Y Z tg d ρ0 O fun ρ2 O2 => TS Y Z ifs ρ2 O2 fun b O3 => (b = true → AX Y Z w ρ0 ρ2 O3 (P (i + 1))) ∧ (b = false → Fewer ρ0 ρ2 ∧ P (i + 1) O3))
    {s : Shared} {σ : L2.St} {H : Hp} (I : Inv Y pins σ H s) (st : tn 0 s.heap) (hn : ∀ b ∈ fp, H b = none) (hs : Sts Y.K Z B0 H σ ρ0 O) (h0 : P 0 O) :
    codeAny (model Y.prog Y.w) Y.A (.compLoop ce k (.ref it) acc Y.env) (fun r s' => r = .ok .next ∧ ∃ σ' B' H' O', Inv Y pins σ' H' s' ∧ Sts Y.K Z B' H' σ' ρ0 O' ∧ Ex B0 B' ∧ P ds.length O') s := by
  have hx' : ∀ {α : Type} {t : Sem α} {Q : α → Shared → Prop} {s : Shared}, wpAny (model Y.prog Y.w) Y.A t Q Y.xe s → wpAny (model Y.prog Y.w) Y.A t Q FF s := fun h => by rw [hx] at h; exact h
  refine hr (.ref it) _ (fun n s' => ∃ i, n = ds.length - i ∧ i ≤ ds.length ∧ ∃ σ' B' H' O', Inv Y pins σ' H' s' ∧ Sts Y.K Z B' H' σ' ρ0 O' ∧ Ex B0 B' ∧ P i O' ∧ tn i s'.heap ∧ ∀ b ∈ fp, H' b = none) ?_ ds.length s ⟨0, by simp, Nat.zero_le _, σ, B0, H, O, I, hs, Ex.refl _, h0, st, hn⟩
  rintro n s5 ⟨i, rfl, hi, σ5, B5, H5, O5, I5, S5, e5, p5, st5, n5⟩
  by_cases hlt : i < ds.length
  · have ti := T.item Y rfl rfl rfl hc i pins s5 σ5 H5 FF I5 (hfp _ _ _ I5 n5) st5 (Wk.go i B5 H5 σ5 ρ0 O5 S5 e5 (hg _ _ p5) hlt)
    refine thnF ti fun r s6 ⟨u, hr, h6⟩ => ?_
    subst hr
    refine thnF h6 fun _ s7 ⟨x, H7, I7, r7, y7, st7, n7⟩ => ?_
    obtain ⟨B7, g7, d7⟩ := Wk.yld i B5 H5 σ5 ρ0 O5 x H7 _ S5 e5 (hg _ _ p5) (List.getElem?_eq_getElem hlt) y7
    have S7 := S5.grow g7
    have I7' := I7.pinned (hfp _ _ _ I7 n7) (T.obj _ _ st7)
    have fin : ∀ {s' : Shared} {σ' : L2.St} {B' H' : Hp} {O' : Own}, Inv Y (pins ++ pinsAt fp s7.heap) σ' H' s' → Sts Y.K Z B' H' σ' ρ0 O' → Ex B0 B' → P (i + 1) O' →
        ∃ m, m < ds.length - i ∧ ∃ j, m = ds.length - j ∧ j ≤ ds.length ∧ ∃ σ' B' H' O', Inv Y pins σ' H' s' ∧ Sts Y.K Z B' H' σ' ρ0 O' ∧ Ex B0 B' ∧ P j O' ∧ tn j s'.heap ∧ ∀ b ∈ fp, H' b = none := fun {s' σ' B' H' O'} I' S' e' p' => by
      have pin' : ∀ b ∈ fp, ∀ o, s7.heap.get? b = some o → s'.heap.get? b = some o ∧ H' b = none := fun b hb o e =>
        let z := I'.pin (b, o) (List.mem_append_right _ (List.mem_append_right _ (mem_pinsAt hb e)))
        ⟨z.1, z.2.1⟩
      refine ⟨ds.length - (i + 1), by omega, i + 1, rfl, hlt, σ', B', H', O', I'.unpinned, S', e', p', T.keep _ _ _ st7 fun b hb o e => (pin' b hb o e).1, fun b hb => ?_⟩
      obtain ⟨o, e, _⟩ := T.obj _ _ st7 b hb
      exact (pin' b hb o e).2
    refine thnF (hx' (turn i _ O5 (List.getElem?_eq_getElem hlt) p5 σ5 B7 H7 x S7 d7 _ s7 u I7' r7)) fun _ s8 ⟨σ8, H8, I8, B8, ρ8, O8, S8, e8, q8⟩ => ?_
    refine thnF (hx' (q8 σ8 B8 H8 S8 _ s8 I8)) fun b s9 ⟨H9, I9, B9, O9, S9, e9, q9⟩ => ?_
    have e09 : Ex B0 B9 := ((e5.trans g7.bb).trans e8).trans e9
    cases b with
    | false =>
      rw [if_neg Bool.false_ne_true]
      exact fin I9 (S9.fewer (q9.2 rfl).1) e09 (q9.2 rfl).2
    | true =>
      rw [if_pos rfl]
      have := q9.1 rfl σ8 B9 H9 S9 _ s9 I9
      refine hw _ _ _ (fun s' z => ?_) this
      obtain ⟨σ', B', H', O', I', S', e', p'⟩ := z
      exact fin I' S' (e09.trans e') p'
  · have e : i = ds.length := by omega
    subst e
    refine thnF (T.done Y rfl rfl rfl hc _ pins s5 σ5 H5 FF I5 (hfp _ _ _ I5 n5) st5 (Wk.stop _ B5 H5 σ5 ρ0 O5 S5 e5 (hg _ _ p5) rfl)) fun r s6 ⟨hr, I6⟩ => ?_
    subst hr
    exact ⟨σ5, B5, H5, O5, I6, S5, e5, p5⟩
/-- a clause ahead of another: the other's whole loop -/
theorem ax_mid {ce : Expr} {gens : List Comprehension} {k : Nat} {tg1 it1 : Expr} {ifs1 : List Expr} {acc : Value} {w1 : (Shared → Prop) → Shared → Prop} {R : Own → Prop} (hic : IsComp ce gens) (hk : gens[k]? = some ⟨tg1, it1, ifs1, 0⟩)
    (hr : LR Y.prog Y.w Y.A ce k tg1 ifs1 acc Y.env w1) (hw : WMono w1) (hc : Y.calm = true) (hx : Y.xe = FF) (hf : Fewer ρ0 ρ)
    (h : IX Y Z tg1 it1 ρ O fun ds Gd O1 => ∃ P : Nat → Own → Prop, P 0 O1 ∧ (∀ i O', P i O' → Gd O') ∧ (∀ i d O', ds[i]? = some d → P i O' → GX Y Z tg1 d ρ O' fun ρ2 O2 => TS Y Z ifs1 ρ2 O2 fun b O3 => (b = true → AX Y Z w1 ρ ρ2 O3 (P (i + 1))) ∧ (b = false → Fewer ρ ρ2 ∧ P (i + 1) O3)) ∧ (∀ O', P ds.length O' → R O')) :
    AX Y Z (wMid Y.prog Y.w Y.A ce k it1 acc Y.env) ρ0 ρ O R := fun σ B H s pins s0 I => by
  have hx' : ∀ {α : Type} {t : Sem α} {Q : α → Shared → Prop} {s : Shared}, wpAny (model Y.prog Y.w) Y.A t Q Y.xe s → wpAny (model Y.prog Y.w) Y.A t Q FF s := fun h => by rw [hx] at h; exact h
  refine thnF (hx' (h σ B H s pins s0 I)) fun xv s10 hx1 => thnF (hx' hx1) fun itv s11 h11 => ?_
  obtain ⟨it, fp, tn, J, H11, e1, I11, T, st11, f11, ds, Gd, B1, O1, S1, eB, Wk, P, h0, hg, turn, hend⟩ := h11
  subst e1
  have hfp : ∀ σ H s, Inv Y pins σ H s → (∀ b ∈ fp, H b = none) → ∀ b ∈ fp, FpOk Y pins H b := fun σ H s _ hn b hb => ⟨hn b hb, (f11 b hb).2⟩
  have L := loopD (acc := acc) hr hw hc hx T hfp Wk P hg turn I11 st11 (fun b hb => (f11 b hb).1) S1 h0
  have L' : codeAny (model Y.prog Y.w) Y.A (.compLoop ce k (.ref it) acc Y.env) (fun r s' => r = .ok .next ∧ ∃ σ' B' H' O', Inv Y pins σ' H' s' ∧ Sts Y.K Z B' H' σ' ρ0 O' ∧ Ex B B' ∧ R O') s11 :=
    codeAny_mono L fun r s' ⟨hr, σ', B', H', O', I', S', e', p'⟩ => ⟨hr, σ', B', H', O', I', S'.fewer hf, eB.trans e', hend _ p'⟩
  exact compStart_ok hic hk L' (T.self Y.A 0 _ _ _ st11 L')
/-- an item appended -/
theorem ax_elt {elt : Expr} {D : Addr} {R : Own → Prop} (hx : Y.xe = FF) (hf : Fewer ρ0 ρ)
    (h : EX Y Z elt ρ O fun e O1 => ∃ acc, O1.lookup D = some (.lst acc) ∧ acc.length < 1000000 ∧ R (setO O1 D (.lst (acc ++ [e])))) : AX Y Z (wLast Y.prog Y.w Y.A (emitL elt (.ref D) Y.env)) ρ0 ρ O R := fun σ B H s pins s0 I => by
  have hx' : ∀ {α : Type} {t : Sem α} {Q : α → Shared → Prop} {s : Shared}, wpAny (model Y.prog Y.w) Y.A t Q Y.xe s → wpAny (model Y.prog Y.w) Y.A t Q FF s := fun h => by rw [hx] at h; exact h
  unfold wLast emitL
  refine wpAny_bind (thnF (hx' (h σ B H s pins s0 I)) fun u s1 ⟨v, H1, I1, r1, e, B1, O1, S1, re, e1, acc, hl, hz, q⟩ => ?_)
  obtain ⟨xs, g1, g2⟩ := S1.own_at hl
  refine wpAny_bind (app_ok (X := Y) I1 g1 (by rw [← g2.len]; exact Nat.lt_of_lt_of_le hz (by rw [sizeLine_eq]; decide)) r1 fun s2 I2 => wpAny_pure ?_)
  refine ⟨σ, B1, _, _, I2, (S1.put (c := .lst (acc ++ [e])) (List.mem_map.mpr ⟨_, mem_addrs hl, rfl⟩) ⟨_, rfl, g2.append (.cons re .nil)⟩).fewer hf, e1, q⟩
/-- a key stored -/
theorem ax_put {kx vx : Expr} {D : Addr} {R : Own → Prop} (hx : Y.xe = FF) (hf : Fewer ρ0 ρ)
    (h : EX Y Z kx ρ O fun d1 O1 => EX Y Z vx ρ O1 fun d2 O2 => ∃ kvs k, keyD d1 = some k ∧ O2.lookup D = some (.dct kvs) ∧ kvs.length < 1000000 ∧ R (setO O2 D (.dct (dput kvs k d2)))) : AX Y Z (wLast Y.prog Y.w Y.A (emitD kx vx D Y.env)) ρ0 ρ O R := fun σ B H s pins s0 I => by
  have hx' : ∀ {α : Type} {t : Sem α} {Q : α → Shared → Prop} {s : Shared}, wpAny (model Y.prog Y.w) Y.A t Q Y.xe s → wpAny (model Y.prog Y.w) Y.A t Q FF s := fun h => by rw [hx] at h; exact h
  unfold wLast emitD
  refine wpAny_bind (thnF (hx' (h σ B H s pins s0 I)) fun u1 s1 ⟨v1, H1, I1, ru1, d1, B1, O1, S1, r1, e1, q1⟩ => ?_)
  refine wpAny_bind (wpAny_holding (thnF (hx' (q1 σ B1 H1 S1 pins s1 I1)) fun u2 s2 ⟨v2, H2, I2, ru2, d2, B2, O2, S2, r2, e2, kvs, k, hk, hl, hz, q⟩ => ?_))
  have ek := rep_key r1 hk
  subst ek
  obtain ⟨ys, g1, g2, g3⟩ := S2.own_at hl
  have rk := repKV_of g2 g3
  refine wpAny_bind (wpAny_standAt (wpAny_holding (d_dictSet (X := Y) I2 g1 (by rw [← rk.len]; exact Nat.lt_of_lt_of_le hz (by rw [sizeLine_eq]; decide)) ru1 ru2 fun s3 I3 => ?_)))
  have rp := rk.put k r2
  exact ⟨σ, B2, _, _, I3, (S2.put (c := .dct (dput kvs k d2)) (List.mem_map.mpr ⟨_, mem_addrs hl, rfl⟩) ⟨_, rfl, (repKV_to rp).1, (repKV_to rp).2⟩).fewer hf, e1.trans e2, q⟩
end

section
variable {X : Cx} {Z : Zn} {ρ : Slots} {O : Own}
/-- the context of a comprehension's block -/
abbrev blkX (X : Cx) (scope : Scope) (s : Shared) (H : Hp) (C : Addr) (cl : List (Str × Addr)) (fp : List Addr) : Cx := X.blk s H scope (compEnvC scope cl C X.env) fp
theorem comp_core {ce : Expr} {gs : List Comprehension} {pins : List (Addr × Obj)} {s : Shared} {σ : L2.St} {B H : Hp} {tg iter : Expr} {ifs : List Expr} {scope : Scope} {own : List (Str × Nat)} {pos' : Pos} {use : Option (Value → Sem Unit)} {Qf : Value → Shared → Prop}
    {newAcc : Sem Value} {o0 : Obj} {u0 : HO} {c0 : OC} {w : Cx → Addr → (Shared → Prop) → Shared → Prop} {R : D → Own → Prop} (hc : X.calm = true) (hN : X.N.Nodup) (hic : IsComp ce (⟨tg, iter, ifs, 0⟩ :: gs))
    (hnew : ∀ (E : Value → Shared → Prop) (Q : Value → Shared → Prop) (s : Shared), Q (.ref s.heap.objs.size) { s with heap := s.heap.push o0 } → wpAny (model X.prog X.w) X.A newAcc Q E s)
    (hlaid : ∀ pins σ H s, Inv X pins σ H s → Inv X pins σ (upd H s.heap.objs.size u0) { s with heap := s.heap.push o0 }) (hoc : OcR X.K (fun _ => none) c0 (some u0))
    (hr : ∀ (s : Shared) (H : Hp) (C : Addr) (cl : List (Str × Addr)) (fp : List Addr) (D : Addr), LR X.prog X.w X.A ce 0 tg ifs (.ref D) (compEnvC scope cl C X.env) (w (blkX X scope s H C cl fp) D))
    (hw : ∀ Y D, WMono (w Y D)) (ok : BlkOk X.N X.env.scope scope own) (hs : ∀ x, foldedSetIterable iter X.env x = pure x) (I : Inv X pins σ H s) (S : Sts X.K Z B H σ ρ O)
    (h : IX X Z tg iter ρ O fun ds Gd O1 => ∀ D, D ∉ Z.M → D ∉ O1.map (·.1) → ∃ P : Nat → Own → Prop, P 0 ((D, c0) :: O1) ∧ (∀ i O', P i O' → Gd O') ∧
      (∀ (s : Shared) (H : Hp) (C : Addr) (cl : List (Str × Addr)) (fp : List Addr), ∀ i d O', ds[i]? = some d → P i O' → GX (blkX X scope s H C cl fp) Z tg d (wipeD ρ (own.map (·.2))) O' fun ρ2 O2 => TS (blkX X scope s H C cl fp) Z ifs ρ2 O2 fun b O3 =>
        (b = true → AX (blkX X scope s H C cl fp) Z (w (blkX X scope s H C cl fp) D) (wipeD ρ (own.map (·.2))) ρ2 O3 (P (i + 1))) ∧ (b = false → Fewer (wipeD ρ (own.map (·.2))) ρ2 ∧ P (i + 1) O3)) ∧ (∀ O', P ds.length O' → R (.raw (.ref D)) O'))
    (hRR : ∀ D C s' m H', Inv X pins σ H' s' → RQ X.K Z σ ρ B R (.ref D) H' → s'.heap.Ns C m → FpOk X pins H' C → compPost (model X.prog X.w) X.A X.xe use Qf (.ref D) C (.ok .next) s') :
    wpAny (model X.prog X.w) X.A (comprehension ce scope X.env pos' newAcc false (eval iter X.env) use) Qf X.xe s := by
  have hfree : ∀ y ∈ scope.names, y.2 = .free → ∃ c, X.env.cells.lookup y.1 = some c := fun y hy e => by
    rcases ok.free y hy e with k | k
    · exact I.ok.has _ (.inl k)
    · exact I.ok.has _ (.inr k)
  have hcl : clausesOf ce = ⟨tg, iter, ifs, 0⟩ :: gs := by
    rcases hic with ⟨elt, sc, pos, rfl⟩ | ⟨kx, vx, sc, pos, rfl⟩ <;> rfl
  refine wpAny_comprehension_free (use := use) hcl hs (closure_ok hfree) ok.kind (fun y hy e => by rw [ok.uniq y hy, e])
    (thn (h σ B H S pins s I) fun xv s1 hx => thn hx fun itv s2 h2 => ?_)
  obtain ⟨it, fp, tn, J, H2, e, I2, T, st2, f2, ds, Gd, B2, O2, S2, eB, Wk, q⟩ := h2
  subst e
  refine hnew _ _ _ (newEnv_comp ?_)
  generalize hD : s2.heap.objs.size = D
  have hDn : H2 D = none := I2.hok.fresh (Nat.le_of_eq hD)
  have hDO : D ∉ O2.map (·.1) := fun hm => by
    obtain ⟨q, hq, e⟩ := List.mem_map.mp hm
    obtain ⟨u, hu⟩ := (S2.ow q hq).2.1.some
    have e : q.1 = D := e
    rw [e, hDn] at hu
    cases hu
  obtain ⟨P, p0, hg, turn, hend⟩ := q D (S2.notM hDn) hDO
  -- the new object
  have I3 : Inv X pins σ (upd H2 D u0) { s2 with heap := s2.heap.push o0 } := by rw [← hD]; exact hlaid pins σ H2 s2 I2
  generalize hs3 : ({ s2 with heap := s2.heap.push o0 } : Shared) = s3 at I3
  have h3 : s3.heap = s2.heap.push o0 := by rw [← hs3]
  have S3 : Sts X.K Z B2 (upd H2 D u0) σ ρ ((D, c0) :: O2) := S2.own hDn (hoc.mono fun a o z => by cases z)
  have sz : ∀ b ∈ fp, b < s2.heap.objs.size := fun b hb => by
    obtain ⟨o, e, _⟩ := T.obj _ _ st2 b hb
    exact Heap.lt_size e
  have f3 : ∀ b ∈ fp, FpOk X pins (upd H2 D u0) b ∧ b < s3.heap.objs.size := fun b hb => by
    have hlt := sz b hb
    refine ⟨⟨?_, (f2 b hb).2⟩, by rw [h3, Heap.size_push]; exact Nat.lt_succ_of_lt hlt⟩
    rw [upd_ne (by rw [← hD]; exact Nat.ne_of_lt hlt)]
    exact (f2 b hb).1
  have st3 : tn 0 s3.heap := T.keep _ _ _ st2 fun b _ o e => by rw [h3]; exact Heap.get?_push_of_some _ e
  have I4 := block_start I3 ok hN f3
  have turn' := turn s3 (upd H2 D u0) s3.heap.objs.size (cellsFrom (s3.heap.objs.size + 1) scope.names (cloFrom X.env.cells scope.names [])) fp
  have hr' := hr s3 (upd H2 D u0) s3.heap.objs.size (cellsFrom (s3.heap.objs.size + 1) scope.names (cloFrom X.env.cells scope.names [])) fp D
  show codeAny _ _ (.compStart ce 0 (.ref it) (.ref D) (compEnvC scope (cellsFrom (s3.heap.objs.size + 1) scope.names (cloFrom X.env.cells scope.names [])) s3.heap.objs.size X.env)) (compPost (model X.prog X.w) X.A X.xe use Qf (.ref D) s3.heap.objs.size) { s3 with heap := pushCells (s3.heap.push { cls := .type "dict", data := .dict #[] }) scope.names }
  have nfp : ∀ b ∈ fp, (upd H2 D u0) b = none := fun b hb => (f3 b hb).1.1
  have cL : (compEnvC scope (cellsFrom (s3.heap.objs.size + 1) scope.names (cloFrom X.env.cells scope.names [])) s3.heap.objs.size X.env).locals = s3.heap.objs.size := rfl
  generalize hH3 : upd H2 D u0 = H3 at I3 I4 S3 turn' hr' nfp f3
  generalize hs4 : ({ s3 with heap := pushCells (s3.heap.push { cls := .type "dict", data := .dict #[] }) scope.names } : Shared) = s4 at I4 ⊢
  have st4 : tn 0 s4.heap := T.keep _ _ _ st3 fun b _ o e => by rw [← hs4]; exact pushCells_keeps _ _ _ _ (Heap.get?_push_of_some _ e)
  have stat : ∀ (σ' : L2.St) (H' : Hp) (s' : Shared), Inv (X.blk s3 H3 scope (compEnvC scope (cellsFrom (s3.heap.objs.size + 1) scope.names (cloFrom X.env.cells scope.names [])) s3.heap.objs.size X.env) fp) [] σ' H' s' → (∀ b ∈ fp, H' b = none) → ∀ b ∈ fp, FpOk (X.blk s3 H3 scope (compEnvC scope (cellsFrom (s3.heap.objs.size + 1) scope.names (cloFrom X.env.cells scope.names [])) s3.heap.objs.size X.env) fp) [] H' b := fun σ' H' s' I' hn b hb =>
    ⟨hn b hb, (I'.ok.exf b hb).1, I'.ok.exfs b hb, .inl hb, fun x c e => (I'.ok.exf b hb).2 x c e, fun p hp => absurd (show p ∈ ([] : List (Addr × Obj)) ++ [] from hp) (by simp)⟩
  have L := loopD (Y := X.blk s3 H3 scope (compEnvC scope (cellsFrom (s3.heap.objs.size + 1) scope.names (cloFrom X.env.cells scope.names [])) s3.heap.objs.size X.env) fp) (acc := .ref D) hr' (hw _ _) hc rfl T stat Wk P hg turn' I4 st4 nfp (S3.wipe (own.map (·.2))) p0
  have loop : codeAny (model X.prog X.w) X.A (.compLoop ce 0 (.ref it) (.ref D) (compEnvC scope (cellsFrom (s3.heap.objs.size + 1) scope.names (cloFrom X.env.cells scope.names [])) s3.heap.objs.size X.env)) (compPost (model X.prog X.w) X.A X.xe use Qf (.ref D) s3.heap.objs.size) s4 := by
    refine codeAny_mono L fun r s6 ⟨hr, σ6, B6, H6, O6, I6, S6, e6, p6⟩ => ?_
    subst hr
    have I7 : Inv X pins σ H6 s6 := I3.call' (ch := fp) I6.os I6.base I6.hok I6.bare fun b hb => ⟨(f3 b hb).1.2.2.2.1, (f3 b hb).1.2.1, (f3 b hb).1.2.2.2.2.1, (f3 b hb).1.2.2.2.2.2⟩
    have nC : H6 s3.heap.objs.size = none := by
      have z : H6 (compEnvC scope (cellsFrom (s3.heap.objs.size + 1) scope.names (cloFrom X.env.cells scope.names [])) s3.heap.objs.size X.env).locals = none := I6.free
      rw [cL] at z
      exact z
    obtain ⟨m, hn, _⟩ := I6.loc
    have hn : s6.heap.Ns (compEnvC scope (cellsFrom (s3.heap.objs.size + 1) scope.names (cloFrom X.env.cells scope.names [])) s3.heap.objs.size X.env).locals m := hn
    rw [cL] at hn
    refine hRR D s3.heap.objs.size s6 m H6 I7 ⟨.raw (.ref D), B6, O6, ⟨S6.gr, fun i d e => ?_, S6.ow, S6.nd, S6.ma⟩, .raw _, eB.trans e6, hend _ p6⟩ hn (I3.fpOk (Nat.le_refl _) nC)
    obtain ⟨v, g1, g2⟩ := S3.sl i d e
    exact ⟨v, g1, g2.mono e6 _ _⟩
  exact compStart_ok hic (show (⟨tg, iter, ifs, 0⟩ :: gs)[0]? = some (⟨tg, iter, ifs, 0⟩ : Comprehension) from rfl) loop (toF (T.self X.A 0 _ _ _ st4 loop))
end
end PD

set_option Elab.async false
set_option linter.all false
set_option autoImplicit false
set_option maxRecDepth 100000
set_option maxHeartbeats 2000000
/-! PD, part H: comprehensions as functions of lists. -/
namespace PD
open PySem PySem.Spec L2
open PyProof.Rows hiding St

/-- what a comprehension gathers -/
structure Kd (ε : Type) where
  add : OC → ε → OC
  ok : OC → Nat → Prop
  step : ∀ {c n} (e : ε), ok c n → ok (add c e) (n + 1)
def Kl : Kd D where
  add := fun c e => match c with
    | .lst ds => .lst (ds ++ [e])
    | c => c
  ok := fun c n => ∃ ds, c = .lst ds ∧ ds.length ≤ n
  step := fun {c n} e ⟨ds, h1, h2⟩ => by subst h1; exact ⟨ds ++ [e], rfl, by simp; omega⟩
theorem dput_len (kvs : List (Key × D)) (k : Key) (d : D) : (dput kvs k d).length ≤ kvs.length + 1 := by
  unfold dput
  split <;> simp
theorem zip_kv (kvs : List (Key × D)) : (kvs.map (·.1)).zip (kvs.map (·.2)) = kvs := by
  induction kvs with
  | nil => rfl
  | cons x xs ih => rw [List.map_cons, List.map_cons, List.zip_cons_cons, ih]
def Kc : Kd (Key × D) where
  add := fun c e => match c with
    | .dic ks ds => .dct (dput (ks.zip ds) e.1 e.2)
    | c => c
  ok := fun c n => ∃ kvs, c = .dct kvs ∧ kvs.length ≤ n
  step := fun {c n} e ⟨kvs, h1, h2⟩ => by
    subst h1
    refine ⟨dput (kvs.map (·.1) |>.zip (kvs.map (·.2))) e.1 e.2, rfl, ?_⟩
    rw [zip_kv]
    exact Nat.le_trans (dput_len _ _ _) (by omega)
theorem Kl_fold (es ds : List D) : es.foldl Kl.add (.lst ds) = .lst (ds ++ es) := by
  induction es generalizing ds with
  | nil => simp
  | cons e es ih => rw [List.foldl_cons]; show es.foldl Kl.add (.lst (ds ++ [e])) = _; rw [ih]; simp
theorem Kc_add (kvs : List (Key × D)) (e : Key × D) : Kc.add (.dct kvs) e = .dct (dput kvs e.1 e.2) := by
  show OC.dct (dput ((kvs.map (·.1)).zip (kvs.map (·.2))) e.1 e.2) = _
  rw [zip_kv]
/-- the dict of a list of stores -/
def dputs (es : List (Key × D)) : List (Key × D) := es.foldl (fun a e => dput a e.1 e.2) []
theorem Kc_fold (es kvs : List (Key × D)) : es.foldl Kc.add (.dct kvs) = .dct (es.foldl (fun a e => dput a e.1 e.2) kvs) := by
  induction es generalizing kvs with
  | nil => rfl
  | cons e es ih => rw [List.foldl_cons, List.foldl_cons, Kc_add, ih]
theorem Kd.fold_ok {ε : Type} (κ : Kd ε) (es : List ε) : ∀ {c : OC} {n : Nat}, κ.ok c n → κ.ok (es.foldl κ.add c) (n + es.length) := by
  induction es with
  | nil => intro c n h; exact h
  | cons e es ih =>
    intro c n h
    rw [List.foldl_cons, List.length_cons]
    have := ih (κ.step e h)
    rw [show n + (es.length + 1) = n + 1 + es.length by omega]
    exact this
theorem setO_out {p : Addr} {c : OC} : ∀ {O : Own}, p ∉ O.map (·.1) → setO O p c = O
  | [], _ => rfl
  | (a, x) :: O, h => by
    have h1 : ¬ a = p := fun e => h (by rw [e]; exact List.mem_cons_self)
    have h2 : p ∉ O.map (·.1) := fun e => h (List.mem_cons_of_mem _ e)
    show (if a = p then (a, c) else (a, x)) :: setO O p c = _
    rw [if_neg h1, setO_out h2]
theorem setO_hd {p : Addr} {c c' : OC} {O : Own} (h : p ∉ O.map (·.1)) : setO ((p, c) :: O) p c' = (p, c') :: O := by
  rw [setO_same, setO_out h]
theorem look_hd {p : Addr} {c : OC} {O : Own} : ((p, c) :: O : Own).lookup p = some c := by simp

/-- a clause gives es -/
def AXK {ε : Type} (κ : Kd ε) (Y : Cx) (Z : Zn) (w : Addr → (Shared → Prop) → Shared → Prop) (ρ0 ρ : Slots) (O : Own) (es : List ε) : Prop :=
  ∀ D c n, D ∉ Z.M → D ∉ O.map (·.1) → κ.ok c n → n + es.length ≤ 1000000 → AX Y Z (w D) ρ0 ρ ((D, c) :: O) fun O' => O' = (D, es.foldl κ.add c) :: O
section
variable {Y : Cx} {Z : Zn} {ρ ρ0 : Slots} {O : Own}
theorem axk_elt {elt : Expr} {es : List D} (hx : Y.xe = FF) (hf : Fewer ρ0 ρ) (h : ∀ D c, D ∉ Z.M → D ∉ O.map (·.1) → EX Y Z elt ρ ((D, c) :: O) fun e O1 => O1 = (D, c) :: O ∧ es = [e]) :
    AXK Kl Y Z (fun D => wLast Y.prog Y.w Y.A (emitL elt (.ref D) Y.env)) ρ0 ρ O es := fun D c n hm hd ⟨ds, hc, hn⟩ hl => by
  subst hc
  refine ax_elt hx hf ((h D _ hm hd).mono fun e O1 ⟨h1, h2⟩ => ?_)
  subst h1 h2
  exact ⟨ds, look_hd, by simp at hl; omega, by rw [setO_hd hd]; rfl⟩
theorem axk_put {kx vx : Expr} {es : List (Key × D)} (hx : Y.xe = FF) (hf : Fewer ρ0 ρ) (h : ∀ D c, D ∉ Z.M → D ∉ O.map (·.1) → EX Y Z kx ρ ((D, c) :: O) fun d1 O1 => EX Y Z vx ρ O1 fun d2 O2 => O2 = (D, c) :: O ∧ ∃ k, keyD d1 = some k ∧ es = [(k, d2)]) :
    AXK Kc Y Z (fun D => wLast Y.prog Y.w Y.A (emitD kx vx D Y.env)) ρ0 ρ O es := fun D c n hm hd ⟨kvs, hc, hn⟩ hl => by
  subst hc
  refine ax_put hx hf ((h D _ hm hd).mono fun d1 O1 h1 => h1.mono fun d2 O2 ⟨h2, k, hk, he⟩ => ?_)
  subst h2 he
  exact ⟨kvs, k, hk, look_hd, by simp at hl; omega, by rw [setO_hd hd, List.foldl_cons, Kc_add]; rfl⟩
/-- a clause's turns one by one -/
def TurnK {ε : Type} (κ : Kd ε) (Y : Cx) (Z : Zn) (tg : Expr) (ifs : List Expr) (w : Addr → (Shared → Prop) → Shared → Prop) (ρ : Slots) (O : Own) (ds : List D) (g : D → List ε) : Prop :=
  ∀ (i : Nat) (d : D) (D' : Addr) (c : OC), D' ∉ Z.M → D' ∉ O.map (·.1) → ds[i]? = some d → GX Y Z tg d ρ ((D', c) :: O) fun ρ2 O2 => O2 = (D', c) :: O ∧ TS Y Z ifs ρ2 O2 fun b O3 => O3 = (D', c) :: O ∧ (b = true → AXK κ Y Z w ρ ρ2 O (g d)) ∧ (b = false → Fewer ρ ρ2 ∧ g d = [])
theorem GX.mono {tg : Expr} {d : D} {R R' : Slots → Own → Prop} (h : GX Y Z tg d ρ O R) (q : ∀ ρ' O', R ρ' O' → R' ρ' O') : GX Y Z tg d ρ O R' := fun σ B H v s r =>
  EVG.mono (h σ B H v s r) fun σ' H' ⟨B', ρ', O', s', e, z⟩ => ⟨B', ρ', O', s', e, q _ _ z⟩
theorem TS.mono {ifs : List Expr} {R R' : Bool → Own → Prop} (h : TS Y Z ifs ρ O R) (q : ∀ b O', R b O' → R' b O') : TS Y Z ifs ρ O R' := fun σ B H s pins s0 I =>
  thn (h σ B H s pins s0 I) fun u s' ⟨H', I', B', O', s', b, z⟩ => ⟨H', I', B', O', s', b, q _ _ z⟩
theorem IX.mono {tg iter : Expr} {R R' : List D → (Own → Prop) → Own → Prop} (h : IX Y Z tg iter ρ O R) (q : ∀ ds Gd O', R ds Gd O' → R' ds Gd O') : IX Y Z tg iter ρ O R' := fun σ B H s pins s0 I =>
  thn (h σ B H s pins s0 I) fun v s1 h1 => thn h1 fun itv s2 ⟨it, fp, tn, J, H', e1, I2, T, st, fpk, ds, Gd, B1, O1, s1', eB, Wk, z⟩ => ⟨it, fp, tn, J, H', e1, I2, T, st, fpk, ds, Gd, B1, O1, s1', eB, Wk, q _ _ _ z⟩
theorem AX.mono {w : (Shared → Prop) → Shared → Prop} {R R' : Own → Prop} (hw : WMono w) (h : AX Y Z w ρ0 ρ O R) (q : ∀ O', R O' → R' O') : AX Y Z w ρ0 ρ O R' := fun σ B H s pins s0 I =>
  hw _ _ _ (fun s' ⟨σ', B', H', O', I', S', e, z⟩ => ⟨σ', B', H', O', I', S', e, q _ z⟩) (h σ B H s pins s0 I)
theorem flat_take {ε : Type} {ds : List D} {d : D} {i : Nat} (g : D → List ε) (h : ds[i]? = some d) : (ds.take (i + 1)).flatMap g = (ds.take i).flatMap g ++ g d := by
  rw [List.take_add_one, h]
  simp
theorem flat_le {ε : Type} (ds : List D) (g : D → List ε) (i : Nat) : ((ds.take i).flatMap g).length ≤ (ds.flatMap g).length := by
  conv => rhs; rw [← List.take_append_drop i ds]
  rw [List.flatMap_append, List.length_append]
  exact Nat.le_add_right _ _
/-- the turns' invariant -/
theorem turnK_ok {ε : Type} {κ : Kd ε} {tg : Expr} {ifs : List Expr} {w : Addr → (Shared → Prop) → Shared → Prop} {ds : List D} {g : D → List ε} {D' : Addr} {c : OC} {n : Nat} (hw : ∀ D, WMono (w D)) (ht : TurnK κ Y Z tg ifs w ρ O ds g)
    (hm : D' ∉ Z.M) (hd : D' ∉ O.map (·.1)) (hk : κ.ok c n) (hl : n + (ds.flatMap g).length ≤ 1000000) (i : Nat) (d : D) (O' : Own) (hi : ds[i]? = some d) (hO : O' = (D', ((ds.take i).flatMap g).foldl κ.add c) :: O) :
    GX Y Z tg d ρ O' fun ρ2 O2 => TS Y Z ifs ρ2 O2 fun b O3 => (b = true → AX Y Z (w D') ρ ρ2 O3 fun O4 => O4 = (D', ((ds.take (i + 1)).flatMap g).foldl κ.add c) :: O) ∧ (b = false → Fewer ρ ρ2 ∧ O3 = (D', ((ds.take (i + 1)).flatMap g).foldl κ.add c) :: O) := by
  subst hO
  have e := flat_take g hi
  have hle := flat_le ds g (i + 1)
  rw [e, List.length_append] at hle
  refine (ht i d D' _ hm hd hi).mono fun ρ2 O2 ⟨h1, h2⟩ => ?_
  subst h1
  refine h2.mono fun b O3 ⟨h3, h4, h5⟩ => ?_
  subst h3
  refine ⟨fun hb => ?_, fun hb => ⟨(h5 hb).1, ?_⟩⟩
  · refine (h4 hb D' _ _ hm hd (κ.fold_ok _ hk) (by omega)).mono (hw D') fun O4 h6 => ?_
    rw [h6, e, List.foldl_append]
  · rw [e, (h5 hb).2, List.append_nil]
theorem axk_mid {ε : Type} {κ : Kd ε} {ce : Expr} {gens : List Comprehension} {k : Nat} {tg1 it1 : Expr} {ifs1 : List Expr} {w1 : Addr → (Shared → Prop) → Shared → Prop} {es : List ε} (hic : IsComp ce gens) (hk : gens[k]? = some ⟨tg1, it1, ifs1, 0⟩)
    (hr : ∀ D, LR Y.prog Y.w Y.A ce k tg1 ifs1 (.ref D) Y.env (w1 D)) (hw : ∀ D, WMono (w1 D)) (hc : Y.calm = true) (hx : Y.xe = FF) (hf : Fewer ρ0 ρ)
    (h : ∀ D c, D ∉ Z.M → D ∉ O.map (·.1) → IX Y Z tg1 it1 ρ ((D, c) :: O) fun ds Gd O1 => O1 = (D, c) :: O ∧ (∀ c', Gd ((D, c') :: O)) ∧ ∃ g : PD.D → List ε, es = ds.flatMap g ∧ TurnK κ Y Z tg1 ifs1 w1 ρ O ds g) :
    AXK κ Y Z (fun D => wMid Y.prog Y.w Y.A ce k it1 (.ref D) Y.env) ρ0 ρ O es := fun D c n hm hd hok hl => by
  refine ax_mid hic hk (hr D) (hw D) hc hx hf ((h D c hm hd).mono fun ds Gd O1 ⟨h1, h2, g, h3, h4⟩ => ?_)
  subst h1 h3
  refine ⟨fun i O' => O' = (D, ((ds.take i).flatMap g).foldl κ.add c) :: O, rfl, fun i O' e => by rw [e]; exact h2 _, turnK_ok hw h4 hm hd hok hl, fun O' e => ?_⟩
  rw [e, List.take_length]
end

section
variable {X : Cx} {Z : Zn} {ρ : Slots} {O : Own} {ε : Type}
/-- the first clause, and all -/
def TopK (κ : Kd ε) (X : Cx) (Z : Zn) (scope : Scope) (own : List (Str × Nat)) (tg iter : Expr) (ifs : List Expr) (w : Cx → Addr → (Shared → Prop) → Shared → Prop) (ρ : Slots) (O : Own) (c0 : OC) (R : D → Own → Prop) : Prop :=
  IX X Z tg iter ρ O fun ds Gd O1 => (∀ D c, D ∉ Z.M → D ∉ O1.map (·.1) → Gd ((D, c) :: O1)) ∧ ∃ g : D → List ε, (ds.flatMap g).length ≤ 1000000 ∧
    (∀ (s : Shared) (H : Hp) (C : Addr) (cl : List (Str × Addr)) (fp : List Addr), TurnK κ (blkX X scope s H C cl fp) Z tg ifs (w (blkX X scope s H C cl fp)) (wipeD ρ (own.map (·.2))) O1 ds g) ∧
    ∀ p, p ∉ Z.M → p ∉ O1.map (·.1) → R (.raw (.ref p)) ((p, (ds.flatMap g).foldl κ.add c0) :: O1)
theorem topK_core {κ : Kd ε} {scope : Scope} {own : List (Str × Nat)} {tg iter : Expr} {ifs : List Expr} {w : Cx → Addr → (Shared → Prop) → Shared → Prop} {c0 : OC} {R : D → Own → Prop} (hw : ∀ Y D, WMono (w Y D)) (hk : κ.ok c0 0) (h : TopK κ X Z scope own tg iter ifs w ρ O c0 R) :
    IX X Z tg iter ρ O fun ds Gd O1 => ∀ D, D ∉ Z.M → D ∉ O1.map (·.1) → ∃ P : Nat → Own → Prop, P 0 ((D, c0) :: O1) ∧ (∀ i O', P i O' → Gd O') ∧
      (∀ (s : Shared) (H : Hp) (C : Addr) (cl : List (Str × Addr)) (fp : List Addr), ∀ i d O', ds[i]? = some d → P i O' → GX (blkX X scope s H C cl fp) Z tg d (wipeD ρ (own.map (·.2))) O' fun ρ2 O2 => TS (blkX X scope s H C cl fp) Z ifs ρ2 O2 fun b O3 =>
        (b = true → AX (blkX X scope s H C cl fp) Z (w (blkX X scope s H C cl fp) D) (wipeD ρ (own.map (·.2))) ρ2 O3 (P (i + 1))) ∧ (b = false → Fewer (wipeD ρ (own.map (·.2))) ρ2 ∧ P (i + 1) O3)) ∧ (∀ O', P ds.length O' → R (.raw (.ref D)) O') :=
  IX.mono h fun ds Gd O1 ⟨h1, g, h2, h3, h4⟩ D hm hd => by
    refine ⟨fun i O' => O' = (D, ((ds.take i).flatMap g).foldl κ.add c0) :: O1, rfl, fun i O' e => by rw [e]; exact h1 _ _ hm hd, fun s H C cl fp => turnK_ok (fun D => hw _ D) (h3 s H C cl fp) hm hd hk (by omega), fun O' e => ?_⟩
    rw [e, List.take_length]
    exact h4 D hm hd

theorem newL (E : Value → Shared → Prop) (Q : Value → Shared → Prop) (s : Shared) (h : Q (.ref s.heap.objs.size) { s with heap := s.heap.push { cls := .type "list", data := .seq ([] : List Value).toArray } }) : wpAny (model X.prog X.w) X.A (newList []) Q E s :=
  wpAny_newObj_type h (by show 0 ≤ sizeLine; decide)
theorem laidL (pins : List (Addr × Obj)) (σ : L2.St) (H : Hp) (s : Shared) (I : Inv X pins σ H s) : Inv X pins σ (upd H s.heap.objs.size (.lst [])) { s with heap := s.heap.push { cls := .type "list", data := .seq ([] : List Value).toArray } } :=
  I.laid (t' := s.toks) (fun b o e => Heap.get?_push_of_some _ e) (Nat.le_refl _) ⟨Nat.zero_le _, [], 0, .nil, Heap.get?_push_size _ rfl⟩
theorem newD (E : Value → Shared → Prop) (Q : Value → Shared → Prop) (s : Shared) (h : Q (.ref s.heap.objs.size) { s with heap := s.heap.push { cls := .type "dict", data := .dict #[] } }) : wpAny (model X.prog X.w) X.A newDict Q E s :=
  wpAny_newObj_type h
theorem laidD (pins : List (Addr × Obj)) (σ : L2.St) (H : Hp) (s : Shared) (I : Inv X pins σ H s) : Inv X pins σ (upd H s.heap.objs.size (.dK [])) { s with heap := s.heap.push { cls := .type "dict", data := .dict #[] } } :=
  I.laid (t' := s.toks) (fun b o e => Heap.get?_push_of_some _ e) (Nat.le_refl _) (dk_empty s.heap I.big)

/-- [elt for ..] over any clauses: R of the list of one's own -/
theorem ex_lcP {elt tg iter : Expr} {ifs : List Expr} {gs : List Comprehension} {scope : Scope} {pos : Pos} {own : List (Str × Nat)} {w : Cx → Addr → (Shared → Prop) → Shared → Prop} {R : D → Own → Prop} (hc : X.calm = true) (hN : X.N.Nodup) (ok : BlkOk X.N X.env.scope scope own)
    (hr : ∀ (s : Shared) (H : Hp) (C : Addr) (cl : List (Str × Addr)) (fp : List Addr) (D : Addr), LR X.prog X.w X.A (.ListComp elt (⟨tg, iter, ifs, 0⟩ :: gs) scope pos) 0 tg ifs (.ref D) (compEnvC scope cl C X.env) (w (blkX X scope s H C cl fp) D)) (hw : ∀ Y D, WMono (w Y D))
    (h : IX X Z tg iter ρ O fun ds Gd O1 => ∀ D, D ∉ Z.M → D ∉ O1.map (·.1) → ∃ P : Nat → Own → Prop, P 0 ((D, .lst []) :: O1) ∧ (∀ i O', P i O' → Gd O') ∧
      (∀ (s : Shared) (H : Hp) (C : Addr) (cl : List (Str × Addr)) (fp : List Addr), ∀ i d O', ds[i]? = some d → P i O' → GX (blkX X scope s H C cl fp) Z tg d (wipeD ρ (own.map (·.2))) O' fun ρ2 O2 => TS (blkX X scope s H C cl fp) Z ifs ρ2 O2 fun b O3 =>
        (b = true → AX (blkX X scope s H C cl fp) Z (w (blkX X scope s H C cl fp) D) (wipeD ρ (own.map (·.2))) ρ2 O3 (P (i + 1))) ∧ (b = false → Fewer (wipeD ρ (own.map (·.2))) ρ2 ∧ P (i + 1) O3)) ∧ (∀ O', P ds.length O' → R (.raw (.ref D)) O'))
    (hs : ∀ x, foldedSetIterable iter X.env x = pure x := by intro _; rfl) : EX X Z (.ListComp elt (⟨tg, iter, ifs, 0⟩ :: gs) scope pos) ρ O R := fun σ B H S pins s I => by
  rw [eval_ListComp]
  refine comp_core (c0 := .lst []) hc hN (.inl ⟨_, _, _, rfl⟩) newL laidL ⟨[], rfl, .nil⟩ hr hw ok hs I S h fun D C s' m H' I' q hn f => ⟨m, hn, fun h'' sb => ?_⟩
  obtain ⟨f0, f1, f2, f3, f4, f5⟩ := f
  exact ⟨.ref D, H', I'.turned (t' := s'.toks) (fun b o hb e => (sb.2 b hb).trans e) f0 f1 f3 f4 f5, rfl, q⟩
/-- name = [elt for ..] on one line, the name a local -/
theorem s1_setLcP {i : Nat} {y : Str} {py : Pos} {elt tg iter : Expr} {ifs : List Expr} {gs : List Comprehension} {scope : Scope} {pos spos : Pos} {own : List (Str × Nat)} {w : Cx → Addr → (Shared → Prop) → Shared → Prop} {E : En} (hc : X.calm = true) (hN : X.N.Nodup) (ok : BlkOk X.N X.env.scope scope own)
    (hr : ∀ (s : Shared) (H : Hp) (C : Addr) (cl : List (Str × Addr)) (fp : List Addr) (D : Addr), LR X.prog X.w X.A (.ListComp elt (⟨tg, iter, ifs, 0⟩ :: gs) scope pos) 0 tg ifs (.ref D) (compEnvC scope cl C X.env) (w (blkX X scope s H C cl fp) D)) (hw : ∀ Y D, WMono (w Y D))
    (hsw : swapsWith (.ListComp elt (⟨tg, iter, ifs, 0⟩ :: gs) scope pos) (some (.Name y py)) spos.line X.env = pure true)
    (h : IX X Z tg iter ρ O fun ds Gd O1 => ∀ D, D ∉ Z.M → D ∉ O1.map (·.1) → ∃ P : Nat → Own → Prop, P 0 ((D, .lst []) :: O1) ∧ (∀ i O', P i O' → Gd O') ∧
      (∀ (s : Shared) (H : Hp) (C : Addr) (cl : List (Str × Addr)) (fp : List Addr), ∀ i d O', ds[i]? = some d → P i O' → GX (blkX X scope s H C cl fp) Z tg d (wipeD ρ (own.map (·.2))) O' fun ρ2 O2 => TS (blkX X scope s H C cl fp) Z ifs ρ2 O2 fun b O3 =>
        (b = true → AX (blkX X scope s H C cl fp) Z (w (blkX X scope s H C cl fp) D) (wipeD ρ (own.map (·.2))) ρ2 O3 (P (i + 1))) ∧ (b = false → Fewer (wipeD ρ (own.map (·.2))) ρ2 ∧ P (i + 1) O3)) ∧ (∀ O', P ds.length O' → E.nx (ρ.set i (some (.raw (.ref D)))) O'))
    (hy : X.N[i]? = some y := by rfl) (hyl : X.env.scope.names.lookup y = some .local := by rfl) (hs : ∀ x, foldedSetIterable iter X.env x = pure x := by intro _; rfl) : S1 X Z (.Assign [.Name y py] (.ListComp elt (⟨tg, iter, ifs, 0⟩ :: gs) scope pos) spos) ρ O E := fun σ B H S pins s I => by
  rw [exec_Assign_Name_used _ _ _ _ hsw]
  refine wpAny_bind (wpAny_standAt (wpAny_bind ?_))
  show wpAny _ X.A (do let _ ← comprehension (.ListComp elt (⟨tg, iter, ifs, 0⟩ :: gs) scope pos) scope X.env (firstIterPos (⟨tg, iter, ifs, 0⟩ :: gs) pos) (newList []) false (eval iter X.env) (some (assign (.Name y py) X.env))) _ _ s
  have hlσ : i < σ.length := by rw [I.len]; exact (List.getElem?_eq_some_iff.mp hy).1
  refine wpAny_bind (thn (comp_core (R := fun d O' => True ∧ E.nx (ρ.set i (some d)) O') (c0 := .lst []) (Qf := fun _ s' => SP X pins (SE X.K Z B E) .next s') hc hN (.inl ⟨_, _, _, rfl⟩) newL laidL ⟨[], rfl, .nil⟩ hr hw ok hs I S
    (IX.mono h fun ds Gd O1 q D hm hd => by obtain ⟨P, a1, a2, a3, a4⟩ := q D hm hd; exact ⟨P, a1, a2, a3, fun O' z => ⟨trivial, a4 O' z⟩⟩) fun L C s' m H' I' q hn f => ?_) fun _ s' hq => wpAny_pure (wpAny_pure hq))
  show wpAny _ _ (assign (.Name y py) X.env (.ref L)) _ _ _
  refine wpAny_assign_Name (store_ok2 (v := V.ref L) I' hN hy (.inl hyl) rfl (fun s2 I2 ⟨a, sb, ha⟩ => ?_) (.inr hyl))
  obtain ⟨f0, f1, f2, f3, f4, f5⟩ := f
  have haC : C ≠ a := by
    rcases ha with z | z
    · rw [z]; exact f1
    · exact fun e => f4 y a z e.symm
  refine ⟨m, hn.sameBut sb haC, fun h3 sb3 => ?_⟩
  obtain ⟨d, B', O', S', r', e', hd, q⟩ := q
  exact ⟨_, H', I2.turned (t' := s2.toks) (fun b o hb e => (sb3.2 b hb).trans e) f0 f1 f3 f4 f5, B', _, O', S'.set hlσ r', e', q⟩
/-- {k: v for ..} over any clauses -/
theorem ex_dcP {kx vx tg iter : Expr} {ifs : List Expr} {gs : List Comprehension} {scope : Scope} {pos : Pos} {own : List (Str × Nat)} {w : Cx → Addr → (Shared → Prop) → Shared → Prop} {R : D → Own → Prop} (hc : X.calm = true) (hN : X.N.Nodup) (ok : BlkOk X.N X.env.scope scope own)
    (hr : ∀ (s : Shared) (H : Hp) (C : Addr) (cl : List (Str × Addr)) (fp : List Addr) (D : Addr), LR X.prog X.w X.A (.DictComp kx vx (⟨tg, iter, ifs, 0⟩ :: gs) scope pos) 0 tg ifs (.ref D) (compEnvC scope cl C X.env) (w (blkX X scope s H C cl fp) D)) (hw : ∀ Y D, WMono (w Y D))
    (h : IX X Z tg iter ρ O fun ds Gd O1 => ∀ D, D ∉ Z.M → D ∉ O1.map (·.1) → ∃ P : Nat → Own → Prop, P 0 ((D, .dct []) :: O1) ∧ (∀ i O', P i O' → Gd O') ∧
      (∀ (s : Shared) (H : Hp) (C : Addr) (cl : List (Str × Addr)) (fp : List Addr), ∀ i d O', ds[i]? = some d → P i O' → GX (blkX X scope s H C cl fp) Z tg d (wipeD ρ (own.map (·.2))) O' fun ρ2 O2 => TS (blkX X scope s H C cl fp) Z ifs ρ2 O2 fun b O3 =>
        (b = true → AX (blkX X scope s H C cl fp) Z (w (blkX X scope s H C cl fp) D) (wipeD ρ (own.map (·.2))) ρ2 O3 (P (i + 1))) ∧ (b = false → Fewer (wipeD ρ (own.map (·.2))) ρ2 ∧ P (i + 1) O3)) ∧ (∀ O', P ds.length O' → R (.raw (.ref D)) O'))
    (hs : ∀ x, foldedSetIterable iter X.env x = pure x := by intro _; rfl) : EX X Z (.DictComp kx vx (⟨tg, iter, ifs, 0⟩ :: gs) scope pos) ρ O R := fun σ B H S pins s I => by
  rw [arm_eval_DictComp]
  refine comp_core (c0 := .dct []) (use := none) hc hN (.inr ⟨_, _, _, _, rfl⟩) newD laidD ⟨[], rfl, rfl, .nil⟩ hr hw ok hs I S h fun D C s' m H' I' q hn f => ⟨m, hn, fun h'' sb => ?_⟩
  obtain ⟨f0, f1, f2, f3, f4, f5⟩ := f
  exact ⟨.ref D, H', I'.turned (t' := s'.toks) (fun b o hb e => (sb.2 b hb).trans e) f0 f1 f3 f4 f5, rfl, q⟩
end
end PD

set_option Elab.async false
set_option linter.all false
set_option autoImplicit false
set_option maxRecDepth 100000
set_option maxHeartbeats 4000000
set_option pp.maxSteps 300
/-! PD, part X: an own exception class whose __init__ says super().__init__('..'); self.f = v. -/
namespace PySem
namespace SUX
open PySem.W PySem.Calls PyProof.Rows PySem.HandSPX
/-- what the written part says of the class at C, and of its __init__ at fI (parameters self and the field's) -/
structure SuTxt (prog : Program) (K : Frag) (mg : Str → Option Value) (C fI : Addr) (qual msg : Str) : Prop where
  cls : ∃ nm q N bs bm sn sub ab col dd k0 k1 k2 k3 k5, K.lookup C = some (excClassObj nm q C N bs bm true sn sub ab col dd k0 k1 k2 k3 k5 "ValueError.__new__") ∧ refsVE bm = true
  sa : findIn K (.ref C) "__setattr__" = some (some (.builtin "object.__setattr__"))
  noN : findIn K (.ref C) ("word" : Str) = some none
  iC : findIn K (.ref C) "__init__" = some (some (.ref fI))
  tC : typeIn K (.ref fI) = some (.type "function")
  kC : keepIn K (.ref C) = true
  exC : subIn K (.ref C) (.type "BaseException") = some true
  veC : subIn K (.ref C) (.type "ValueError") = some true
  tyC : typeIn K (.ref C) = some (.type "type")
  clC : mroIn K C (.ref C) = some true
  gS : mg "super" = none
  sup : ks_superIn K C C "__init__" = some (some (.builtin "ValueError.__init__"))
  st : nsIn K cStatics "thirdparty.any" = some none
  eI : excInitIn K C [.type "ValueError", .type "Exception", .type "BaseException", .type "object"] "ValueError.__new__" = true
  top : (prog.main.scope.names.lookup ("super" : Str)).isSome = false
  fn : ∃ (oc : Value) (od : Option Addr) (doc pm : Value) (an : Option Addr) (ct : Value) (osl : Array (Option Value)) (cda cc : Addr) (ccl : Value) (cdd : Option Addr) (vs : Array Value) (ccs : Array (Option Value)) (file : Str) (tf : Tok) (cl : Value) (cld : Option Addr) (csl : Array (Option Value)) (p1 p2 q1 q2 q3 q4 q5 q6 q7 q8 q9 q10 : Pos) (cj : Nat),
    K.lookup fI = some ⟨oc, od, .func (fnX "__init__" qual { posonlyargs := [], args := [{ arg := "self", annotation := none, pos := p1 }, { arg := ("word" : Str), annotation := none, pos := p2 }], vararg := none, kwonlyargs := [], kw_defaults := [], kwarg := none, defaults := [] }
      [.Expr (.Call (.Attribute (.Call (.Name "super" q1) [] [] q2) "__init__" q3) [.Constant (.str msg) cj q4] [] q5) q6, .Assign [.Attribute (.Name "self" q7) ("word" : Str) q8] (.Name ("word" : Str) q9) q10]
      { kind := .function, names := [(PySem.Str.ofString "self", .local), (("word" : Str), .local), (PySem.Str.ofString "__class__", .free), (PySem.Str.ofString "super", .globalImplicit)], isGenerator := false, isCoroutine := false, more := [] } [("__class__", cc)] .none .none doc pm an (.ref cda) ct), osl⟩ ∧
    codeIn K (.ref cda) qual = true ∧ K.lookup cda = some ⟨ccl, cdd, .fields vs, ccs⟩ ∧ vs[2]? = some (.str file tf) ∧ ((prog.main.file : Str) == file) = true ∧ K.lookup cc = some ⟨cl, cld, .cell (some (.ref C)), csl⟩ ∧
    (∀ env : Env, eval (.Call (.Attribute (.Call (.Name "super" q1) [] [] q2) "__init__" q3) [.Constant (.str msg) cj q4] [] q5) env = (do
      let ov ← attributeBase (.Call (.Name "super" q1) [] [] q2) "__init__" env (eval (.Call (.Name "super" q1) [] [] q2) env)
      standAt q3.atName
      let (f, first) ← holding [ov] (getMethod ov "__init__" (do return (← importBound (.Call (.Name "super" q1) [] [] q2) env).getD true))
      callWith q5 f first (backTo q5 (starEach [.Constant (.str msg) cj q4] env)) [])) ∧
    ∀ x v : Value, bindArgs (fnX "__init__" qual { posonlyargs := [], args := [{ arg := "self", annotation := none, pos := p1 }, { arg := ("word" : Str), annotation := none, pos := p2 }], vararg := none, kwonlyargs := [], kw_defaults := [], kwarg := none, defaults := [] }
      [.Expr (.Call (.Attribute (.Call (.Name "super" q1) [] [] q2) "__init__" q3) [.Constant (.str msg) cj q4] [] q5) q6, .Assign [.Attribute (.Name "self" q7) ("word" : Str) q8] (.Name ("word" : Str) q9) q10]
      { kind := .function, names := [(PySem.Str.ofString "self", .local), (("word" : Str), .local), (PySem.Str.ofString "__class__", .free), (PySem.Str.ofString "super", .globalImplicit)], isGenerator := false, isCoroutine := false, more := [] } [("__class__", cc)] .none .none doc pm an (.ref cda) ct) ⟨[x, v], []⟩ = pure [(PySem.Str.ofString "self", x), (("word" : Str), v)]
/-- what __init__ leaves of a fresh exception at x -/
structure InitEnd (h h' : Heap) (x C dx : Addr) (v : Value) : Prop where
  keep : ∀ b o, b ≠ x → h.get? b = some o → h'.get? b = some o
  obj : ∃ t1, h'.get? x = some { cls := .ref C, dict := some dx, data := .fields #[.ref t1, .none, .none, .none, .bool false, .none] }
  dbig : h.objs.size ≤ dx
  dne : dx ≠ x
  ns : h'.Ns1 dx (fun y => if y = ("word" : Str) then some v else none)
structure OwnMade (h h' : Heap) (e C d : Addr) (v : Value) : Prop where
  keep : ∀ b o, h.get? b = some o → h'.get? b = some o
  new : h.objs.size ≤ e
  obj : ∃ oe vs, h'.get? e = some oe ∧ oe.cls = .ref C ∧ oe.dict = some d ∧ oe.data = .fields vs ∧ vs[1]? = some .none
  dbig : h.objs.size ≤ d
  dne : d ≠ e
  ns : h'.Ns1 d (fun y => if y = ("word" : Str) then some v else none)
theorem one_size (v : Value) : [v].length ≤ sizeLine := by
  rw [sizeLine_eq]
  exact (by decide : 1 ≤ 16777216)
section
variable {prog : Program} {w : World} {A : Around} {E : Value → Shared → Prop} {R : Result → Shared → Prop} {s : Shared} {K : Frag} {mg : Str → Option Value} {C fI : Addr} {qual msg : Str}
theorem su_init (T : SuTxt prog K mg C fI qual msg) {x t0 : Addr} {v : Value} (X : K.In s.heap) (hlim : s.heap.NoLimit) (G : s.heap.Ns mainGlobals mg)
    (Bt : ∃ mb, s.heap.Ns builtinsNs mb ∧ ∀ x : Str, x ≠ "__name__" → mb x = bootBuiltins x) (hx : s.heap.get? x = some (excO C t0)) (hnx : K.lookup x = none) (hroom : A.depth < recursionLimit)
    (hq : ∀ h' tk dx, InitEnd s.heap h' x C dx v → R (.ok (.ret .none)) { s with heap := h', toks := tk }) :
    codeAny (model prog w) A (.call (.ref fI) ⟨[.ref x, v], []⟩) R s := by
  obtain ⟨oc, od, doc, pm, an, ct, osl, cda, cc, ccl, cdd, vs, ccs, file, tf, cl, cld, csl, p1, p2, q1, q2, q3, q4, q5, q6, q7, q8, q9, q10, cj, ho, hcd, hcode, hvs, hfile, hcell, hev, hbnd⟩ := T.fn
  obtain ⟨nm, q, N, bs, bm, sn, sub, ab, col, dd, k0, k1, k2, k3, k5, hC, hbm⟩ := T.cls
  have hcl : clsIn K C = some { name := nm, bases := bs, mro := .ref C :: bm, ns := N, qualname := q, hasDict := true, slotNames := sn, subclasses := sub, abstract := ab, collection := col, hasDel := false } := by unfold clsIn; rw [hC] <;> rfl
  have hxL : x < s.heap.objs.size := Heap.lt_size hx
  refine ks_codeAny_call_defAt (binds := [("self", .ref x), (("word" : Str), v)]) hroom (X _ _ ho) rfl hlim (codeRec_of X hcd) rfl (BindsTo.of_eq (hbnd _ _)) (fun y hy => by have hy : y ∈ [(PySem.Str.ofString "self", NameKind.local), (PySem.Str.ofString "word", .local), (PySem.Str.ofString "__class__", .free), (PySem.Str.ofString "super", .globalImplicit)] := hy; simp at hy; rcases hy with rfl | rfl | rfl | rfl <;> (intro e; cases e)) (by intro y hy; simp at hy; rcases hy with rfl | rfl <;> rfl) (fun h₁ hns k₁ => ?_) rfl rfl rfl
  have X₁ : K.In h₁ := X.keeps k₁
  have hx₁ := k₁ _ _ hx
  -- the frame, the exception
  have F0 : Fr (hideAll s.heap [x]) s.heap.objs.size h₁ (fun y => ([("self", .ref x), (("word" : Str), v)] : List (Str × Value)).reverse.lookup y) := ⟨hns, fun b o e => k₁ b o (of_hideAll _ e), Nat.le_of_eq (hideAll_size _ _)⟩
  have N0 : News (hideAll s.heap [x]) s.heap.objs.size h₁ [(x, excObj C t0 none .none)] := fun p hp => by
    rw [List.mem_singleton] at hp
    subst hp
    exact ⟨hx₁, Nat.ne_of_lt hxL, hideAll_none _ List.mem_cons_self⟩
  have X0 : K.In (hideAll s.heap [x]) := fun a o e => hideAll_get _ (X a o e) fun hm => by
    rw [List.mem_singleton] at hm
    rw [hm, hnx] at e
    cases e
  have I0 : W.InstAt h₁ x (excObj C t0 none .none) C none := ⟨hx₁, rfl, rfl, trivial⟩
  -- super().__init__(msg)
  refine ks_wpAt_execs_cons (ks_wpAt_Expr_any (ks_wpAt_MethodCall (he := hev _) ?_))
  obtain ⟨oD, hD1, hD2⟩ : ∃ oD, h₁.get? C = some oD ∧ oD.data = .cls { name := nm, bases := bs, mro := .ref C :: bm, ns := N, qualname := q, hasDict := true, slotNames := sn, subclasses := sub, abstract := ab, collection := col, hasDel := false } := ⟨_, X₁ _ _ hC, rfl⟩
  obtain ⟨mb, hmb, hmb2⟩ := Bt
  refine ks_wpAt_super_base (by rfl) (by rfl) (by decide) rfl (X₁ _ _ ho) rfl rfl rfl (X₁ _ _ hcode) rfl hvs hfile T.top ?_
  refine ks_loadName_global rfl rfl (loadGlobal_builtin (G.keeps k₁) T.gS (hmb.keeps k₁) ((hmb2 _ (by decide)).trans (by decide +kernel : bootBuiltins "super" = some (.type "super"))) ⟨rfl, ?_⟩)
  refine wpAny_loadName_free rfl rfl (show List.lookup _ _ = some cc from rfl) ⟨_, X₁ _ _ hcell, rfl⟩ ?_
  refine wpAny_loadName_local rfl rfl hns rfl ?_
  refine ks_wpAny_isType_cls hD1 hD2 ⟨rfl, ?_⟩
  refine ks_wpAny_call_super hD1 hD2 hx₁ rfl (fun c e => by cases e) (looks_mroIn X₁ T.clC) (fun h₂ e k₂ => ?_)
  obtain ⟨F2, N2, l2'⟩ := ks_newsPush (s := { s with heap := h₁ }) F0 N0 rfl e k₂
  have hsx : s.heap.objs.size < h₁.objs.size := hns.lt
  have hne1 : h₁.objs.size ≠ x := Nat.ne_of_gt (Nat.lt_trans hxL hsx)
  refine kxs_method kxs_ValueError F2 X0 N2 List.mem_cons_self (⟨(N2 (x, excObj C t0 none .none) (List.mem_cons_of_mem _ List.mem_cons_self)).1, rfl, rfl, trivial⟩ : W.InstAt h₂ x (excObj C t0 none .none) C none) T.st T.sup T.veC (by decide) (fun q3' h3 F3 N3 l3 => ?_)
  have hq3x : q3' ≠ x := Nat.ne_of_gt (l3 (x, excObj C t0 none .none) (List.mem_cons_of_mem _ List.mem_cons_self))
  refine kxs_callWith1 (i := "ValueError.__init__") (x := x) N3 List.mem_cons_self ?_
  refine Calls.spliced_cons (wpAny_Constant_str (x := msg) (k := cj) (pos := q4) ?_)
  refine Calls.spliced_nil ⟨kxs_at N3 List.mem_cons_self, ?_⟩
  refine kxs_call F3 X0 N3 F.excBase_ValueError T.eI List.mem_cons_self (.tail hq3x (.tail hne1 (.head (fun p hp => nomatch hp)))) (one_size _) (fun t4 h4 F4 N4 l4 => ?_)
  -- self.word = word
  have X4 : K.In h4 := X0.keeps F4.keep
  have hx4 : h4.get? x = some (excObj C t4 none .none) := (N4 (x, excObj C t4 none .none) (by simp)).1
  have hns4 := F4.ns
  refine wpAt_of_wpAny (wpAny_execs_cons (plainObj_wpAny_Assign_Attribute ?_))
  refine wpAny_Name (wpAny_loadName_local rfl rfl hns4 (v := v) rfl ?_) (by decide)
  refine wpAny_Name (wpAny_loadName_local rfl rfl hns4 (v := .ref x) rfl ?_) (by decide)
  refine set_plain X4 (ox := excO C t4) (od := none) ⟨hx4, rfl, rfl, trivial⟩ T.sa ?_
  refine exc_osa X4 hx4 hcl (show refsVE (.ref C :: bm) = true from hbm) rfl T.noN (fun h5 tk5 dx k5 dn dne hx5 hn5 => ?_)
  show wpAny _ _ (execs _ _) _ _ _
  refine wpAny_execs_nil (hq h5 tk5 dx ⟨fun b o hb e => k5 b o hb (F4.keep b o (hideAll_get _ e fun hm => hb (List.mem_singleton.mp hm))), ⟨t4, hx5⟩, Nat.le_trans (Nat.le_of_lt hns4.lt) dn, dne, hn5⟩)
theorem su_made (T : SuTxt prog K mg C fI qual msg) {v : Value} (X : K.In s.heap) (hlim : s.heap.NoLimit) (G : s.heap.Ns mainGlobals mg)
    (Bt : ∃ mb, s.heap.Ns builtinsNs mb ∧ ∀ x : Str, x ≠ "__name__" → mb x = bootBuiltins x) (hroom : A.depth + 1 < recursionLimit)
    (hq : ∀ h' tk e d, OwnMade s.heap h' e C d v → R (.ok (.ret (.ref e))) { s with heap := h', toks := tk }) :
    codeAny (model prog w) A (.call (.ref C) ⟨[v], []⟩) R s := by
  obtain ⟨nm, q, N, bs, bm, sn, sub, ab, col, dd, k0, k1, k2, k3, k5, hC, hbm⟩ := T.cls
  obtain ⟨hp, g, dr, tk, os⟩ := s
  have k : ∀ b o, hp.get? b = some o → ((hp.push (kdv_tup [v])).push (excO C hp.objs.size)).get? b = some o := fun b o e => Heap.get?_push_of_some _ (Heap.get?_push_of_some _ e)
  have hget : ((hp.push (kdv_tup [v])).push (excO C hp.objs.size)).get? (hp.objs.size + 1) = some (excO C hp.objs.size) := by heap_get
  have hnx : K.lookup (hp.objs.size + 1) = none := by
    cases e : K.lookup (hp.objs.size + 1) with
    | none => rfl
    | some o =>
      have z : hp.get? (hp.objs.size + 1) = some o := X _ _ e
      exact absurd (Nat.lt_of_succ_lt (Heap.lt_size z)) (Nat.lt_irrefl _)
  obtain ⟨mb, hmb, hmb2⟩ := Bt
  refine call_own F.excBase_ValueError (fun X => refsVE_contains X bm hbm) (X _ _ hC) (looks_findIn X T.iC) (fun self => bind_fn X self T.tC) (one_size v) ?_
  refine su_init (s := ⟨(hp.push (kdv_tup [v])).push (excO C hp.objs.size), g, dr, tk, os⟩) T (X.keeps k) (hlim.keeps k) (G.keeps k) ⟨mb, hmb.keeps k, hmb2⟩ hget hnx ?_ fun h' tk' dx ⟨k', ⟨t1, hx⟩, dn, dne, hns⟩ => ?_
  · show A.depth + 1 < recursionLimit
    exact hroom
  · have old : ∀ b o, hp.get? b = some o → h'.get? b = some o := fun b o e => k' b o (Nat.ne_of_lt (Nat.lt_succ_of_lt (Heap.lt_size e))) (k b o e)
    have z : hp.objs.size + 1 + 1 ≤ dx := by
      first
        | (simpa only [Heap.size_push] using dn)
        | exact dn
        | (have q := dn; rw [Heap.size_push, Heap.size_push] at q; exact q)
    exact ⟨rfl, hq h' tk' (hp.objs.size + 1) dx ⟨old, Nat.le_succ _, ⟨_, _, hx, rfl, rfl, rfl, rfl⟩, Nat.le_trans (Nat.le_trans (Nat.le_succ _) (Nat.le_succ _)) z, dne, hns⟩⟩
end
end SUX
end PySem

set_option Elab.async false
set_option linter.all false
set_option autoImplicit false
set_option maxRecDepth 100000
set_option maxHeartbeats 2000000
/-! PD, part I: defs, calls, what is raised. -/
namespace PD
open PySem PySem.Spec L2
open PyProof.Rows hiding St

/-- a def over data: the arguments, what is owned, what is wanted of the result, what is wanted of an exception (its class, its word) -/
abbrev DP := List D → Own → (D → Own → Prop) → (Addr → D → Own → Prop) → Prop
abbrev X0 : Addr → D → Own → Prop := fun _ _ _ => False
def zn (B H : Hp) (O : Own) : Zn := ⟨B, H, O.map (·.1)⟩
/-- the def's promise over heaps -/
def spF (K : PySem.W.Frag) (P : DP) : Sp := fun vs H Q E => ∃ B ds O R Xr, Sts K (zn B H O) B H [] [] O ∧ Reps K B ds vs ∧ P ds O R Xr ∧
  (∀ v d B' H' O', Sts K (zn B H O) B' H' [] [] O' → Rep K B' d v → R d O' → Q v H') ∧
  (∀ C w v dx B' H' O', Sts K (zn B H O) B' H' [] [] O' → Rep K B' w v → B' dx = some (.xd [(("word" : Str), v)]) → Xr C w O' → E (.ref C) (some dx) H')
/-- an exception over data -/
def WD (K : PySem.W.Frag) (Z : Zn) (Xr : Addr → D → Own → Prop) : WX := fun cls d _ H => ∃ C w v dx B' O', cls = .ref C ∧ d = some dx ∧ Sts K Z B' H [] [] O' ∧ Rep K B' w v ∧ B' dx = some (.xd [(("word" : Str), v)]) ∧ Xr C w O'
/-- here it is taken -/
def TkD (X : Cx) (Z : Zn) (Xr : Addr → D → Own → Prop) : Prop := Takes X (WD X.K Z Xr)
theorem tkd0 {X : Cx} {Z : Zn} : TkD X Z X0 := fun _ _ x => by
  obtain ⟨_, _, _, _, _, _, _, _, _, _, _, _, _, _, _, _, _, _, _, _, _, _, _, _, _, _, _, z⟩ := x
  exact z.elim
theorem TkD.imp {X : Cx} {Z : Zn} {Xr Xr' : Addr → D → Own → Prop} (t : TkD X Z Xr) (h : ∀ C w O, Xr' C w O → Xr C w O) : TkD X Z Xr' :=
  Takes.imp t fun c d σ H ⟨C, w, v, dx, B', O', h1, h2, h3, h4, h5, h6⟩ => ⟨C, w, v, dx, B', O', h1, h2, h3, h4, h5, h _ _ _ h6⟩
section
variable {K : PySem.W.Frag} {Z : Zn} {B H B' H' : Hp} {σ : L2.St} {ρ : Slots} {O O' : Own}
theorem Sts.bare (s : Sts K Z B H σ ρ O) : Sts K Z B H [] [] O := ⟨s.gr, fun i d e => by simp at e, s.ow, s.nd, s.ma⟩
/-- at a call: the callee's entry -/
theorem Sts.enter (s : Sts K Z B H σ ρ O) : Sts K (zn B H O) B H [] [] O where
  gr := Grow.refl s.gr.bh
  sl := fun i d e => by simp at e
  ow := fun p hp => ⟨(s.ow p hp).1, (s.ow p hp).2.1, .inr (List.mem_map_of_mem hp)⟩
  nd := s.nd
  ma := fun a ha => by
    obtain ⟨p, hp, e⟩ := List.mem_map.mp ha
    obtain ⟨u, hu⟩ := (s.ow p hp).2.1.some
    have e : p.1 = a := e
    show H a ≠ none
    rw [← e, hu]
    simp
/-- behind a call -/
theorem Sts.after (s : Sts K Z B H σ ρ O) (o : Sts K (zn B H O) B' H' [] [] O') : Sts K Z B' H' σ ρ O' where
  gr := s.gr.trans o.gr fun a ha => by
    obtain ⟨p, hp, e⟩ := List.mem_map.mp (show a ∈ O.map (·.1) from ha)
    have e : p.1 = a := e
    rw [← e]
    exact (s.ow p hp).2.2.symm
  sl := fun i d e => by
    obtain ⟨v, h1, h2⟩ := s.sl i d e
    exact ⟨v, h1, h2.mono o.gr.bb _ _⟩
  ow := fun p hp => by
    obtain ⟨h1, h2, h3⟩ := o.ow p hp
    refine ⟨h1, h2, ?_⟩
    rcases h3 with h3 | h3
    · left
      cases e : Z.H p.1 with
      | none => rfl
      | some u => exact absurd (show H p.1 = none from h3) (s.gr.al p.1 (by rw [e]; simp))
    · obtain ⟨q, hq, e⟩ := List.mem_map.mp (show p.1 ∈ O.map (·.1) from h3)
      have e : q.1 = p.1 := e
      rw [← e]
      exact (s.ow q hq).2.2
  nd := o.nd
  ma := s.ma
end

/-! ### a def's body -/
section
variable {P : Program} {w : World} {K : PySem.W.Frag} {mg : Str → Option Value} {base : Heap}
/-- the slots at the entry -/
def slots0 (N : List Str) (ds : List D) : Slots := ds.map some ++ List.replicate (N.length - ds.length) none
theorem slots0_some {N : List Str} {ds : List D} {i : Nat} {d : D} (h : (slots0 N ds)[i]? = some (some d)) : ds[i]? = some d := by
  unfold slots0 at h
  by_cases hi : i < ds.length
  · rw [List.getElem?_append_left (by simpa using hi), List.getElem?_map] at h
    cases e : ds[i]? with
    | none => rw [e] at h; cases h
    | some x => rw [e] at h; cases h; rfl
  · rw [List.getElem?_append_right (by simpa using hi), List.getElem?_replicate] at h
    split at h <;> cases h
theorem start_some {N : List Str} {vs : List V} {i : Nat} {v : V} (h : vs[i]? = some v) : (start N vs)[i]? = some (some v) := by
  have hi : i < vs.length := (List.getElem?_eq_some_iff.mp h).1
  unfold L2.start
  rw [List.getElem?_append_left (by simpa using hi), List.getElem?_map, h]
  rfl
/-- the context of a def's body -/
abbrev cxD (P : Program) (w : World) (K : PySem.W.Frag) (mg : Str → Option Value) (base : Heap) (N : List Str) (qual : Str) (st : Stmt) (f : Addr) (cdv : Value) (A : Around) (outer : List Env) (s : Shared) (H : Hp) (E : XK) : Cx := cxOf (L2.CX P w) P w K mg base N qual (defScope st) f cdv A outer s H E
theorem fn_mk {x qual : Str} {st : Stmt} {f : Addr} {fd : FuncData} {N ps : List Str} {k : Nat} {Pd : DP} (F : Fun K x qual st f fd) (S : FnScope N ps (defScope st)) (hlen : ∀ ds O R Xr, Pd ds O R Xr → ds.length = ps.length)
    (body : ∀ (cdv : Value) (A : Around) (outer : List Env) (s : Shared) (H : Hp) (E : XK), Room k (cxD P w K mg base N qual st f cdv A outer s H E).A → ∀ Z ds O R Xr, Pd ds O R Xr → TkD (cxD P w K mg base N qual st f cdv A outer s H E) Z Xr →
      SX (cxD P w K mg base N qual st f cdv A outer s H E) Z (defBody st) (slots0 N ds) O { nx := fun _ O' => R .non O', rt := R }) : FnOk P w K mg base (L2.CX P w) (k + 1) f fd ps (spF K Pd) := by
  refine F.okX S (fun vs H Q E ⟨B, ds, O, R, Xr, h1, h2, h3, _⟩ => by rw [← h2.len]; exact hlen _ _ _ _ h3) fun cdv A outer s H vs Q E hr ⟨B, ds, O, R, Xr, hs, hv, hp, hq, hx⟩ => ⟨_, pss_ev, ?_⟩
  have tk : TkD (cxD P w K mg base N qual st f cdv A outer s H E) (zn B H O) Xr :=
    Takes.imp (takes_of (X := cxD P w K mg base N qual st f cdv A outer s H E) (E := E) rfl rfl rfl rfl) fun c d σ H' ⟨C, ww, v, dx, B', O', h1, h2, h3, h4, h5, h6⟩ => by
      subst h1 h2
      exact hx C ww v dx B' H' O' h3 h4 h5 h6
  have S0 : Sts K (zn B H O) B H (start N vs) (slots0 N ds) O := ⟨hs.gr, fun i d e => by
    obtain ⟨v, h1, h2⟩ := hv.get (slots0_some e)
    exact ⟨v, start_some h1, h2⟩, hs.ow, hs.nd, hs.ma⟩
  refine EVSs.mono (body cdv A outer s H E hr (zn B H O) ds O R Xr hp tk (start N vs) B H S0) (fun σ' H' ⟨B', ρ', O', s', e, z⟩ => ?_) (fun v H' ⟨d, σ', B', ρ', O', s', r, e, z⟩ => ?_) (fun σ' H' ⟨B', ρ', O', s', e, z⟩ => z) (fun σ' H' ⟨B', ρ', O', s', e, z⟩ => z)
  · exact hq _ _ _ _ _ s'.bare .non z
  · exact hq _ _ _ _ _ s'.bare r z
end

/-! ### calls -/
section
variable {X : Cx} {Z : Zn} {ρ : Slots} {O : Own} {k : Nat} {f C : Addr} {fd : FuncData} {ps : List Str} {Pd : DP} {x : Str} {p pos : Pos} {e : Expr} {es : List Expr} {R : D → Own → Prop} {Xr : Addr → D → Own → Prop}
/-- what a call's state has to give -/
theorem sp_call {B0 B H : Hp} {σ : L2.St} {ds : List D} {vs : List V} (s : Sts X.K Z B H σ ρ O) (e : Ex B0 B) (r : Reps X.K B ds vs) (h : Pd ds O R Xr) : spF X.K Pd vs H (RQ X.K Z σ ρ B0 R) (WE (WD X.K Z Xr) σ) :=
  ⟨B, ds, O, R, Xr, s.enter, r, h, fun v d B' H' O' o rv q => ⟨d, B', O', s.after o, rv, e.trans o.gr.bb, q⟩, fun C w v dx B' H' O' o rw hd q => ⟨C, w, v, dx, B', O', rfl, rfl, (s.after o).bare, rw, hd, q⟩⟩
theorem ex_call {dD : List D} {dvs : List V} {dvals : List Value} (F : FnOk X.prog X.w X.K X.mg X.base (L2.CX X.prog X.w) k f fd ps (spF X.K Pd)) (hr : Room k X.A) (hm : X.mg x = some (.ref f)) (hk : PySem.W.keepIn X.K (.ref f) = true) (hb : Binds X.K fd ps dvals) (hd : Vals dvs dvals) (hdD : ∀ B, Reps X.K B dD dvs)
    (tk : TkD X Z Xr) (h : EA X Z (e :: es) ρ O fun ds O1 => Pd (ds ++ dD) O1 R Xr) (hg : Gl X x := by rfl) (hdb : (x == ("__debug__" : Str)) = false := by decide) (he : starEach (e :: es) X.env = (false, eval e X.env) :: starEach es X.env := by rfl)
    (hpl : (backTo pos (starEach es X.env)).any (·.1) = false := by rfl) : EX X Z (.Call (.Name x p) (e :: es) [] pos) ρ O R := fun σ B H s pins s0 I => by
  refine wpAny_Call_Name_kw (ld_glob I hg hm ?_ hdb)
  refine PySem.W.callWith_K (h₀ := X.base) I.ok.mod.kin hk (thn (h σ B H s pos pins s0 I) fun us s1 ⟨vs, H1, I1, r, ds, B1, O1, S1, rd, e1, q⟩ => ⟨I1.kIn, ?_⟩) he hpl
  have rd2 : Reps X.K B1 (ds ++ dD) (vs ++ dvs) := rd.append (hdD B1)
  have r2 : Vals (vs ++ dvs) (us ++ dvals) := r.append hd
  have hl : (us ++ dvals).length = ps.length := by rw [← r2.length]; exact F.len _ _ _ _ (sp_call S1 e1 rd2 q)
  refine wpAny_call (codeAny_mono (F.run X.A X.stack s1 H1 ⟨us, []⟩ (us ++ dvals) (vs ++ dvs) _ _ hr I1.env0 (hb s1 us I1.kIn hl) r2 (sp_call S1 e1 rd2 q)) fun r s' hq => ?_)
  cases r with
  | error e => exact passAt tk σ pins H1 s1 e s' I1 hq
  | ok fl =>
    cases fl with
    | ret u => exact I1.after hq
    | next => exact False.elim hq
    | brk => exact False.elim hq
    | cont => exact False.elim hq
/-- f(e, ..), all parameters written -/
theorem ex_callF (F : FnOk X.prog X.w X.K X.mg X.base (L2.CX X.prog X.w) k f fd ps (spF X.K Pd)) (hr : Room k X.A) (hm : X.mg x = some (.ref f)) (hk : PySem.W.keepIn X.K (.ref f) = true) (hb : Binds X.K fd ps [])
    (tk : TkD X Z Xr) (h : EA X Z (e :: es) ρ O fun ds O1 => Pd ds O1 R Xr) (hg : Gl X x := by rfl) (hdb : (x == ("__debug__" : Str)) = false := by decide) (he : starEach (e :: es) X.env = (false, eval e X.env) :: starEach es X.env := by rfl)
    (hpl : (backTo pos (starEach es X.env)).any (·.1) = false := by rfl) : EX X Z (.Call (.Name x p) (e :: es) [] pos) ρ O R :=
  ex_call (dD := []) F hr hm hk hb .nil (fun _ => .nil) tk (by simpa using h) hg hdb he hpl
/-- the keywords' values -/
def EK (X : Cx) (Z : Zn) (kws : List Keyword) (ρ : Slots) (O : Own) (R : List D → Own → Prop) : Prop := ∀ σ B H, Sts X.K Z B H σ ρ O → ∀ pos pins s, Inv X pins σ H s → wpAny (model X.prog X.w) X.A (evalAll ((backToKw pos (keywordEach kws X.env)).map (·.2))) (AP X pins σ (RQA X.K Z σ ρ B R)) X.xe s
theorem ek_nil {R : List D → Own → Prop} (h : R [] O) : EK X Z [] ρ O R := fun σ B H s pos pins s0 I => wpAny_evalAll_nil ⟨[], H, I, .nil, [], B, O, s, .nil, Ex.refl _, h⟩
theorem ek_cons {nm : Option Str} {kpos : Pos} {kws : List Keyword} {R : List D → Own → Prop} (h : EX X Z e ρ O fun d O1 => EK X Z kws ρ O1 fun ds O2 => R (d :: ds) O2) : EK X Z (⟨nm, e, kpos⟩ :: kws) ρ O R := fun σ B H s pos pins s0 I => by
  show wpAny _ _ (evalAll ((do let v ← eval e X.env; standAt pos; pure v) :: (backToKw pos (keywordEach kws X.env)).map (·.2))) _ _ s0
  refine wpAny_evalAll_cons (wpAny_bind (thn (h σ B H s pins s0 I) fun u s1 ⟨v, H1, I1, r1, d1, B1, O1, S1, rd1, e1, q1⟩ => wpAny_bind (wpAny_standAt (wpAny_pure ?_))))
  exact thn (q1 σ B1 H1 S1 pos pins s1 I1) fun us s2 ⟨xs, H2, I2, r2, ds, B2, O2, S2, rd2, e2, q2⟩ => ⟨v :: xs, H2, I2, .cons r1 r2, d1 :: ds, B2, O2, S2, .cons (rd1.mono e2 _ _) rd2, e1.trans e2, q2⟩
/-- how keywords and defaults go to the parameters' places, over data -/
def KPut (K : PySem.W.Frag) (gV : List V → List V → List V) (gD : List D → List D → List D) : Prop := ∀ B ds vs ks zs, Reps K B ds vs → Reps K B ks zs → Reps K B (gD ds ks) (gV vs zs)
theorem ex_callK {n : Nat} {ks : List Str} {kws : List Keyword} {g : List Value → List Value → List Value} {gV : List V → List V → List V} {gD : List D → List D → List D} (F : FnOk X.prog X.w X.K X.mg X.base (L2.CX X.prog X.w) k f fd ps (spF X.K Pd)) (hr : Room k X.A) (hm : X.mg x = some (.ref f)) (hk : PySem.W.keepIn X.K (.ref f) = true)
    (hb : KBn X.K fd ps n ks g gV) (hgD : KPut X.K gV gD) (tk : TkD X Z Xr) (h : EA X Z (e :: es) ρ O fun ds O1 => EK X Z kws ρ O1 fun zs O2 => ds.length = n ∧ zs.length = ks.length ∧ Pd (gD ds zs) O2 R Xr)
    (hall : (backToKw pos (keywordEach kws X.env)).all (·.1.isSome) = true := by rfl) (hks : (backToKw pos (keywordEach kws X.env)).filterMap (·.1) = ks := by rfl) (hg : Gl X x := by rfl)
    (hdb : (x == ("__debug__" : Str)) = false := by decide) (he : starEach (e :: es) X.env = (false, eval e X.env) :: starEach es X.env := by rfl)
    (hpl : ((backTo pos (starEach (e :: es) X.env)).any (·.1) || (backToKw pos (keywordEach kws X.env)).any (·.1.isNone)) = false := by rfl) : EX X Z (.Call (.Name x p) (e :: es) kws pos) ρ O R := fun σ B H s pins s0 I => by
  refine wpAny_Call_Name_kw (ld_glob I hg hm ?_ hdb)
  refine PySem.W.callWith_KW (h₀ := X.base) I.ok.mod.kin hk hall (thn (h σ B H s pos pins s0 I) fun us s1 ⟨vs, H1, I1, r, ds, B1, O1, S1, rd, e1, q⟩ => ?_) hpl he
  refine thn (q σ B1 H1 S1 pos pins s1 I1) fun ws s2 ⟨zs, H2, I2, rz, ds2, B2, O2, S2, rd2, e2, l1, l2, q2⟩ => ⟨I2.kIn, ?_⟩
  rw [hks]
  have r2 := hb.rel r rz
  have rr : Reps X.K B2 (gD ds ds2) (gV vs zs) := hgD B2 _ _ _ _ (rd.mono e2 _ _) rd2
  refine wpAny_call (codeAny_mono (F.run X.A X.stack s2 H2 ⟨us, ks.zip ws⟩ (g us ws) (gV vs zs) _ _ hr I2.env0 (hb.to s2 us ws I2.kIn (by rw [← r.length, ← rd.len]; exact l1) (by rw [← rz.length, ← rd2.len]; exact l2)) r2 (sp_call S2 (e1.trans e2) rr q2)) fun r s' hq => ?_)
  cases r with
  | error e => exact passAt tk σ pins H2 s2 e s' I2 hq
  | ok fl =>
    cases fl with
    | ret u => exact I2.after hq
    | next => exact False.elim hq
    | brk => exact False.elim hq
    | cont => exact False.elim hq
/-- C(e, ..): a new instance of one's own, then __init__ -/
theorem ex_make (M : Mk X.K C f) (F : FnOk X.prog X.w X.K X.mg X.base (L2.CX X.prog X.w) k f fd ps (spF X.K Pd)) (hr : Room (k + 1) X.A) (hm : X.mg x = some (.ref C)) (hb : Binds X.K fd ps []) (tk : TkD X Z Xr)
    (h : EA X Z (e :: es) ρ O fun ds O1 => ∀ p, p ∉ Z.M → p ∉ O1.map (·.1) → Pd (.raw (.ref p) :: ds) ((p, .obj C []) :: O1) (fun d O2 => d = .non ∧ R (.raw (.ref p)) O2) Xr)
    (hg : Gl X x := by rfl) (hdb : (x == ("__debug__" : Str)) = false := by decide) (he : starEach (e :: es) X.env = (false, eval e X.env) :: starEach es X.env := by rfl)
    (hpl : (backTo pos (starEach es X.env)).any (·.1) = false := by rfl) : EX X Z (.Call (.Name x p) (e :: es) [] pos) ρ O R := fun σ B H s => by
  intro pins s0 I
  refine wpAny_Call_Name_kw (ld_glob I hg hm ?_ hdb)
  refine PySem.W.callWith_K (h₀ := X.base) I.ok.mod.kin M.kp (thn (h σ B H s pos pins s0 I) fun us s1 ⟨vs, H1, I1, r, ds, B1, O1, S1, rd, e1, q⟩ => ⟨I1.kIn, ?_⟩) he hpl
  refine run_make (dvs := []) (E := WE (WD X.K Z Xr) σ) (σ := σ) M F hr hb .nil (fun pins σ' H s e s' I' hc => tk e s' (XE.of_call I' (fun _ _ _ h => h) hc)) I1 r fun xx dx hx hd hne => ?_
  rw [List.append_nil]
  -- the instance's dict, the instance
  have g1 : Grow [] B1 H1 B1 (upd H1 dx (.own xx)) := Grow.made S1.gr.bh hd
  have S2 := S1.grow g1
  have hx' : (upd H1 dx (.own xx)) xx = none := by rw [upd_ne (Ne.symm hne)]; exact hx
  have S3 : Sts X.K Z B1 (upd (upd H1 dx (.own xx)) xx (.ins C dx [])) σ ρ ((xx, .obj C []) :: O1) := S2.own hx' ⟨dx, [], rfl, rfl, .nil⟩
  have hxO : xx ∉ O1.map (·.1) := fun hm => by
    obtain ⟨q, hq, e⟩ := List.mem_map.mp hm
    obtain ⟨u, hu⟩ := (S1.ow q hq).2.1.some
    have e : q.1 = xx := e
    rw [e, hx] at hu
    cases hu
  have rd' : Reps X.K B1 (.raw (.ref xx) :: ds) (.ref xx :: vs) := .cons (.raw _) rd
  refine ⟨B1, _, _, _, Xr, S3.enter, rd', q xx (S1.notM hx) hxO, fun v d B' H' O' o rv ⟨z1, z2⟩ => ?_, fun C w v dx B' H' O' o rw hd q => ⟨C, w, v, dx, B', O', rfl, rfl, (S3.after o).bare, rw, hd, q⟩⟩
  subst z1
  cases rv
  exact ⟨rfl, .raw (.ref xx), B', O', S3.after o, .raw _, e1.trans o.gr.bb, z2⟩
end
end PD

set_option Elab.async false
set_option linter.all false
set_option autoImplicit false
set_option maxRecDepth 100000
set_option maxHeartbeats 2000000
/-! PD, part J: raise, try. -/
namespace L2
open PySem PySem.Spec PyProof.Rows
theorem relO_su {v : V} {v' : Value} (r : RelV v v') (f : Str) : RelO (List.lookup f [(("word" : Str), v)]) (if f = "word" then some v' else none) := by
  by_cases hw : f = "word"
  · subst hw
    rw [if_pos rfl]
    have q : List.lookup ("word" : Str) [(("word" : Str), v)] = some v := by simp [List.lookup]
    rw [q]
    exact r
  · rw [if_neg hw]
    have qw : (f == ("word" : Str)) = false := by simpa using hw
    have q2 : List.lookup f [(("word" : Str), v)] = none := by simp [List.lookup, qw]
    rw [q2]
    trivial
section
variable {X : Cx} {C fI : Addr} {qual msg : Str}
/-- X(e) -/
def tMkSu (C : Addr) (ta : TA) : L2.St → Hp → XK → Prop := fun σ H Q => ta σ H fun vs H1 => ∃ v, vs = [v] ∧ ∀ d, H1 d = none → Q (.ref C) (some d) (upd H1 d (.xd [(("word" : Str), v)]))
theorem pmk_su {a : Expr} {x : Str} {ta : TA} {p pos : Pos} {k : Nat} (T : PySem.SUX.SuTxt X.prog X.K X.mg C fI qual msg) (gC : X.mg x = some (.ref C)) (hr : Room k X.A) (ha : PA X [a] ta) (hg : Gl X x := by rfl)
    (hdb : (x == ("__debug__" : Str)) = false := by decide) (he : starEach (a :: []) X.env = (false, eval a X.env) :: starEach [] X.env := by rfl) (hpl : (backTo pos (starEach [] X.env)).any (·.1) = false := by rfl) :
    PMk X (.Call (.Name x p) [a] [] pos) (tMkSu C ta) := by
  intro pins s σ H Q I h
  refine wpAny_Call_Name_kw (ld_glob I hg gC ?_ hdb)
  refine PySem.W.callWith_K (h₀ := X.base) I.ok.mod.kin T.kC (thn (ha.run pos pins s σ H _ I h) fun us s1 hh => ?_) he hpl
  obtain ⟨vs, H1, I1, r1, v, ev, q1⟩ := hh
  subst ev
  refine ⟨I1.kIn, ?_⟩
  cases r1 with
  | cons rv rn =>
    rename_i v' us'
    cases rn
    show wpAny _ _ (call (.ref C) [v']) _ _ _
    have hlim := I1.nolimit
    have hG := I1.mod.glob.keeps I1.bk
    obtain ⟨mb, hB1, hB2⟩ := I1.mod.blt
    have hB := hB1.keeps I1.bk
    obtain ⟨hp, g, dr, tk, os⟩ := s1
    refine wpAny_call (PySem.SUX.su_made T I1.kIn hlim hG ⟨mb, hB, hB2⟩ (by have := hr.dp; omega) fun h' tk' e d M => ?_)
    show MkP X pins σ Q (.ref e) ⟨h', g, dr, tk', os⟩
    obtain ⟨oe, fv, hoe, hc, hd, hdat, h1⟩ := M.obj
    have hns := M.ns
    obtain ⟨G', g1, g2⟩ := restrict h' fun b => decide (b ≠ e)
    have gk : ∀ b, b ≠ e → G'.get? b = h'.get? b := fun b hb => g1 b (decide_eq_true hb)
    have ge : G'.get? e = none := g2 e (by simp)
    have old : ∀ b o, hp.get? b = some o → G'.get? b = some o := fun b o q => (gk b (Nat.ne_of_lt (Nat.lt_of_lt_of_le (Heap.lt_size q) M.new))).trans (M.keep b o q)
    have ob : ObjOk X.prog X.w (upd H1 d (.xd [(("word" : Str), v)])) G' d (.xd [(("word" : Str), v)]) :=
      ⟨_, hns.at (fun o q => (gk d M.dne).trans q), fun f => relO_su rv f⟩
    have J : Inv X pins σ (upd H1 d (.xd [(("word" : Str), v)])) ⟨G', g, dr, tk', os⟩ := I1.laid (t' := tk') old M.dbig ob
    refine ⟨e, oe, fv, ⟨G', g, dr, tk', os⟩, _, .ref C, some d, rfl, J, fun b o q => ?_, ge, hoe, ⟨hc, hd⟩, hdat, h1, ?_, rfl, I1.bare, raises_own T.exC T.tyC, q1 d (I1.hok.fresh M.dbig)⟩
    · by_cases hb : b = e
      · have q' : G'.get? b = some o := q
        rw [hb, ge] at q'; cases q'
      · exact (gk b hb).symm.trans q
    · rw [upd_ne (Ne.symm M.dne)]
      exact I1.hok.fresh M.new
end
/-! ### several clauses «except C as n» -/
/-- what the clauses wish of an exception of the body, one after the other -/
def wManyAs (K : PySem.W.Frag) (Wout : WX) (D : Ends) : List (Value × Nat × (Addr → Value → Option Addr → TS)) → WX
  | [] => Wout
  | (c, i, ts) :: r => fun cls d σ H => ∃ b, PySem.W.exmOne K cls c = some b ∧
      (b = true → ∀ a, H a = none → ts a cls d { nx := fun σ' H' => D.nx (σ'.set i none) H', rt := D.rt, bk := fun σ' H' => D.bk (σ'.set i none) H', ct := fun σ' H' => D.ct (σ'.set i none) H' } (σ.set i (some (.ref a))) H) ∧ (b = false → wManyAs K Wout D r cls d σ H)
inductive HdsAs (X : Cx) : List ExceptHandler → List (Value × Nat × (Addr → Value → Option Addr → TS)) → Prop
  | nil : HdsAs X [] []
  | cons {x n : Str} {i : Nat} {c : Value} {ts : Addr → Value → Option Addr → TS} {b₀ : Stmt} {suite : List Stmt} {np pos' : Pos} {hds : List ExceptHandler} {l : List (Value × Nat × (Addr → Value → Option Addr → TS))} (hc : Names X x c) (hi : X.N[i]? = some n) (hln : X.env.kindOf n = some .local)
      (hsu : ∀ (a : Addr) (oe : Obj) (cls : Value) (d : Option Addr) (pn : List (Addr × Obj)), Zc cls d oe → (∃ vs, oe.data = .fields vs) → PSs (X.suite a ((a, oe) :: pn)) (b₀ :: suite) (ts a cls d)) (r : HdsAs X hds l) :
      HdsAs X (.ExceptHandler (some (.Name x np)) (some n) (b₀ :: suite) pos' :: hds) ((c, i, ts) :: l)
section
variable {X : Cx} {body : List Stmt} {h₀ : ExceptHandler} {hds : List ExceptHandler} {l : List (Value × Nat × (Addr → Value → Option Addr → TS))} {pos : Pos} {tb : WX → TS} {Wout : WX}
theorem ps_try_manyAs (hs : X.stack = X.env :: X.outer) (hf : X.env.frame = some X.env.locals) (hN : X.N.Nodup) (tk : Takes X Wout)
    (hb : ∀ (W : WX) (pn : List (Addr × Obj)) (xe : Value → Shared → Prop), Takes (X.tr pn xe) W → PassesOwn (model X.prog X.w) X.A X.env xe → PSs (X.tr pn xe) body (tb W))
    (hh : HdsAs X (h₀ :: hds) l) : PS X (.Try body (h₀ :: hds) [] [] pos) (fun D σ H => tb (wManyAs X.K Wout D l) D σ H) := by
  refine ⟨fun pins s σ H D I h => ?_⟩
  have ok := I.ok
  have hfr : X.A.frames = some (X.env :: X.outer) := by rw [ok.frames, hs]
  refine wpAny_Try_except ?_
  refine wpAny_mono ((hb (wManyAs X.K Wout D l) (X.pn ++ pins) (fun e s₁ => wpAny (model X.prog X.w) X.A (noteFrame e X.env) (fun _ s₂ => wpAny (model X.prog X.w) X.A (setFlight e none) (fun _ s₃ =>
    wpAny (model X.prog X.w) X.A (handleBy e X.env (h₀ :: hds)) (SP X pins D) X.xe s₃) X.xe s₂) X.xe s₁) (fun u s' xx => ?_) PassesOwn.looking).run [] s σ H D (I.toTry _) h) (fun f s1 hsp => ?_) (fun e s1 he => he)
  · -- the catch
    obtain ⟨a, B, sI, pins', σ', H', cls, d, rfl, J', nb, up, sky, na, os, ag, w⟩ := xx
    have J : Inv X pins σ' H' sI := J'.ofTry ok
    have sky' : Sky B (X.env :: X.outer) a (Zc cls d) X.env.locals s'.heap := by rw [← hs]; exact sky
    show wpAny (model X.prog X.w) X.A (noteFrame (.ref a) X.env) _ _ _
    refine Sky.land Zc.steady hfr hf sky' fun h3 fl3 up3 => ?_
    have J3 : Inv X pins σ' H' { s' with heap := h3 } := J.landed nb fl3.1 (up.trans up3) os ag
    obtain ⟨oe3, vs3, he3, hz3, hd3⟩ := fl3.there
    have notFr : ∀ {h : Heap} {o : Obj} {vs : Array Value}, h.FunFrames B (X.env :: X.outer) → h.get? a = some o → o.data = .fields vs → a ∉ frs (X.env :: X.outer) := fun {h o vs} ff e dd hm => by
      obtain ⟨_, o', e', hnf⟩ := ff.mem hm
      rw [e] at e'; cases e'
      exact hnf _ dd
    have nfr := notFr fl3.2.2.1 he3 hd3
    have nL : a ≠ X.env.locals := fun z => nfr (List.mem_filterMap.mpr ⟨X.env, List.mem_cons_self, by rw [hf, z]⟩)
    have nF : a ∉ X.fs := fun hm => by
      obtain ⟨e, he, q⟩ := List.mem_filterMap.mp hm
      exact nfr (List.mem_filterMap.mpr ⟨e, List.mem_cons_of_mem _ he, q⟩)
    have S3 := J3.suite he3 hd3 na nL nF
    have go : ∀ {hds' : List ExceptHandler} {l' : List (Value × Nat × (Addr → Value → Option Addr → TS))}, HdsAs X hds' l' → wManyAs X.K Wout D l' cls d σ' H' →
        wpAny (model X.prog X.w) X.A (handleBy (.ref a) X.env hds') (SP X pins D) X.xe { s' with heap := h3 } := by
      intro hds' l' hk
      induction hk with
      | nil =>
        intro w
        refine wpAny_handleBy_nil ?_
        obtain ⟨k1, k2, k3, oe, vs, T, oT, ts', he, hz, hd, h1, hr⟩ := id fl3
        unfold PySem.passOn
        refine wpAny_bind (wpAny_field he hd h1 ?_)
        rw [if_neg (show ¬ ((Value.ref T == Value.none) = true) from by simp)]
        have fin : wpAny (model X.prog X.w) X.A (setFlight (.ref a) X.env.frame) (fun _ s4 => wpAny (model X.prog X.w) X.A (throw (.ref a) : Sem Flow) (SP X pins D) X.xe s4) X.xe { s' with heap := h3 } := by
          rw [hf]
          refine HandSPX.setFlight_upZ fl3 fun h4 hh4 up4 => wpAny_throw (tk _ _ ?_)
          exact ⟨a, B, sI, pins, σ', H', cls, d, rfl, J, nb, (up.trans up3).trans up4, .inr (.inr (by rw [hs]; exact hh4)), na, os, ag, w⟩
        first
          | exact wpAny_bind (wpAny_pure (wpAny_bind fin))
          | exact wpAny_bind fin
      | @cons x n i c ts b₀ suite np pos' hds2 l2 hc hi hln hsu r ih =>
        intro w
        have hloc : Loc X.env.scope n := .inl hln
        obtain ⟨b, hb1, hyes, hno⟩ := w
        refine wpAny_handleBy_cons (codeAny_handlers_test ?_) (by intro q; cases q)
        have LT : PySem.W.Looks (model X.prog X.w) h3 (typeOf (.ref a)) cls := fun A Q E s k q => wpAny_typeOf_ref (k _ _ he3) (by rw [hz3.1]; exact q)
        have LM := PySem.W.exm_one (M := model X.prog X.w) (J3.kIn) LT hb1
        have test : ∀ {Q : Value → Shared → Prop} {E : Value → Shared → Prop}, Q c { s' with heap := h3 } → wpAny (model X.prog X.w) (X.A.mark (some (.ref a))) (eval (.Name x np) X.env) Q E { s' with heap := h3 } := fun {Q E} q => by
          obtain ⟨hg, hdbg, hm | ⟨hm, hv, hnn⟩⟩ := hc
          · exact ld_glob (X := X.suite a ((a, oe3) :: (X.pn ++ pins))) S3 hg hm q hdbg
          · exact ld_blt (X := X.suite a ((a, oe3) :: (X.pn ++ pins))) S3 hg hm hv q hnn hdbg
        refine test (LM.here ?_)
        cases b with
        | true =>
          refine codeAny_handlers_suite_as ?_
          refine HandSPX.lands_againZ fl3 fun h4 fl4 up4 => ?_
          have J4 : Inv X pins σ' H' { s' with heap := h4 } := J.landed nb fl4.1 ((up.trans up3).trans up4) os ag
          obtain ⟨oe4, vs4, he4, hz4, hd4⟩ := fl4.there
          have S4 := J4.suite he4 hd4 na nL nF
          refine store_ok (X := X.suite a ((a, oe4) :: (X.pn ++ pins))) (v := .ref a) S4 hN hi hloc rfl (fun s5 S5 => ?_) (.inr hln)
          refine wpAny_mono ((hsu a oe4 cls d (X.pn ++ pins) hz4 ⟨_, hd4⟩).run [] s5 _ H' _ S5 (hyes rfl a na)) (fun f s6 hsp => ?_) (fun _ _ z => False.elim z)
          have end_ : ∀ {σ6 : L2.St} {H6 : Hp} {Q : Shared → Prop}, Inv (X.suite a ((a, oe4) :: (X.pn ++ pins))) [] σ6 H6 s6 → (∀ s7, Inv X pins (σ6.set i none) H6 s7 → Q s7) →
              wpAny (model X.prog X.w) X.A (do bindName X.env n .none; unbindBehindTheSuite X.env n pos') (fun _ s7 => Q s7) X.xe s6 := fun {σ6 H6 Q} S6 hq => gone_ok (S6.unsuite ok) hN hi hln hq
          cases f with
          | next =>
            obtain ⟨σ6, H6, S6, q6⟩ := hsp
            exact end_ S6 fun s7 J7 => ⟨_, _, J7, q6⟩
          | brk =>
            obtain ⟨σ6, H6, S6, q6⟩ := hsp
            exact end_ S6 fun s7 J7 => ⟨_, _, J7, q6⟩
          | cont =>
            obtain ⟨σ6, H6, S6, q6⟩ := hsp
            exact end_ S6 fun s7 J7 => ⟨_, _, J7, q6⟩
          | ret u =>
            obtain ⟨v6, σ6, H6, S6, r6, q6⟩ := hsp
            exact end_ S6 fun s7 J7 => ⟨_, _, _, J7, r6, q6⟩
        | false =>
          show wpAny _ X.A (handleBy (.ref a) X.env hds2) _ _ _
          exact ih (hno rfl)
    exact go hh w
  · cases f with
    | next =>
      obtain ⟨σ', H', J', q⟩ := hsp
      exact wpAny_execs_nil ⟨σ', H', J'.ofTry ok, q⟩
    | brk =>
      obtain ⟨σ', H', J', q⟩ := hsp
      exact ⟨σ', H', J'.ofTry ok, q⟩
    | cont =>
      obtain ⟨σ', H', J', q⟩ := hsp
      exact ⟨σ', H', J'.ofTry ok, q⟩
    | ret u =>
      obtain ⟨v, σ', H', J', r, q⟩ := hsp
      exact ⟨v, σ', H', J'.ofTry ok, r, q⟩
end
end L2
namespace PD
open PySem PySem.Spec L2
open PyProof.Rows hiding St
section
variable {X : Cx} {Z : Zn} {ρ : Slots} {O : Own} {E : En} {Xr : Addr → D → Own → Prop}
/-- raise C(e) -/
theorem s1_raise {C fI : Addr} {qual msg x : Str} {a : Expr} {p pos pos2 : Pos} {k : Nat} (hc : X.calm = true) (T : PySem.SUX.SuTxt X.prog X.K X.mg C fI qual msg) (gC : X.mg x = some (.ref C)) (hr : Room k X.A) (tk : TkD X Z Xr)
    (h : EX X Z a ρ O fun d O1 => Xr C d O1) (hg : Gl X x := by rfl) (hdb : (x == ("__debug__" : Str)) = false := by decide) (he : starEach (a :: []) X.env = (false, eval a X.env) :: starEach [] X.env := by rfl) (hpl : (backTo pos (starEach [] X.env)).any (·.1) = false := by rfl) :
    S1 X Z (.Raise (some (.Call (.Name x p) [a] [] pos)) none pos2) ρ O E := fun σ B H s => by
  refine EVS.of (ps_raise hc tk (pmk_su T gC hr (pa_cons pe_ev pa_nil he) hg hdb he hpl)) ?_
  refine (h σ B H s).mono fun v H1 ⟨d, B1, O1, s1, r1, e1, q⟩ => ⟨v, rfl, fun dx hdx => ?_⟩
  have g := Grow.laid (M := []) (o := .xd [(("word" : Str), v)]) s1.gr.bh hdx
  exact ⟨C, d, v, dx, _, O1, rfl, rfl, (s1.grow g).bare, r1.mono g.bb _ _, upd_same, q⟩

/-! ### try: ..; except C as n: ..; .. -/
/-- the context of a suite, the exception at a -/
abbrev suX (X : Cx) (a : Addr) (oe : Obj) (pn : List (Addr × Obj)) : Cx := X.suite a ((a, oe) :: pn)
/-- a clause: its class, its name's slot, its suite -/
structure Cl where
  x : Str
  np : Pos
  n : Str
  b0 : Stmt
  suite : List Stmt
  pos : Pos
  C : Addr
  i : Nat
def Cl.hd (c : Cl) : ExceptHandler := .ExceptHandler (some (.Name c.x c.np)) (some c.n) (c.b0 :: c.suite) c.pos
/-- what is wanted of an exception of the class C with the word w: the first clause that takes it runs -/
def CatchD (X : Cx) (Z : Zn) (E : En) (Xo : Addr → D → Own → Prop) : List Cl → Addr → D → Own → Prop
  | [], C, w, O => Xo C w O
  | c :: r, C, w, O => ∃ b, PySem.W.exmOne X.K (.ref C) (.ref c.C) = some b ∧
      (b = true → ∀ (a : Addr) (oe : Obj) (dx : Addr) (pn : List (Addr × Obj)), Zc (.ref C) (some dx) oe → (∃ vs, oe.data = .fields vs) → SX (suX X a oe pn) Z (c.b0 :: c.suite) (List.replicate c.i none ++ [some (.err a dx w)]) O { nx := fun _ O' => E.nx [] O', rt := E.rt, bk := fun _ O' => E.bk [] O', ct := fun _ O' => E.ct [] O' }) ∧
      (b = false → CatchD X Z E Xo r C w O)
theorem Sts.enter2 {K : PySem.W.Frag} {B H : Hp} {σ : L2.St} (s : Sts K Z B H σ ρ O) : Sts K (zn B H O) B H σ ρ O := ⟨s.enter.gr, s.sl, s.enter.ow, s.nd, s.enter.ma⟩
theorem Sts.after2 {K : PySem.W.Frag} {B H B' H' : Hp} {σ σ' : L2.St} {ρ' : Slots} {O' : Own} (s : Sts K Z B H σ ρ O) (o : Sts K (zn B H O) B' H' σ' ρ' O') : Sts K Z B' H' σ' ρ' O' :=
  ⟨(s.after o.bare).gr, o.sl, (s.after o.bare).ow, o.nd, s.ma⟩
theorem Sts.set' {K : PySem.W.Frag} {B H : Hp} {σ : L2.St} {i : Nat} {v : V} {d : D} (s : Sts K Z B H [] [] O) (hi : i < σ.length) (r : Rep K B d v) : Sts K Z B H (σ.set i (some v)) (List.replicate i none ++ [some d]) O :=
  ⟨s.gr, fun j e h => by
    by_cases z : j < i
    · rw [List.getElem?_append_left (by simpa using z), List.getElem?_replicate] at h
      split at h <;> cases h
    · rw [List.getElem?_append_right (by simpa using z)] at h
      have zj : j = i := by
        have := (List.getElem?_eq_some_iff.mp h).1
        simp at this
        omega
      subst zj
      simp at h
      subst h
      exact ⟨v, List.getElem?_set_self hi, r⟩, s.ow, s.nd, s.ma⟩
theorem s1_try {body : List Stmt} {c : Cl} {cs : List Cl} {pos : Pos} {Xo : Addr → D → Own → Prop} (hs : X.stack = X.env :: X.outer) (hf : X.env.frame = some X.env.locals) (hN : X.N.Nodup) (tk : TkD X Z Xo)
    (hcs : ∀ q ∈ c :: cs, Names X q.x (.ref q.C) ∧ X.N[q.i]? = some q.n ∧ X.env.kindOf q.n = some .local)
    (hb : ∀ (Z' : Zn), Z'.M = O.map (·.1) → ∀ (pn : List (Addr × Obj)) (xe : Value → Shared → Prop), TkD (X.tr pn xe) Z' (CatchD X Z E Xo (c :: cs)) → PassesOwn (model X.prog X.w) X.A X.env xe → SX (X.tr pn xe) Z' body ρ O E) :
    S1 X Z (.Try body ((c :: cs).map Cl.hd) [] [] pos) ρ O E := fun σ B H s => by
  intro pins s0 I
  have hlen : σ.length = X.N.length := I.len
  revert pins s0 I
  show EVS X _ σ H _
  -- the clauses' readings: what their suites do
  let tsOf : Cl → Addr → Value → Option Addr → L2.TS := fun q a cls d => fun D' σ' H' => ∀ (oe : Obj) (pn : List (Addr × Obj)), Zc cls d oe → (∃ vs, oe.data = .fields vs) → EVSs (suX X a oe pn) (q.b0 :: q.suite) σ' H' D'
  have hh : ∀ l : List Cl, (∀ q ∈ l, Names X q.x (.ref q.C) ∧ X.N[q.i]? = some q.n ∧ X.env.kindOf q.n = some .local) → HdsAs X (l.map Cl.hd) (l.map fun q => (.ref q.C, q.i, tsOf q)) := by
    intro l
    induction l with
    | nil => intro _; exact .nil
    | cons q l ih =>
      intro hq
      obtain ⟨h1, h2, h3⟩ := hq q List.mem_cons_self
      exact .cons h1 h2 h3 (fun a oe cls d pn hz hd => ⟨fun pins s σ H D I h => h oe pn hz hd pins s I⟩) (ih fun q' hq' => hq q' (List.mem_cons_of_mem _ hq'))
  refine EVS.of (ps_try_manyAs (tb := fun W => fun D' σ' H' => σ'.length = X.N.length → ∀ (pn : List (Addr × Obj)) (xe : Value → Shared → Prop), Takes (X.tr pn xe) (fun cls d σ H => σ.length = X.N.length ∧ W cls d σ H) → PassesOwn (model X.prog X.w) X.A X.env xe → EVSs (X.tr pn xe) body σ' H' D') (Wout := WD X.K Z Xo) hs hf hN tk
    (fun W pn xe t p => ⟨fun pins s σ H D I h => h I.len pn xe (fun u s' x => t u s' ?_) p pins s I⟩) (hh (c :: cs) hcs)) ?_
  · obtain ⟨a, B, sI, pins', σ', H', cls, d, e1, J', nb, up, sky, na, os, ag, w1, w2⟩ := x
    exact ⟨a, B, sI, pins', σ', H', cls, d, e1, J', nb, up, sky, na, os, ag, w2⟩
  intro hl pn xe t p
  have conv : ∀ {B' H' : Hp} {σ' : L2.St} {ρ' : Slots} {O' : Own}, Sts X.K (zn B H O) B' H' σ' ρ' O' → Sts X.K Z B' H' σ' ρ' O' ∧ Ex B B' := fun o => ⟨s.after2 o, o.gr.bb⟩
  have tk' : TkD (X.tr pn xe) (zn B H O) (CatchD X Z E Xo (c :: cs)) := by
    intro u s' ⟨a0, B1, sI, pins', σ', H', cls, d, e1, J', nb, up, sky, na0, os, ag, C, w, v, dx, B', O', h1, h2, S', rw', hdx, q⟩
    subst h1 h2
    refine t u s' ⟨a0, B1, sI, pins', σ', H', _, _, e1, J', nb, up, sky, na0, os, ag, J'.len, ?_⟩
    have hlσ : σ'.length = X.N.length := J'.len
    obtain ⟨S2, eB⟩ := conv S'
    have key : ∀ l : List Cl, (∀ q ∈ l, q ∈ c :: cs) → CatchD X Z E Xo l C w O' → wManyAs X.K (WD X.K Z Xo) (SE X.K Z B E) (l.map fun q => (.ref q.C, q.i, tsOf q)) (.ref C) (some dx) σ' H' := by
      intro l
      induction l with
      | nil => intro _ z; exact ⟨C, w, v, dx, B', O', rfl, rfl, S2, rw', hdx, z⟩
      | cons q l ih =>
        intro hl z
        obtain ⟨b, hb1, hy, hn⟩ := z
        refine ⟨b, hb1, fun hbt a na oe pn hz hd => ?_, fun hbf => ih (fun q' hq' => hl q' (List.mem_cons_of_mem _ hq')) (hn hbf)⟩
        have hi : q.i < σ'.length := by rw [hlσ]; exact (List.getElem?_eq_some_iff.mp (hcs q (hl q List.mem_cons_self)).2.1).1
        have S3 : Sts X.K Z B' H' (σ'.set q.i (some (.ref a))) (List.replicate q.i none ++ [some (.err a dx w)]) O' := S2.set' hi (.err hdx rw')
        refine EVSs.mono (hy hbt a oe dx pn hz hd _ B' H' S3) (fun σ2 H2 z => ?_) (fun v H2 z => ?_) (fun σ2 H2 z => ?_) (fun σ2 H2 z => ?_)
        · obtain ⟨B2, ρ2, O2, s2, e2, q2⟩ := z
          exact ⟨B2, [], O2, ((s2.unset (i := q.i)).fewer fun j e h => by simp at h), eB.trans e2, q2⟩
        · obtain ⟨d2, σ2, B2, ρ2, O2, s2, r2, e2, q2⟩ := z
          exact ⟨d2, σ2, B2, ρ2, O2, s2, r2, eB.trans e2, q2⟩
        · obtain ⟨B2, ρ2, O2, s2, e2, q2⟩ := z
          exact ⟨B2, [], O2, ((s2.unset (i := q.i)).fewer fun j e h => by simp at h), eB.trans e2, q2⟩
        · obtain ⟨B2, ρ2, O2, s2, e2, q2⟩ := z
          exact ⟨B2, [], O2, ((s2.unset (i := q.i)).fewer fun j e h => by simp at h), eB.trans e2, q2⟩
    exact key (c :: cs) (fun _ z => z) q
  refine EVSs.mono (hb (zn B H O) rfl pn xe tk' p σ B H s.enter2) (fun σ2 H2 z => ?_) (fun v H2 z => ?_) (fun σ2 H2 z => ?_) (fun σ2 H2 z => ?_)
  · obtain ⟨B2, ρ2, O2, s2, e2, q2⟩ := z
    exact ⟨B2, ρ2, O2, (conv s2).1, e2, q2⟩
  · obtain ⟨d2, σ2, B2, ρ2, O2, s2, r2, e2, q2⟩ := z
    exact ⟨d2, σ2, B2, ρ2, O2, (conv s2).1, r2, e2, q2⟩
  · obtain ⟨B2, ρ2, O2, s2, e2, q2⟩ := z
    exact ⟨B2, ρ2, O2, (conv s2).1, e2, q2⟩
  · obtain ⟨B2, ρ2, O2, s2, e2, q2⟩ := z
    exact ⟨B2, ρ2, O2, (conv s2).1, e2, q2⟩
/-- error.word in a suite -/
theorem ex_word {a : Addr} {oe : Obj} {C dx : Addr} {pn : List (Addr × Obj)} {e : Expr} {pos : Pos} {R : D → Own → Prop} (T : XfC X.K C) (hno : PySem.W.findIn X.K (.ref C) "word" = some none) (hz : Zc (.ref C) (some dx) oe) (hf : ∃ vs, oe.data = .fields vs)
    (h : EX (suX X a oe pn) Z e ρ O fun d O1 => ∃ w, d = .err a dx w ∧ R w O1) (hb : attributeBase e "word" X.env (eval e X.env) = eval e X.env := by rfl) : EX (suX X a oe pn) Z (.Attribute e "word" pos) ρ O R := fun σ B H s => by
  refine EV.of (pe_xf (cls := .ref C) (d := some dx) T hno hz hf pe_ev hb) ?_
  refine (h σ B H s).mono fun v1 H1 ⟨d1, B1, O1, s1, r1, e1, w, x, q⟩ => ?_
  subst x
  cases r1 with
  | err h1 h2 => exact ⟨rfl, rfl, dx, _, _, rfl, s1.gr.bh _ _ h1, by simp [List.lookup], w, B1, O1, s1, h2, e1, q⟩
end
end PD

set_option Elab.async false
set_option linter.all false
set_option autoImplicit false
set_option maxRecDepth 100000
set_option maxHeartbeats 2000000
/-! PD, part K: enumerate over a tuple, items of a dict, texts sign by sign. -/
namespace PySem
open Sem (wp)
set_option maxHeartbeats 1000000 in
theorem enum1_meets {v : Value} {o : Obj} {H : Heap → Prop} (B : Begins v o H) :
    Meets (Builtin.«enumerate.__new__» ⟨[.type "enumerate", v], []⟩) (fun _ R s => H s.heap ∧
      R (.ok (.ret (.ref (s.heap.push o).objs.size))) { s with heap := (s.heap.push o).push { cls := .type "enumerate", data := .fields #[.none, .bool false, .ref s.heap.objs.size, rawInt 0, .none, .none] } }) :=
  .of_wp fun prog w A R s h => by
    obtain ⟨hp, g, d, tk, os⟩ := s
    obtain ⟨h1, h⟩ := h
    have hsub := sub_enumerate
    have q1 : ∀ {A' : Around} {E : Value → Shared → Prop} {Q : Value → Shared → Prop}, Q (.ref hp.objs.size) ⟨hp.push o, g, d, tk, os⟩ → wpAny (model prog w) A' (pyIter v) Q E ⟨hp, g, d, tk, os⟩ :=
      fun q => B.iter prog w _ _ ⟨hp, g, d, tk, os⟩ _ h1 q
    wp_walk using q1
    refine wpAny_stack_any fun st => wpAny_pure ?_
    split
    · rename_i c _ _ _ _ _
      cases (c == Value.type "enumerate") <;> (wp_walk using q1; exact ⟨_, rfl, h⟩)
    · wp_walk using q1
      exact ⟨_, rfl, h⟩
section
variable {prog : Program} {w : World} {A : Around} {E : Value → Shared → Prop} {s : Shared}
/-- enumerate(v): its two new cells -/
theorem enum1_begins {v : Value} {o : Obj} {H : Heap → Prop} {Q : Value → Shared → Prop} (B : Begins v o H) (h1 : H s.heap)
    (h : ∀ h', IsEnum h' (s.heap.objs.size + 1) s.heap.objs.size 0 .none → h'.get? s.heap.objs.size = some o → h'.objs.size = s.heap.objs.size + 2 →
      (∀ b o, s.heap.get? b = some o → h'.get? b = some o) → Q (.ref (s.heap.objs.size + 1)) { s with heap := h' }) :
    wpAny (model prog w) A (call (.type "enumerate") [v]) Q E s := by
  refine callType_new F.called_enumerate (by decide) (F.typeCall_enumerate_1 _) (F.newCall_enumerate_1 _) (fun obj => F.args_object_init_2 obj _) F.entry_enumerate_new (enum1_meets B) ⟨h1, ?_⟩
  have hz : (s.heap.push o).objs.size = s.heap.objs.size + 1 := Heap.size_push ..
  show _ ∧ _
  rw [hz]
  have he : IsEnum ((s.heap.push o).push { cls := .type "enumerate", data := .fields #[.none, .bool false, .ref s.heap.objs.size, rawInt 0, .none, .none] }) (s.heap.objs.size + 1) s.heap.objs.size 0 .none := by
    have q := Heap.get?_push_size (s.heap.push o) (o := { cls := .type "enumerate", data := .fields #[.none, .bool false, .ref s.heap.objs.size, rawInt 0, .none, .none] }) rfl
    rw [hz] at q
    exact q
  exact ⟨⟨_, he, rfl⟩, h _ he (Heap.get?_push_of_some _ (Heap.get?_push_size _ B.free)) (by rw [Heap.size_push, hz]) fun b o x => Heap.get?_push_of_some _ (Heap.get?_push_of_some _ x)⟩
end
end PySem
namespace L2
open PySem PySem.Spec PyProof.Rows
/-- the tuple at a, the items in new pairs -/
def Iet (K : PySem.W.Frag) (a : Addr) : It :=
  ⟨fun i H => ∃ xs x, SqT K H a xs ∧ xs[i]? = some x, fun i H v H' => ∃ T x, v = .ref T ∧ H T = none ∧ H' = upd H T (.tup [.int (i : Nat), x]) ∧ ∀ xs, SqT K H a xs → xs[i]? = some x, fun i H => ∃ xs, SqT K H a xs ∧ xs.length = i⟩
theorem turn_enumT {P : Program} {w : World} {K : PySem.W.Frag} {elts : List Expr} {kk : Nat} {tpos : Pos} (a e it : Addr) :
    Turn P w K (.Tuple elts kk tpos) (Iet K a) [e, it] e (fun i h => (∃ old, IsEnum h e it ((i : Nat) : Int) old) ∧ h.IsTupleIter it a i ∧ e ≠ it ∧ a ≠ e ∧ a ≠ it) where
  mem := by simp
  obj := fun i h st b hb => by
    obtain ⟨⟨old, he⟩, ⟨o, ho, hc, hd⟩, _⟩ := st
    rcases (show b = e ∨ b = it by simpa using hb) with z | z
    · rw [z]; exact ⟨_, he, fun v q => nomatch q⟩
    · rw [z]; exact ⟨o, ho, fun v q => by rw [hd] at q; cases q⟩
  keep := fun i h h' st k => let ⟨⟨old, he⟩, hi, hne⟩ := st; ⟨⟨old, k e (by simp) _ he⟩, hi.at fun o q => k it (by simp) o q, hne⟩
  item := by
    intro X hP hw hK hc i pins s σ H E I hf st hg
    subst hP hw hK
    obtain ⟨⟨old, he⟩, hit, hne, hae, hai⟩ := st
    obtain ⟨xs, x, hq, hx⟩ := hg
    obtain ⟨its, rv, p, hz⟩ := I.tuple hq
    have p : s.heap.IsTuple a its.toArray := p
    obtain ⟨u, hu, ru⟩ := rv.get hx
    have hel : e < s.heap.objs.size := Heap.lt_size he
    have hil : it < s.heap.objs.size := by obtain ⟨_, q, _⟩ := hit; exact Heap.lt_size q
    have Dr := Draws.tuple (prog := X.prog) (w := X.w) (A := X.A.in1) (I.ok.hd hc) it a hai its.toArray
    have hlt : i < its.toArray.size := by simpa using (List.getElem?_eq_some_iff.mp hu).1
    refine wpAny_pyNext_enum_itemD Dr he ⟨hit, p⟩ hlt hne (by simpa using ⟨hne, Ne.symm hae⟩) fun x2 h' tk hP ho hit' hT hsz hk => ?_
    have ex : x2 = u := by
      have : its[i]? = some x2 := by simpa using hP
      rw [hu] at this
      exact (Option.some.inj this).symm
    subst ex
    refine ⟨_, rfl, wpAny_letOwnedTupleGo_enum (s := { s with heap := h', toks := tk + 1 }) ho fun h'' he' sb => ?_⟩
    have hT2 : h''.get? s.heap.objs.size = some { cls := .type "tuple", data := .seq #[.int i tk, x2] } := (sb.2 _ (Nat.ne_of_gt hel)).trans hT
    have new : ObjOk X.prog X.w (upd H s.heap.objs.size (.tup [.int (i : Nat), x])) h'' s.heap.objs.size (.tup [.int (i : Nat), x]) :=
      ⟨by show 2 ≤ sizeLine; decide, [.int i tk, x2], .cons ⟨_, rfl⟩ (.cons ru .nil), ⟨_, hT2, rfl, _, rfl⟩⟩
    have I1 : Inv X pins σ (upd H s.heap.objs.size (.tup [.int (i : Nat), x])) { s with heap := h'', toks := tk + 1 } :=
      I.turnedNew (ch := [e, it]) (fun b ob hb q => (sb.2 b (fun z => hb (by simp [z]))).trans (hk b ob (fun z => hb (by simp [z])) (fun z => hb (by simp [z])) q)) hf (Nat.le_refl _) new
    refine ⟨.ref s.heap.objs.size, _, I1, rfl, ⟨_, x, rfl, I.hok.fresh (Nat.le_refl _), rfl, fun ys hy => by rw [I.tuple_inj hy hq]; exact hx⟩, ⟨⟨x2, ?_⟩, hit'.1.at fun o q => (sb.2 it (Ne.symm hne)).trans q, hne, hae, hai⟩, fun b hb => ?_⟩
    · rw [show ((i + 1 : Nat) : Int) = (i : Int) + 1 by omega]
      exact he'
    · have hb' : b < s.heap.objs.size := by
        rcases (show b = e ∨ b = it by simpa using hb) with z | z
        · rw [z]; exact hel
        · rw [z]; exact hil
      rw [upd_ne (Nat.ne_of_lt hb')]
      exact (hf b hb).1
  done := by
    intro X hP hw hK hc i pins s σ H E I hf st hg
    subst hP hw hK
    obtain ⟨⟨old, he⟩, hit, hne, hae, hai⟩ := st
    obtain ⟨xs, hq, hx⟩ := hg
    obtain ⟨its, rv, p, hz⟩ := I.tuple hq
    have p : s.heap.IsTuple a its.toArray := p
    obtain ⟨f0, f1, f2, f3, f4, f5⟩ := hf it (by simp)
    have hl := rv.length
    have Dr := Draws.tuple (prog := X.prog) (w := X.w) (A := X.A.in1) (I.ok.hd hc) it a hai its.toArray
    have e0 : its.toArray.size = i := by simp; omega
    refine wpAny_pyNext_enum_endD Dr he (by rw [e0]; exact ⟨hit, p⟩) fun h' eb => ⟨rfl, I.turned (t' := s.toks) (fun b o hb q => eb b o hb q) f0 f1 f3 f4 f5⟩
  self := fun A i s Q E st h => let ⟨⟨_, he⟩, _⟩ := st; wpAny_pyIter_enum he h
def iEnumT (K : PySem.W.Frag) (ta : TA) : TI := fun σ H R => ta σ H fun vs H1 => ∃ a xs, vs = [.ref a] ∧ SqT K H1 a xs ∧ R (Iet K a) H1
theorem pi_enumT {X : Cx} {e : Expr} {ta : TA} {p pos tpos : Pos} {elts : List Expr} {kk : Nat} (hg : Gl X "enumerate") (hm : X.mg "enumerate" = none) (ha : PA X [e] ta) (hs : starEach [e] X.env = [(false, eval e X.env)] := by rfl) :
    PI X (.Tuple elts kk tpos) (.Call (.Name "enumerate" p) [e] [] pos) (iEnumT X.K ta) := by
  refine ⟨fun pins s σ H R I h => ?_⟩
  refine Call_ (ld_blt I hg hm boot_enumerate (PyProof.Rows.callWith_type1 (thn (ha.run pos pins s σ H _ I h) fun us s1 ⟨vs, H1, I1, r1, q1⟩ => ?_) hs rfl))
  obtain ⟨a, xs, ex, hq, q⟩ := q1
  subst ex
  cases r1 with
  | cons r rr =>
    cases rr
    cases r
    obtain ⟨its, rv, p', hz⟩ := I1.tuple hq
    have p' : s1.heap.IsTuple a its.toArray := p'
    have hal : a < s1.heap.objs.size := by obtain ⟨_, q, _⟩ := p'; exact Heap.lt_size q
    refine enum1_begins (begins_tuple a its.toArray) p' fun h' he hit hsz hk => wpAny_pyIter_enum he ?_
    have I2 : Inv X pins σ H1 { s1 with heap := h' } := I1.kept (t' := s1.toks) hk
    refine ⟨s1.heap.objs.size + 1, [s1.heap.objs.size + 1, s1.heap.objs.size], _, _, H1, rfl, I2, turn_enumT a (s1.heap.objs.size + 1) s1.heap.objs.size, ⟨⟨.none, he⟩, ⟨_, hit, rfl, rfl⟩, Nat.succ_ne_self _, Nat.ne_of_lt (Nat.lt_succ_of_lt hal), Nat.ne_of_lt hal⟩, fun b hb => ?_, q⟩
    have hle : s1.heap.objs.size ≤ b := by
      rcases (show b = s1.heap.objs.size + 1 ∨ b = s1.heap.objs.size by simpa using hb) with z | z
      · rw [z]; exact Nat.le_add_right _ _
      · rw [z]; exact Nat.le_refl _
    exact I1.fpOk hle (I1.hok.fresh hle)
end L2

set_option Elab.async false
set_option linter.all false
set_option autoImplicit false
set_option maxRecDepth 100000
set_option maxHeartbeats 2000000
/-! PD, part L: more of what is built in. -/
namespace L2
open PySem PySem.Spec PyProof.Rows
section
variable {X : Cx}
/-- set(t), t a tuple of ints -/
def rSetT (K : PySem.W.Frag) (w : World) : List V → Hp → VK → Prop := fun vs H Q => ∃ (a : Addr) (ns : List Int), vs = [V.ref a] ∧ SqT K H a (ns.map V.int) ∧ ns.length ≤ 1000 ∧
  ∀ (p : Addr) (c : Nat), H p = none → c ≤ ns.length → Q (.ref p) (upd H p (SetO w p (fun j => decide (j ∈ ns)) c))
theorem cr_setT (hc : X.calm = true) : CallR X (.type "set") (rSetT X.K X.w) := by
  intro pins s σ H vs us Q I r h
  obtain ⟨a, ns, rfl, hq, hl, q⟩ := h
  obtain ⟨its, rv, pt, hz⟩ := I.tuple hq
  rw [Vals.ref1 r]
  refine call_set_tupI ns (I.ok.hd hc) (show s.heap.IsTuple a its.toArray from pt) (by show IntsAre its.toArray.toList ns; exact ints_of_vals rv) (by unfold scanBound; omega) fun h' tk c R1 hcn k => ?_
  exact ⟨.ref _, _, I.laid (t' := tk) k (Nat.le_refl _) (setO_new R1), rfl, q _ c (I.hok.fresh (Nat.le_refl _)) hcn⟩
/-- max(t), t a tuple of ints -/
def rMaxT (K : PySem.W.Frag) : List V → Hp → VK → Prop := fun vs H Q => ∃ (a : Addr) (ns : List Int), vs = [V.ref a] ∧ SqT K H a (ns.map V.int) ∧ 0 < ns.length ∧ ∀ m, m ∈ ns → (∀ y, y ∈ ns → y ≤ m) → Q (.int m) H
theorem holdInts {h : Heap} : ∀ {ns : List Int} {us : List Value}, Vals (ns.map V.int) us → ∃ as, ReadsAll h us (ns.map PyData.int) as
  | [], _, .nil => ⟨[], .nil⟩
  | n :: ns, _, .cons r t => by
    obtain ⟨tk, rfl⟩ := r
    obtain ⟨as, h1⟩ := holdInts (h := h) t
    exact ⟨_, .cons (.int n tk) h1⟩
theorem maxOf_is (x : Int) (xs : List Int) : PySem.W.maxOf x xs ∈ x :: xs ∧ ∀ y ∈ x :: xs, y ≤ PySem.W.maxOf x xs := by
  unfold PySem.W.maxOf
  induction xs generalizing x with
  | nil => simp
  | cons y ys ih =>
    rw [List.foldl_cons]
    have e : PySem.W.DatumOrd.lt x y = decide (x < y) := rfl
    rw [e]
    by_cases c : x < y
    · rw [if_pos (by simpa using c)]
      obtain ⟨h1, h2⟩ := ih y
      refine ⟨List.mem_cons_of_mem _ h1, fun z hz => ?_⟩
      rcases List.mem_cons.mp hz with rfl | hz
      · exact Int.le_trans (Int.le_of_lt c) (h2 y List.mem_cons_self)
      · exact h2 z hz
    · rw [if_neg (by simpa using c)]
      obtain ⟨h1, h2⟩ := ih x
      refine ⟨?_, fun z hz => ?_⟩
      · rcases List.mem_cons.mp h1 with h | h
        · rw [h]; exact List.mem_cons_self
        · exact List.mem_cons_of_mem _ (List.mem_cons_of_mem _ h)
      · rcases List.mem_cons.mp hz with rfl | hz
        · exact h2 _ List.mem_cons_self
        · rcases List.mem_cons.mp hz with rfl | hz
          · exact Int.le_trans (Int.not_lt.mp c) (h2 x List.mem_cons_self)
          · exact h2 z (List.mem_cons_of_mem _ hz)
theorem cr_maxT (hc : X.calm = true) (hu : X.A.units + 1 < cLine) : CallR X (.builtin "max") (rMaxT X.K) := by
  intro pins s σ H vs us Q I r h
  obtain ⟨a, ns, rfl, hq, hl, q⟩ := h
  obtain ⟨its, rv, pt, hz⟩ := I.tuple hq
  rw [Vals.ref1 r]
  cases ns with
  | nil => exact absurd hl (Nat.lt_irrefl _)
  | cons n ns =>
    have hh : PySem.W.HoldAll s.heap its (n :: ns) := holdInts rv
    refine PySem.W.max_tuple_datum (I.ok.hd hc) (show s.heap.IsTuple a its.toArray from pt) hh (by show X.A.units + 1 + 0 < cLine; exact hu) fun i v h' tk hv hd hk => ?_
    obtain ⟨as, rd⟩ := hd
    have rd : Reads h' v (.int (PySem.W.maxOf n ns)) as := rd
    cases rd
    obtain ⟨m1, m2⟩ := maxOf_is n ns
    exact ⟨.int _, H, I.kept (t' := tk) hk, ⟨_, rfl⟩, q _ m1 m2⟩
/-- sorted(xs), xs a list of alike data: some order of the same items -/
def rSortD (K : PySem.W.Frag) (u : Nat) : List V → Hp → VK → Prop := fun vs H Q => ∃ (a : Addr) (xs : List V) (ps : List PyData), vs = [V.ref a] ∧ SqL K H a xs ∧ DpAll K H xs ps ∧ PySem.W.AllAlike ps ∧ PySem.W.Sortable ps ∧
  (∀ p ∈ ps, u + 2 + p.depth < cLine) ∧ ∀ (l : Addr) (ys : List V), H l = none → ys.Perm xs → Q (.ref l) (upd H l (.lst ys))
theorem dpAll_len {K : PySem.W.Frag} {H : Hp} : ∀ {xs : List V} {ps : List PyData}, DpAll K H xs ps → xs.length = ps.length
  | [], [], _ => rfl
  | _ :: xs, _ :: ps, .cons _ h => by rw [List.length_cons, List.length_cons, dpAll_len h]
theorem each_zip {pins : List (Addr × Obj)} {σ : L2.St} {H : Hp} {s : Shared} (I : Inv X pins σ H s) : ∀ {xs : List V} {ps : List PyData} {us : List Value}, DpAll X.K H xs ps → Vals xs us →
    PySem.W.EachIs (fun v (b : V × PyData) => RelV b.1 v) us (xs.zip ps) ∧ PySem.W.EachIs (fun v (b : V × PyData) => ∃ as, Reads s.heap v b.2 as) us (xs.zip ps)
  | [], [], [], _, _ => ⟨.nil, .nil⟩
  | _ :: xs, _ :: ps, _ :: us, .cons h1 h2, .cons r1 r2 => by
    obtain ⟨e1, e2⟩ := each_zip I h2 r2
    obtain ⟨as, rd⟩ := Dp.reads I _ _ _ h1 r1
    exact ⟨.cons r1 e1, .cons ⟨as, rd⟩ e2⟩
theorem each_vals : ∀ {out : List Value} {bs : List (V × PyData)}, PySem.W.EachIs (fun v (b : V × PyData) => RelV b.1 v) out bs → Vals (bs.map (·.1)) out
  | _, _, .nil => .nil
  | _, _, .cons h t => .cons h (each_vals t)
theorem cr_sortD : CallR X (.builtin "sorted") (rSortD X.K X.A.units) := by
  intro pins s σ H vs us Q I r h
  obtain ⟨a, xs, ps, rfl, hs, hd, hal, hso, hu, q⟩ := h
  obtain ⟨its, rv, hl, hz⟩ := I.list hs
  rw [Vals.ref1 r]
  have hlen := dpAll_len hd
  have e2 : (xs.zip ps).map (·.2) = ps := List.map_snd_zip (by omega)
  have e1 : (xs.zip ps).map (·.1) = xs := List.map_fst_zip (by omega)
  obtain ⟨z1, z2⟩ := each_zip I hd rv
  refine PySem.W.sorted_data (enc := fun b : V × PyData => b.2) hl.isList z1 z2 (by rw [e2]; exact hal) (by rw [e2]; exact hso) (by rw [List.length_zip]; omega) (fun b hb => hu b.2 (by rw [← e2]; exact List.mem_map_of_mem hb)) fun out ho he => ?_
  obtain ⟨ep, he'⟩ := PyProof.Rows.sortedAll_at s.heap its out.toArray
  have hp : (((xs.zip ps).mergeSort (PySem.W.dataLe false fun b : V × PyData => b.2)).map (·.1)).Perm xs := by
    have := (List.mergeSort_perm (xs.zip ps) (PySem.W.dataLe false fun b : V × PyData => b.2)).map (·.1)
    rwa [e1] at this
  exact ⟨.ref _, upd H (s.heap.objs.size + 1) (.lst _), I.laid (t' := s.toks) (fun _ _ => PyProof.Rows.sortedAll_old) (Nat.le_succ _) ⟨by rw [hp.length_eq]; exact hz, out, ep, each_vals he, he'⟩, rfl, q _ _ (I.hok.fresh (Nat.le_succ _)) hp⟩
end
end L2
namespace PD
open PySem PySem.Spec L2
open PyProof.Rows hiding St
section
variable {X : Cx} {Z : Zn} {ρ : Slots} {O : Own}
/-! ### walks -/
/-- (0, x0), (1, x1), .. -/
def enumD (ds : List D) : List D := ds.mapIdx fun i d => .tup [.int (i : Nat), d]
theorem enumD_at {ds : List D} {i : Nat} {x : D} (h : (enumD ds)[i]? = some x) : ∃ d, ds[i]? = some d ∧ x = .tup [.int (i : Nat), d] := by
  unfold enumD at h
  rw [List.getElem?_mapIdx] at h
  obtain ⟨d, h1, h2⟩ := Option.map_eq_some_iff.mp h
  exact ⟨d, h1, h2.symm⟩
theorem enumD_len (ds : List D) : (enumD ds).length = ds.length := by unfold enumD; simp
theorem pair_rep {K : PySem.W.Frag} {B H : Hp} {T : Addr} {i : Nat} {d : D} {x : V} (e : Ex B H) (hT : H T = none) (r : Rep K B d x) : Grow [] B H (upd B T (.tup [.int (i : Nat), x])) (upd H T (.tup [.int (i : Nat), x])) ∧ Rep K (upd B T (.tup [.int (i : Nat), x])) (.tup [.int (i : Nat), d]) (.ref T) := by
  have g := Grow.laid (M := []) (o := .tup [V.int (i : Nat), x]) e hT
  exact ⟨g, .tup (SqT.of upd_same) (.cons (.int _) (.cons (r.mono g.bb _ _) .nil))⟩
theorem ix_enumT {elts : List Expr} {kk : Nat} {tpos p pos : Pos} {e : Expr} {R : List D → (Own → Prop) → Own → Prop} (hm : X.mg "enumerate" = none) (h : EX X Z e ρ O fun d O1 => ∃ ds, d = .tup ds ∧ R (enumD ds) (fun _ => True) O1) (hg : Gl X "enumerate" := by rfl) (hs : starEach [e] X.env = [(false, eval e X.env)] := by rfl) :
    IX X Z (.Tuple elts kk tpos) (.Call (.Name "enumerate" p) [e] [] pos) ρ O R := fun σ B H s => by
  refine EVI.of (pi_enumT hg hm (pa_cons pe_ev pa_nil (by rw [hs]; rfl)) hs) ?_
  refine (h σ B H s).mono fun v H1 ⟨d, B1, O1, s1, r1, e1, ds, x, q⟩ => ?_
  subst x
  have r1' := r1
  obtain ⟨a, xs, ea, h1, h2⟩ := s1.tp r1
  subst ea
  cases r1' with
  | tup g1 g2 =>
    rename_i ys
    refine ⟨a, xs, rfl, h1, enumD ds, _, B1, O1, s1, e1, ⟨fun i B' H' σ' ρ' O' s' e' _ hi => ?_, fun i B' H' σ' ρ' O' s' e' _ hi => ?_, fun i B' H' σ' ρ' O' x H'' d s' e' _ hd y => ?_⟩, q⟩
    · rw [enumD_len] at hi
      obtain ⟨v, hv, _⟩ := g2.get (List.getElem?_eq_getElem hi)
      exact ⟨_, v, s'.gr.bh.t (e'.t g1), hv⟩
    · rw [enumD_len] at hi
      exact ⟨_, s'.gr.bh.t (e'.t g1), by rw [hi, g2.len]⟩
    · obtain ⟨T, w, ex, hT, eh, y⟩ := y
      subst ex eh
      obtain ⟨d0, hd0, rfl⟩ := enumD_at hd
      obtain ⟨v, hv, rv⟩ := g2.get hd0
      have := y _ (s'.gr.bh.t (e'.t g1))
      rw [hv] at this
      cases this
      obtain ⟨z1, z2⟩ := pair_rep (i := i) s'.gr.bh hT (rv.mono e' _ _)
      exact ⟨_, z1, z2⟩
/-- for k, v in d.items(), the dict a new one of one's own: it is given up -/
def itemsD (kvs : List (Key × D)) : List D := kvs.map fun kv => .tup [toD (kV kv.1), kv.2]
theorem ix_items {elts : List Expr} {kk : Nat} {tpos apos cpos : Pos} {e : Expr} {R : List D → (Own → Prop) → Own → Prop}
    (h : EX X Z e ρ O fun d O1 => ∃ p kvs O2, d = .raw (.ref p) ∧ p ∉ Z.M ∧ O1.Perm ((p, .dct kvs) :: O2) ∧ R (itemsD kvs) (fun _ => True) O2)
    (hbase : attributeBase e "items" X.env (eval e X.env) = eval e X.env := by rfl) (hline : (apos.endLine == cpos.line) = true := by rfl) :
    IX X Z (.Tuple elts kk tpos) (.Call (.Attribute e "items" apos) [] [] cpos) ρ O R := fun σ B H s => by
  have pe : PE X e (fun σ H Q => EV X e σ H fun v H1 => ∃ d kvs, v = .ref d ∧ H1 d = some (.dK kvs) ∧ ∀ o, Q v (upd H1 d (.frz o (.dK kvs)))) := ⟨fun pins s σ H Q I hh => thn (hh pins s I) fun u s1 ⟨v, H1, I1, r1, d, kvs, ev, ed, q⟩ => by
    obtain ⟨od, I2⟩ := I1.lock ed trivial
    exact ⟨v, _, I2, r1, q od⟩⟩
  refine EVI.of (pi_items pe hbase hline) ?_
  refine (h σ B H s).mono fun v H1 ⟨d, B1, O1, s1, r1, e1, p, kvs, O2, x, hm, hp, q⟩ => ?_
  subst x
  cases r1
  have s2 := s1.perm hp.symm
  obtain ⟨h1, ⟨ys, h2, h3, h4⟩, h5⟩ := s2.ow (p, .dct kvs) List.mem_cons_self
  have h1 : B1 p = none := h1
  have h2 : H1 p = some (.dK ys) := h2
  have h5 : Z.H p = none := h5.elim id fun z => absurd z hm
  have rk := repKV_of h3 h4
  refine ⟨p, ys, rfl, h2, fun o => ⟨p, o, ys, rfl, upd_same, ?_⟩⟩
  -- the dict, locked for good
  have eB : Ex B1 (upd B1 p (.frz o (.dK ys))) := Ex.new h1
  have ne : ∀ c ∈ O2, c.1 ≠ p := fun c hc z => by
    have nd := s2.nd
    rw [List.map_cons, List.nodup_cons] at nd
    exact nd.1 (List.mem_map.mpr ⟨c, hc, z⟩)
  have s3 : Sts X.K Z (upd B1 p (.frz o (.dK ys))) (upd H1 p (.frz o (.dK ys))) σ ρ O2 := by
    refine ⟨⟨s2.gr.bb.trans eB, fun a u z => ?_, fun a u n z => ?_, fun a z => ?_, fun a z => ?_⟩, fun i d z => ?_, fun c hc => ?_, ?_, s2.ma⟩
    · by_cases ap : a = p
      · subst ap; rw [upd_same] at z ⊢; exact z
      · rw [upd_ne ap] at z ⊢; exact s2.gr.bh a u z
    · have ap : a ≠ p := fun y => by rw [y, h5] at z; cases z
      rw [upd_ne ap]; exact s2.gr.hh a u n z
    · by_cases ap : a = p
      · subst ap; rw [upd_same]; simp
      · rw [upd_ne ap]; exact s2.gr.al a z
    · have ap : a ≠ p := fun y => by rw [y] at z; exact z h5
      rw [upd_ne ap]; exact s2.gr.fr a z
    · obtain ⟨w, w1, w2⟩ := s2.sl i d z
      exact ⟨w, w1, w2.mono eB _ _⟩
    · obtain ⟨w1, w2, w3⟩ := s2.ow c (List.mem_cons_of_mem _ hc)
      exact ⟨by rw [upd_ne (ne c hc)]; exact w1, by rw [upd_ne (ne c hc)]; exact w2.mono eB, w3⟩
    · have nd := s2.nd
      rw [List.map_cons, List.nodup_cons] at nd
      exact nd.2
  have hBp : (upd B1 p (.frz o (.dK ys))) p = some (.frz o (.dK ys)) := upd_same
  have hlen : (itemsD kvs).length = ys.length := by unfold itemsD; rw [List.length_map]; exact rk.len
  refine ⟨itemsD kvs, fun _ => True, _, O2, s3, e1.trans eB, ⟨fun i B' H' σ' ρ' O' s' e' _ hi => ?_, fun i B' H' σ' ρ' O' s' e' _ hi => ?_, fun i B' H' σ' ρ' O' x H'' d s' e' _ hd y => ?_⟩, q⟩
  · exact ⟨s'.gr.bh _ _ (e' _ _ hBp), by rw [← hlen]; exact hi⟩
  · exact ⟨s'.gr.bh _ _ (e' _ _ hBp), by rw [← hlen, hi]; exact Nat.le_refl _⟩
  · obtain ⟨T, k, w, hk, ex, hT, eh⟩ := y
    subst ex eh
    unfold itemsD at hd
    rw [List.getElem?_map] at hd
    obtain ⟨kv, z1, z2⟩ := Option.map_eq_some_iff.mp hd
    subst z2
    have hk3 : kvs.map (·.1) = ys.map (·.1) := h3.symm
    obtain ⟨w', hw', rw'⟩ := h4.get (i := i) (d := kv.2) (by rw [List.getElem?_map, z1]; rfl)
    rw [List.getElem?_map, hk] at hw'
    cases hw'
    have ek : kv.1 = k := by
      have := congrArg (fun l => l[i]?) hk3
      simp only [List.getElem?_map, z1, hk, Option.map_some] at this
      exact Option.some.inj this
    have g := Grow.laid (M := []) (o := .tup [kV k, w]) s'.gr.bh hT
    refine ⟨_, g, .tup (SqT.of upd_same) (.cons ?_ (.cons (((rw'.mono eB _ _).mono e' _ _).mono g.bb _ _) .nil))⟩
    rw [ek]
    exact rep_toD _
/-- a text sign by sign -/
def signsD (z : Str) : List D := z.cps.toList.map fun c => .str ⟨#[c]⟩
theorem ix_str {tg e : Expr} {R : List D → (Own → Prop) → Own → Prop} (h : EX X Z e ρ O fun d O1 => ∃ z, d = .str z ∧ R (signsD z) (fun _ => True) O1) : IX X Z tg e ρ O R := fun σ B H s => by
  refine EVI.of (pi_str pe_ev) ?_
  refine (h σ B H s).mono fun v H1 ⟨d, B1, O1, s1, r1, e1, z, x, q⟩ => ?_
  subst x
  cases r1
  refine ⟨z, rfl, signsD z, _, B1, O1, s1, e1, ⟨fun i B' H' σ' ρ' O' s' e' _ hi => ?_, fun i B' H' σ' ρ' O' s' e' _ hi => ?_, fun i B' H' σ' ρ' O' x H'' d s' e' _ hd y => ?_⟩, q⟩
  · have : i < z.cps.size := by unfold signsD at hi; simpa using hi
    exact this
  · have : i = z.cps.size := by unfold signsD at hi; simpa using hi
    subst this
    exact Nat.le_refl _
  · obtain ⟨eh, c, hc, ex⟩ := y
    subst eh ex
    have : d = .str ⟨#[c]⟩ := by
      unfold signsD at hd
      rw [List.getElem?_map] at hd
      obtain ⟨c', h1, h2⟩ := Option.map_eq_some_iff.mp hd
      have h1 : z.cps[i]? = some c' := by simpa using h1
      rw [hc] at h1
      cases h1
      exact h2.symm
    subst this
    exact ⟨B', Grow.refl s'.gr.bh, .str _⟩
/-! ### range as a tuple, a list -/
theorem ints_rep {K : PySem.W.Frag} {B : Hp} {a b : Int} : Reps K B (rangeD a (b - a).toNat) (rgV a b) := by
  unfold rangeD rgV
  have : ∀ l : List Nat, Reps K B (l.map fun i => D.int (a + (i : Nat))) (l.map fun i => V.int (a + (i : Nat))) := fun l => by
    induction l with
    | nil => exact .nil
    | cons x l ih => exact .cons (.int _) ih
  exact this _
theorem ex_tupRg {a : Expr} {p p2 pos pos2 : Pos} {R : D → Own → Prop} (hc : X.calm = true) (hm : X.mg "tuple" = none) (hm2 : X.mg "range" = none) (h : EX X Z a ρ O fun d O1 => ∃ n, d = .int n ∧ 0 ≤ n ∧ n ≤ 1000000 ∧ R (.tup (rangeD 0 n.toNat)) O1) (hg : Gl X "tuple" := by rfl) (hg2 : Gl X "range" := by rfl)
    (na : starEach [a] X.env = (false, eval a X.env) :: starEach [] X.env := by rfl) (nr : starEach [(.Call (.Name "range" p2) [a] [] pos2 : Expr)] X.env = (false, eval (.Call (.Name "range" p2) [a] [] pos2) X.env) :: starEach [] X.env := by rfl) :
    EX X Z (.Call (.Name "tuple" p) [.Call (.Name "range" p2) [a] [] pos2] [] pos) ρ O R := fun σ B H s => by
  refine EV.of (pe_tupRg hc hg hm (prg_1 hg2 hm2 pe_ev na) nr) ?_
  refine (h σ B H s).mono fun v H1 ⟨d, B1, O1, s1, r1, e1, n, x, n1, n2, q⟩ => ?_
  subst x
  cases r1
  refine ⟨n, rfl, RgOk.of_le (Int.le_refl _) (by omega) (by omega) n1, fun l hl => ?_⟩
  obtain ⟨s2, eB⟩ := s1.lay (o := .tup (rgV 0 n)) hl
  exact ⟨_, _, O1, s2, .tup (SqT.of upd_same) (by have := ints_rep (K := X.K) (B := upd B1 l (.tup (rgV 0 n))) (a := 0) (b := n); rwa [Int.sub_zero] at this), e1.trans eB, q⟩
theorem ex_listRg {a : Expr} {p p2 pos pos2 : Pos} {R : D → Own → Prop} (hc : X.calm = true) (hm : X.mg "list" = none) (hm2 : X.mg "range" = none) (h : EX X Z a ρ O fun d O1 => ∃ n, d = .int n ∧ 0 ≤ n ∧ n ≤ 1000000 ∧ R (.lst (rangeD 0 n.toNat)) O1) (hg : Gl X "list" := by rfl) (hg2 : Gl X "range" := by rfl)
    (na : starEach [a] X.env = (false, eval a X.env) :: starEach [] X.env := by rfl) (nr : starEach [(.Call (.Name "range" p2) [a] [] pos2 : Expr)] X.env = (false, eval (.Call (.Name "range" p2) [a] [] pos2) X.env) :: starEach [] X.env := by rfl) :
    EX X Z (.Call (.Name "list" p) [.Call (.Name "range" p2) [a] [] pos2] [] pos) ρ O R := fun σ B H s => by
  refine EV.of (pe_listRg hc hg hm (prg_1 hg2 hm2 pe_ev na) nr) ?_
  refine (h σ B H s).mono fun v H1 ⟨d, B1, O1, s1, r1, e1, n, x, n1, n2, q⟩ => ?_
  subst x
  cases r1
  refine ⟨n, rfl, RgOk.of_le (Int.le_refl _) (by omega) (by omega) n1, fun l hl => ?_⟩
  obtain ⟨s2, eB⟩ := s1.lay (o := .lst (rgV 0 n)) hl
  exact ⟨_, _, O1, s2, .lst upd_same (by have := ints_rep (K := X.K) (B := upd B1 l (.lst (rgV 0 n))) (a := 0) (b := n); rwa [Int.sub_zero] at this), e1.trans eB, q⟩
/-! ### max of a tuple; sorted -/
theorem cd_maxT {ns : List Int} {R : D → Own → Prop} (h0 : 0 < ns.length) (h : ∀ m, m ∈ ns → (∀ y, y ∈ ns → y ≤ m) → R (.int m) O) : CD X Z (rMaxT X.K) [.tup (ns.map D.int)] ρ O R := fun σ B0 B H vs s e r => by
  cases r with
  | cons r1 r2 =>
    cases r2
    obtain ⟨a, xs, ea, h1, h2⟩ := s.tp r1
    subst ea
    have := h2.ints_eq
    subst this
    exact ⟨a, ns, rfl, h1, h0, fun m hm1 hm2 => ⟨_, B, O, s, .int _, e, h m hm1 hm2⟩⟩
theorem reps_perm {K : PySem.W.Frag} {B : Hp} {xs ys : List V} (p : ys.Perm xs) : ∀ {ds : List D}, Reps K B ds xs → ∃ es, es.Perm ds ∧ Reps K B es ys := by
  induction p with
  | nil => intro ds h; cases h; exact ⟨[], .nil, .nil⟩
  | cons x _ ih =>
    intro ds h
    cases h with
    | cons h1 h2 =>
      obtain ⟨es, e1, e2⟩ := ih h2
      exact ⟨_ :: es, e1.cons _, .cons h1 e2⟩
  | swap x y l =>
    intro ds h
    cases h with
    | cons h1 h2 => cases h2 with
      | cons h3 h4 => exact ⟨_ :: _ :: _, List.Perm.swap _ _ _, .cons h3 (.cons h1 h4)⟩
  | trans _ _ ih1 ih2 =>
    intro ds h
    obtain ⟨es, e1, e2⟩ := ih2 h
    obtain ⟨fs, f1, f2⟩ := ih1 e2
    exact ⟨fs, f1.trans e1, f2⟩
theorem pys_len : ∀ {ds : List D} {ps : List PyData}, D.pys ds = some ps → ds.length = ps.length
  | [], _, h => by cases h; rfl
  | d :: ds, _, h => by
    simp only [D.pys, Option.bind_eq_some_iff, Option.map_eq_some_iff] at h
    obtain ⟨x, _, xs, e2, e3⟩ := h
    subst e3
    simp [pys_len e2]
/-- sorted(xs): some order -/
theorem cd_sortD {d : D} {ds : List D} {ps : List PyData} {R : D → Own → Prop} (hd : LsAt O d ds) (hp : D.pys ds = some ps) (hal : PySem.W.AllAlike ps) (hso : PySem.W.Sortable ps) (hu : ∀ p ∈ ps, X.A.units + 2 + p.depth < cLine) (h : ∀ es, es.Perm ds → R (.lst es) O) :
    CD X Z (rSortD X.K X.A.units) [d] ρ O R := fun σ B0 B H vs s e r => by
  cases r with
  | cons r1 r2 =>
    cases r2
    obtain ⟨a, xs, ea, h1, h2⟩ := s.ls hd r1
    subst ea
    refine ⟨a, xs, ps, rfl, SqL.of h1, Reps.dps ds xs ps (h2.mono s.gr.bh _ _) hp, hal, hso, hu, fun l ys hl hp => ?_⟩
    obtain ⟨es, e1, e2⟩ := reps_perm hp h2
    obtain ⟨s2, eB⟩ := s.lay (o := .lst ys) hl
    exact ⟨.lst es, _, O, s2, .lst upd_same (e2.mono eB _ _), e.trans eB, h es e1⟩
/-- sorted(set(t)), t a tuple of ints -/
theorem ex_sortedSet {a : Expr} {p p2 pos pos2 : Pos} {R : D → Own → Prop} (hc : X.calm = true) (hm : X.mg "sorted" = none) (hm2 : X.mg "set" = none)
    (h : EX X Z a ρ O fun d O1 => ∃ ns : List Int, d = .tup (ns.map D.int) ∧ ns.length < 64 ∧ ∀ ms : List Int, ms.Pairwise (· < ·) → (∀ k, k ∈ ms ↔ k ∈ ns) → R (.lst (ms.map D.int)) O1) (hg : Gl X "sorted" := by rfl) (hg2 : Gl X "set" := by rfl)
    (na : starEach [a] X.env = (false, eval a X.env) :: starEach [] X.env := by rfl) (nr : starEach [(.Call (.Name "set" p2) [a] [] pos2 : Expr)] X.env = (false, eval (.Call (.Name "set" p2) [a] [] pos2) X.env) :: starEach [] X.env := by rfl) :
    EX X Z (.Call (.Name "sorted" p) [.Call (.Name "set" p2) [a] [] pos2] [] pos) ρ O R := fun σ B H s => by
  refine EV.of (pe_callB (cr_sortedSet hc) hg hm (by decide +kernel) (pa_cons (pe_callTy (cr_setT hc) hg2 hm2 (by decide +kernel) (pa_cons pe_ev pa_nil na) (he := na)) pa_nil nr) (he := nr)) ?_
  refine (h σ B H s).mono fun v H1 ⟨d, B1, O1, s1, r1, e1, ns, x, n1, q⟩ => ?_
  subst x
  obtain ⟨a, xs, ea, h1, h2⟩ := s1.tp r1
  subst ea
  have := h2.ints_eq
  subst this
  refine ⟨a, ns, rfl, h1, by omega, fun l c hl hcn => ⟨l, _, c, rfl, upd_same, by omega, fun ms l2 m1 m2 m3 hl2 => ?_⟩⟩
  have g := Grow.made (M := []) (o := SetO X.w l (fun j => decide (j ∈ ns)) c) s1.gr.bh hl
  have s2 := s1.grow g
  obtain ⟨s3, eB⟩ := s2.lay (o := .lst (ms.map V.int)) hl2
  exact ⟨_, _, O1, s3, .lst upd_same (Reps.ints ms), e1.trans eB, q ms m1 fun k => by rw [m2 k, decide_eq_true_eq]⟩
/-! ### sign in text -/
theorem bt_inSign {c : Nat} {z : Str} {R : Bool → Own → Prop} (h : R (decide (c ∈ z.cps.toList)) O) : BT X Z (fun x y H Q => ∃ (c : Nat) (z : Str), x = .str ⟨#[c]⟩ ∧ y = .str z ∧ Q (.bl (decide (c ∈ z.cps.toList))) H) (.str ⟨#[c]⟩) (.str z) ρ O R := fun σ B0 B H v1 v2 s e r1 r2 => by
  cases r1; cases r2
  exact ⟨c, z, rfl, rfl, _, rfl, B, O, s, e, h⟩
theorem bd_inSign {c : Nat} {z : Str} {R : D → Own → Prop} (h : R (.bl (decide (c ∈ z.cps.toList))) O) : BD X Z (fun x y H Q => ∃ (c : Nat) (z : Str), x = .str ⟨#[c]⟩ ∧ y = .str z ∧ Q (.bl (decide (c ∈ z.cps.toList))) H) (.str ⟨#[c]⟩) (.str z) ρ O R := fun σ B0 B H v1 v2 s e r1 r2 => by
  cases r1; cases r2
  exact ⟨c, z, rfl, rfl, _, B, O, s, .bl _, e, h⟩
end
end PD

set_option Elab.async false
set_option linter.all false
set_option autoImplicit false
set_option maxRecDepth 100000
set_option maxHeartbeats 2000000
/-! PD, part M: defs by their names. -/
namespace PD
open PySem PySem.Spec L2
open PyProof.Rows hiding St
/-- a def of the text behind the top -/
def Df (K : PySem.W.Frag) (mg : Str → Option Value) (x : Str) (st : Stmt) (dvs : List V) (kws : List (Str × V)) : Prop := ∃ f fd, mg x = some (.ref f) ∧ FunD K x x (defArgs st) (defBody st) (defScope st) dvs kws f fd
/-- a def and what it does; b: how it is bound -/
structure OkF (P : Program) (w : World) (K : PySem.W.Frag) (mg : Str → Option Value) (base : Heap) (k : Nat) (x : Str) (st : Stmt) (dvs : List V) (kws : List (Str × V)) (ps : List Str) (Pd : DP) (f : Addr) (fd : FuncData) : Prop where
  hm : mg x = some (.ref f)
  F : FunD K x x (defArgs st) (defBody st) (defScope st) dvs kws f fd
  ok : FnOk P w K mg base (L2.CX P w) k f fd ps (spF K Pd)
def Ok (P : Program) (w : World) (K : PySem.W.Frag) (mg : Str → Option Value) (base : Heap) (k : Nat) (x : Str) (st : Stmt) (dvs : List V) (kws : List (Str × V)) (ps : List Str) (Pd : DP) : Prop := ∃ f fd, OkF P w K mg base k x st dvs kws ps Pd f fd
section
variable {P : Program} {w : World} {K : PySem.W.Frag} {mg : Str → Option Value} {base : Heap}
theorem fn_mkD {x : Str} {st : Stmt} {dvs : List V} {kws : List (Str × V)} {N ps : List Str} {k : Nat} {Pd : DP} (F : Df K mg x st dvs kws) (S : FnScope N ps (defScope st)) (hlen : ∀ ds O R Xr, Pd ds O R Xr → ds.length = ps.length)
    (body : ∀ (f : Addr) (cdv : Value) (A : Around) (outer : List Env) (s : Shared) (H : Hp) (E : XK), Room k (cxD P w K mg base N x st f cdv A outer s H E).A → ∀ Z ds O R Xr, Pd ds O R Xr → TkD (cxD P w K mg base N x st f cdv A outer s H E) Z Xr →
      SX (cxD P w K mg base N x st f cdv A outer s H E) Z (defBody st) (slots0 N ds) O { nx := fun _ O' => R .non O', rt := R }) : Ok P w K mg base (k + 1) x st dvs kws ps Pd := by
  obtain ⟨f, fd, hm, F⟩ := F
  refine ⟨f, fd, hm, F, ?_⟩
  refine F.ok S (fun vs H Q E ⟨B, ds, O, R, Xr, h1, h2, h3, _⟩ => by rw [← h2.len]; exact hlen _ _ _ _ h3) fun cdv A outer s H vs Q E hr ⟨B, ds, O, R, Xr, hs, hv, hp, hq, hx⟩ => ⟨_, pss_ev, ?_⟩
  have tk : TkD (cxD P w K mg base N x st f cdv A outer s H E) (zn B H O) Xr :=
    Takes.imp (takes_of (X := cxD P w K mg base N x st f cdv A outer s H E) (E := E) rfl rfl rfl rfl) fun c d σ H' ⟨C, ww, v, dx, B', O', h1, h2, h3, h4, h5, h6⟩ => by
      subst h1 h2
      exact hx C ww v dx B' H' O' h3 h4 h5 h6
  have S0 : Sts K (zn B H O) B H (L2.start N vs) (slots0 N ds) O := ⟨hs.gr, fun i d e => by
    obtain ⟨v, h1, h2⟩ := hv.get (slots0_some e)
    exact ⟨v, start_some h1, h2⟩, hs.ow, hs.nd, hs.ma⟩
  refine EVSs.mono (body f cdv A outer s H E hr (zn B H O) ds O R Xr hp tk (L2.start N vs) B H S0) (fun σ' H' ⟨B', ρ', O', s', e, z⟩ => ?_) (fun v H' ⟨d, σ', B', ρ', O', s', r, e, z⟩ => ?_) (fun σ' H' ⟨B', ρ', O', s', e, z⟩ => z) (fun σ' H' ⟨B', ρ', O', s', e, z⟩ => z)
  · exact hq _ _ _ _ _ s'.bare .non z
  · exact hq _ _ _ _ _ s'.bare r z
end
/-- these names are what is built in -/
def bareNames : List Str := ["isinstance", "int", "bool", "str", "tuple", "list", "dict", "len", "all", "any", "sum", "max", "abs", "sorted", "set", "range", "enumerate", "repr"]
def Bare (mg : Str → Option Value) : Prop := ∀ x ∈ bareNames, mg x = none
section
variable {X : Cx} {Z : Zn} {ρ : Slots} {O : Own} {p p2 pos : Pos} {e : Expr} {R : D → Own → Prop}
theorem kitB_def : True := trivial
theorem ex_len (hm : Bare X.mg) (h : EX X Z e ρ O fun d O1 => ∃ ds, SqAt O1 d ds ∧ R (.int ds.length) O1) (hg : Gl X "len" := by rfl) (he : starEach [e] X.env = (false, eval e X.env) :: starEach [] X.env := by rfl) : EX X Z (.Call (.Name "len" p) [e] [] pos) ρ O R :=
  ex_callB call_len_seq (hm _ (by decide)) (by decide +kernel) (ea_cons (h.mono fun d O1 ⟨ds, h1, h2⟩ => ea_nil (cd_len h1 h2)) he) hg (by decide) (by decide) he
theorem ex_lenS (hm : Bare X.mg) (h : EX X Z e ρ O fun d O1 => ∃ z, d = .str z ∧ z.length ≤ 1000000 ∧ R (.int z.length) O1) (hg : Gl X "len" := by rfl) (he : starEach [e] X.env = (false, eval e X.env) :: starEach [] X.env := by rfl) : EX X Z (.Call (.Name "len" p) [e] [] pos) ρ O R :=
  ex_callB call_len_str (hm _ (by decide)) (by decide +kernel) (ea_cons (h.mono fun d O1 ⟨z, h1, h2, h3⟩ => by subst h1; exact ea_nil (cd_lenS h2 h3)) he) hg (by decide) (by decide) he
theorem ex_lenC (hm : Bare X.mg) (h : EX X Z e ρ O fun d O1 => ∃ kvs, DcAt O1 d kvs ∧ R (.int kvs.length) O1) (hg : Gl X "len" := by rfl) (he : starEach [e] X.env = (false, eval e X.env) :: starEach [] X.env := by rfl) : EX X Z (.Call (.Name "len" p) [e] [] pos) ρ O R :=
  ex_callB call_lenD (hm _ (by decide)) (by decide +kernel) (ea_cons (h.mono fun d O1 ⟨ds, h1, h2⟩ => ea_nil (cd_lenD h1 h2)) he) hg (by decide) (by decide) he
theorem ex_isi {T : String} {x : Str} (hm : Bare X.mg) (hx : x ∈ bareNames) (hT : bootBuiltins x = some (.type T)) (h : EX X Z e ρ O fun d O1 => ∃ S b, d.ty = some S ∧ kitB S T = some b ∧ R (.bl b) O1) (hg : Gl X "isinstance" := by rfl) (hg2 : Gl X x := by rfl) (hn : x ≠ "__name__" := by decide) (hdb : (x == ("__debug__" : Str)) = false := by decide)
    (he : starEach [e, .Name x p2] X.env = (false, eval e X.env) :: starEach [.Name x p2] X.env := by rfl) (he2 : starEach [.Name x p2] X.env = (false, eval (.Name x p2) X.env) :: starEach [] X.env := by rfl) (hpl : (backTo pos (starEach [.Name x p2] X.env)).any (·.1) = false := by rfl) :
    EX X Z (.Call (.Name "isinstance" p) [e, .Name x p2] [] pos) ρ O R :=
  ex_callB call_isi (hm _ (by decide)) (by decide +kernel) (ea_cons (h.mono fun d O1 ⟨S, b, h1, h2, h3⟩ => ea_cons (ex_bltn (v := .ty T) (hm _ hx) hT rfl (ea_nil (cd_isi h1 h2 h3)) hg2 hn hdb) he2) he) hg (by decide) (by decide) he hpl
theorem ex_all (hc : X.calm = true) (hm : Bare X.mg) (h : EX X Z e ρ O fun d O1 => ∃ bs : List Bool, LsAt O1 d (bs.map D.bl) ∧ R (.bl (bs.all id)) O1) (hg : Gl X "all" := by rfl) (he : starEach [e] X.env = (false, eval e X.env) :: starEach [] X.env := by rfl) : EX X Z (.Call (.Name "all" p) [e] [] pos) ρ O R :=
  ex_callB (cr_all hc) (hm _ (by decide)) (by decide +kernel) (ea_cons (h.mono fun d O1 ⟨ds, h1, h2⟩ => ea_nil (cd_all h1 h2)) he) hg (by decide) (by decide) he
theorem ex_any (hc : X.calm = true) (hm : Bare X.mg) (h : EX X Z e ρ O fun d O1 => ∃ bs : List Bool, LsAt O1 d (bs.map D.bl) ∧ R (.bl (bs.any id)) O1) (hg : Gl X "any" := by rfl) (he : starEach [e] X.env = (false, eval e X.env) :: starEach [] X.env := by rfl) : EX X Z (.Call (.Name "any" p) [e] [] pos) ρ O R :=
  ex_callB (cr_any hc) (hm _ (by decide)) (by decide +kernel) (ea_cons (h.mono fun d O1 ⟨ds, h1, h2⟩ => ea_nil (cd_any h1 h2)) he) hg (by decide) (by decide) he
theorem ex_sum (hc : X.calm = true) (hm : Bare X.mg) (h : EX X Z e ρ O fun d O1 => ∃ ns : List Int, LsAt O1 d (ns.map D.int) ∧ R (.int ns.sum) O1) (hg : Gl X "sum" := by rfl) (he : starEach [e] X.env = (false, eval e X.env) :: starEach [] X.env := by rfl) : EX X Z (.Call (.Name "sum" p) [e] [] pos) ρ O R :=
  ex_callB (cr_sum hc) (hm _ (by decide)) (by decide +kernel) (ea_cons (h.mono fun d O1 ⟨ds, h1, h2⟩ => ea_nil (cd_sum h1 h2)) he) hg (by decide) (by decide) he
theorem ex_max (hc : X.calm = true) (hm : Bare X.mg) (h : EX X Z e ρ O fun d O1 => ∃ ns : List Int, LsAt O1 d (ns.map D.int) ∧ 0 < ns.length ∧ ∀ m, m ∈ ns → (∀ y, y ∈ ns → y ≤ m) → R (.int m) O1) (hg : Gl X "max" := by rfl) (he : starEach [e] X.env = (false, eval e X.env) :: starEach [] X.env := by rfl) : EX X Z (.Call (.Name "max" p) [e] [] pos) ρ O R :=
  ex_callB (cr_max hc) (hm _ (by decide)) (by decide +kernel) (ea_cons (h.mono fun d O1 ⟨ds, h1, h2, h3⟩ => ea_nil (cd_max h1 h2 h3)) he) hg (by decide) (by decide) he
theorem ex_maxT (hc : X.calm = true) (hu : X.A.units + 1 < cLine) (hm : Bare X.mg) (h : EX X Z e ρ O fun d O1 => ∃ ns : List Int, d = .tup (ns.map D.int) ∧ 0 < ns.length ∧ ∀ m, m ∈ ns → (∀ y, y ∈ ns → y ≤ m) → R (.int m) O1) (hg : Gl X "max" := by rfl) (he : starEach [e] X.env = (false, eval e X.env) :: starEach [] X.env := by rfl) : EX X Z (.Call (.Name "max" p) [e] [] pos) ρ O R :=
  ex_callB (cr_maxT hc hu) (hm _ (by decide)) (by decide +kernel) (ea_cons (h.mono fun d O1 ⟨ds, h1, h2, h3⟩ => by subst h1; exact ea_nil (cd_maxT h2 h3)) he) hg (by decide) (by decide) he
theorem ex_abs (hm : Bare X.mg) (h : EX X Z e ρ O fun d O1 => ∃ i : Int, d = .int i ∧ R (.int (if i < 0 then -i else i)) O1) (hg : Gl X "abs" := by rfl) (he : starEach [e] X.env = (false, eval e X.env) :: starEach [] X.env := by rfl) : EX X Z (.Call (.Name "abs" p) [e] [] pos) ρ O R :=
  ex_callB call_abs (hm _ (by decide)) (by decide +kernel) (ea_cons (h.mono fun d O1 ⟨i, h1, h2⟩ => by subst h1; exact ea_nil (cd_abs h2)) he) hg (by decide) (by decide) he
theorem ex_intC (hm : Bare X.mg) (h : EX X Z e ρ O fun d O1 => ∃ i : Int, d = .int i ∧ R (.int i) O1) (hg : Gl X "int" := by rfl) (he : starEach [e] X.env = (false, eval e X.env) :: starEach [] X.env := by rfl) : EX X Z (.Call (.Name "int" p) [e] [] pos) ρ O R :=
  ex_callTy call_int1 (hm _ (by decide)) (by decide +kernel) (ea_cons (h.mono fun d O1 ⟨i, h1, h2⟩ => by subst h1; exact ea_nil (cd_int h2)) he) hg (by decide) (by decide) he
theorem ex_tuple (hm : Bare X.mg) (h : EX X Z e ρ O fun d O1 => ∃ ds, LsAt O1 d ds ∧ R (.tup ds) O1) (hg : Gl X "tuple" := by rfl) (he : starEach [e] X.env = (false, eval e X.env) :: starEach [] X.env := by rfl) : EX X Z (.Call (.Name "tuple" p) [e] [] pos) ρ O R :=
  ex_callTy call_tuple_of (hm _ (by decide)) (by decide +kernel) (ea_cons (h.mono fun d O1 ⟨ds, h1, h2⟩ => ea_nil (cd_tupL h1 h2)) he) hg (by decide) (by decide) he
theorem ex_sortD (hm : Bare X.mg) (h : EX X Z e ρ O fun d O1 => ∃ ds ps, LsAt O1 d ds ∧ D.pys ds = some ps ∧ PySem.W.AllAlike ps ∧ PySem.W.Sortable ps ∧ (∀ p ∈ ps, X.A.units + 2 + p.depth < cLine) ∧ ∀ es, es.Perm ds → R (.lst es) O1) (hg : Gl X "sorted" := by rfl) (he : starEach [e] X.env = (false, eval e X.env) :: starEach [] X.env := by rfl) :
    EX X Z (.Call (.Name "sorted" p) [e] [] pos) ρ O R :=
  ex_callB cr_sortD (hm _ (by decide)) (by decide +kernel) (ea_cons (h.mono fun d O1 ⟨ds, ps, h1, h2, h3, h4, h5, h6⟩ => ea_nil (cd_sortD h1 h2 h3 h4 h5 h6)) he) hg (by decide) (by decide) he
end
section
variable {X : Cx} {Z : Zn} {ρ : Slots} {O : Own} {k k' : Nat} {st : Stmt} {ps : List Str} {Pd : DP} {x : Str} {p pos : Pos} {e : Expr} {es : List Expr} {R : D → Own → Prop} {Xr : Addr → D → Own → Prop}
/-- f(e, ..), all parameters written; b: the arguments bind (by rfl, one argument after another) -/
theorem ex_fn (F : Ok X.prog X.w X.K X.mg X.base k x st [] [] ps Pd) (hk : k ≤ k') (hr : Room k' X.A)
    (b : ∀ (kV doc pm : Value) (an : Option Addr) (cdv ct : Value) (us : List Value), us.length = ps.length → bindArgs (PySem.W.fnOf x x (defArgs st) (defBody st) (defScope st) .none kV doc pm an cdv ct) ⟨us, []⟩ = pure (ps.zip us))
    (tk : TkD X Z Xr) (h : EA X Z (e :: es) ρ O fun ds O1 => Pd ds O1 R Xr) (hg : Gl X x := by rfl) (hdb : (x == ("__debug__" : Str)) = false := by decide) (he : starEach (e :: es) X.env = (false, eval e X.env) :: starEach es X.env := by rfl)
    (hpl : (backTo pos (starEach es X.env)).any (·.1) = false := by rfl) : EX X Z (.Call (.Name x p) (e :: es) [] pos) ρ O R := by
  obtain ⟨f, fd, hm, F, ok⟩ := F
  exact ex_callF (ok.mono hk) hr hm F.kp (F.bindsN b) tk h hg hdb he hpl
end
end PD

set_option Elab.async false
set_option linter.all false
set_option autoImplicit false
set_option maxRecDepth 100000
set_option maxHeartbeats 2000000
/-! PD, part N: shorter words. -/
namespace PD
open PySem PySem.Spec L2
open PyProof.Rows hiding St
section
variable {X : Cx} {Z : Zn} {ρ : Slots} {O : Own} {a b : Expr} {pos : Pos}
/-- two ints -/
def EI2 (X : Cx) (Z : Zn) (a b : Expr) (ρ : Slots) (O : Own) (k : Int → Int → Own → Prop) : Prop := EX X Z a ρ O fun d1 O1 => EX X Z b ρ O1 fun d2 O2 => ∃ i j, d1 = .int i ∧ d2 = .int j ∧ k i j O2
theorem ei2 {f : Int → Int → V} {R : D → Own → Prop} (h : EI2 X Z a b ρ O fun i j O2 => R (toD (f i j)) O2) : EX X Z a ρ O fun d1 O1 => EX X Z b ρ O1 fun d2 O2 => BD X Z (rI0 f) d1 d2 ρ O2 R :=
  EX.mono h fun d1 O1 h => EX.mono h fun d2 O2 ⟨i, j, h1, h2, h3⟩ => by subst h1 h2; exact bd_I0 h3
theorem ti2 {p : Int → Int → Bool} {R : Bool → Own → Prop} (h : EI2 X Z a b ρ O fun i j O2 => R (p i j) O2) : EX X Z a ρ O fun d1 O1 => EX X Z b ρ O1 fun d2 O2 => BT X Z (rI0 fun i j => .bl (p i j)) d1 d2 ρ O2 R :=
  EX.mono h fun d1 O1 h => EX.mono h fun d2 O2 ⟨i, j, h1, h2, h3⟩ => by subst h1 h2; exact bt_I0 h3
theorem ei2C {C : Int → Int → Prop} {f : Int → Int → V} {R : D → Own → Prop} (h : EI2 X Z a b ρ O fun i j O2 => C i j ∧ R (toD (f i j)) O2) : EX X Z a ρ O fun d1 O1 => EX X Z b ρ O1 fun d2 O2 => BD X Z (rI C f) d1 d2 ρ O2 R :=
  EX.mono h fun d1 O1 h => EX.mono h fun d2 O2 ⟨i, j, h1, h2, h3, h4⟩ => by subst h1 h2; exact bd_I h3 h4
theorem ex_add {R : D → Own → Prop} (h : EI2 X Z a b ρ O fun i j O2 => R (.int (i + j)) O2) : EX X Z (.BinOp a .Add b pos) ρ O R := ex_bin op_add (ei2 h)
theorem ex_sub {R : D → Own → Prop} (h : EI2 X Z a b ρ O fun i j O2 => R (.int (i - j)) O2) : EX X Z (.BinOp a .Sub b pos) ρ O R := ex_bin op_sub (ei2 h)
theorem ex_mul {R : D → Own → Prop} (h : EI2 X Z a b ρ O fun i j O2 => CMul i j ∧ R (.int (i * j)) O2) : EX X Z (.BinOp a .Mult b pos) ρ O R := ex_bin op_mul (ei2C h)
theorem ex_fdiv {R : D → Own → Prop} (h : EI2 X Z a b ρ O fun i j O2 => CDiv i j ∧ R (.int (i / j)) O2) : EX X Z (.BinOp a .FloorDiv b pos) ρ O R := ex_bin op_fdiv (ei2C h)
theorem ex_mod {R : D → Own → Prop} (h : EI2 X Z a b ρ O fun i j O2 => 0 < j ∧ R (.int (i % j)) O2) : EX X Z (.BinOp a .Mod b pos) ρ O R := ex_bin op_mod (ei2C h)
theorem ex_lt {R : D → Own → Prop} (h : EI2 X Z a b ρ O fun i j O2 => R (.bl (decide (i < j))) O2) (hm : behindInMarks .Lt b = false := by first | exact nomark _ | rfl) : EX X Z (.Compare a [.Lt] [b] pos) ρ O R := ex_cmp op_lt (ei2 h) hm
theorem ex_le {R : D → Own → Prop} (h : EI2 X Z a b ρ O fun i j O2 => R (.bl (decide (i ≤ j))) O2) (hm : behindInMarks .LtE b = false := by first | exact nomark _ | rfl) : EX X Z (.Compare a [.LtE] [b] pos) ρ O R := ex_cmp op_le (ei2 h) hm
theorem ex_gt {R : D → Own → Prop} (h : EI2 X Z a b ρ O fun i j O2 => R (.bl (decide (j < i))) O2) (hm : behindInMarks .Gt b = false := by first | exact nomark _ | rfl) : EX X Z (.Compare a [.Gt] [b] pos) ρ O R := ex_cmp op_gt (ei2 h) hm
theorem ex_ge {R : D → Own → Prop} (h : EI2 X Z a b ρ O fun i j O2 => R (.bl (decide (j ≤ i))) O2) (hm : behindInMarks .GtE b = false := by first | exact nomark _ | rfl) : EX X Z (.Compare a [.GtE] [b] pos) ρ O R := ex_cmp op_ge (ei2 h) hm
theorem et_lt {R : Bool → Own → Prop} (h : EI2 X Z a b ρ O fun i j O2 => R (decide (i < j)) O2) (hm : behindInMarks .Lt b = false := by first | exact nomark _ | rfl) : ET X Z (.Compare a [.Lt] [b] pos) ρ O R := et_cmp op_lt (ti2 h) hm
theorem et_le {R : Bool → Own → Prop} (h : EI2 X Z a b ρ O fun i j O2 => R (decide (i ≤ j)) O2) (hm : behindInMarks .LtE b = false := by first | exact nomark _ | rfl) : ET X Z (.Compare a [.LtE] [b] pos) ρ O R := et_cmp op_le (ti2 h) hm
theorem et_gt {R : Bool → Own → Prop} (h : EI2 X Z a b ρ O fun i j O2 => R (decide (j < i)) O2) (hm : behindInMarks .Gt b = false := by first | exact nomark _ | rfl) : ET X Z (.Compare a [.Gt] [b] pos) ρ O R := et_cmp op_gt (ti2 h) hm
theorem et_ge {R : Bool → Own → Prop} (h : EI2 X Z a b ρ O fun i j O2 => R (decide (j ≤ i)) O2) (hm : behindInMarks .GtE b = false := by first | exact nomark _ | rfl) : ET X Z (.Compare a [.GtE] [b] pos) ρ O R := et_cmp op_ge (ti2 h) hm
theorem ex_eqI {R : D → Own → Prop} (h : EI2 X Z a b ρ O fun i j O2 => R (.bl (decide (i = j))) O2) (hm : behindInMarks .Eq b = false := by first | exact nomark _ | rfl) : EX X Z (.Compare a [.Eq] [b] pos) ρ O R :=
  ex_cmp op_eq (EX.mono h fun d1 O1 h => EX.mono h fun d2 O2 ⟨i, j, h1, h2, h3⟩ => by subst h1 h2; exact bd_eqI h3) hm
theorem ex_neI {R : D → Own → Prop} (h : EI2 X Z a b ρ O fun i j O2 => R (.bl (!decide (i = j))) O2) (hm : behindInMarks .NotEq b = false := by first | exact nomark _ | rfl) : EX X Z (.Compare a [.NotEq] [b] pos) ρ O R :=
  ex_cmp op_ne (EX.mono h fun d1 O1 h => EX.mono h fun d2 O2 ⟨i, j, h1, h2, h3⟩ => by subst h1 h2; exact bd_neI h3) hm
theorem et_eqI {R : Bool → Own → Prop} (h : EI2 X Z a b ρ O fun i j O2 => R (decide (i = j)) O2) (hm : behindInMarks .Eq b = false := by first | exact nomark _ | rfl) : ET X Z (.Compare a [.Eq] [b] pos) ρ O R :=
  et_cmp op_eq (EX.mono h fun d1 O1 h => EX.mono h fun d2 O2 ⟨i, j, h1, h2, h3⟩ => by subst h1 h2; exact bt_eqI h3) hm
theorem et_neI {R : Bool → Own → Prop} (h : EI2 X Z a b ρ O fun i j O2 => R (!decide (i = j)) O2) (hm : behindInMarks .NotEq b = false := by first | exact nomark _ | rfl) : ET X Z (.Compare a [.NotEq] [b] pos) ρ O R :=
  et_cmp op_ne (EX.mono h fun d1 O1 h => EX.mono h fun d2 O2 ⟨i, j, h1, h2, h3⟩ => by subst h1 h2; exact bt_neI h3) hm
/-- xs[i] -/
theorem ex_idx {R : D → Own → Prop} (h : EX X Z a ρ O fun d1 O1 => EX X Z b ρ O1 fun d2 O2 => ∃ ds i x, SqAt O2 d1 ds ∧ d2 = .int i ∧ atI ds i = some x ∧ R x O2) (hs : PlainIx b := by exact fun _ _ => rfl) : EX X Z (.Subscript a b pos) ρ O R :=
  ex_ix ix_seq (EX.mono h fun d1 O1 h => EX.mono h fun d2 O2 ⟨ds, i, x, h1, h2, h3, h4⟩ => by subst h2; exact bd_ix h1 h3 h4) hs
theorem atI_nat {α : Type} {ds : List α} {i : Nat} {x : α} (h : ds[i]? = some x) : atI ds (i : Int) = some x := by
  have hi := (List.getElem?_eq_some_iff.mp h).1
  unfold atI ixN
  rw [if_pos (by omega), if_pos (by omega)]
  simpa using h
/-- not of a value -/
theorem et_ex {e : Expr} {R : Bool → Own → Prop} (h : EX X Z e ρ O fun d O1 => ∃ b, d = .bl b ∧ R b O1) (he : ∀ whole, isTrue e X.env whole = (do let v ← whole; standAt e.pos; holding [v] (truthy v)) := by intro _; rfl) : ET X Z e ρ O R := et_val h he
end
end PD

set_option Elab.async false
set_option linter.all false
set_option autoImplicit false
set_option maxRecDepth 100000
set_option maxHeartbeats 2000000
/-! PD, part O: comprehensions in short. -/
namespace PD
open PySem PySem.Spec L2
open PyProof.Rows hiding St
section
variable {X : Cx} {Z : Zn} {ρ : Slots} {O : Own}
theorem flat_map {ds : List D} {f : D → D} : (ds.flatMap fun d => [f d]) = ds.map f := by induction ds with
  | nil => rfl
  | cons d ds ih => rw [List.flatMap_cons, ih]; rfl
/-- what a list comprehension of one clause does inside -/
abbrev w1 (elt : Expr) : Cx → Addr → (Shared → Prop) → Shared → Prop := fun Y D => wLast Y.prog Y.w Y.A (emitL elt (.ref D) Y.env)
theorem lr1 {elt tg iter : Expr} {ifs : List Expr} {scope : Scope} {pos : Pos} (s : Shared) (H : Hp) (C : Addr) (cl : List (Str × Addr)) (fp : List Addr) (D : Addr) :
    LR X.prog X.w X.A (.ListComp elt [⟨tg, iter, ifs, 0⟩] scope pos) 0 tg ifs (.ref D) (compEnvC scope cl C X.env) (w1 elt (blkX X scope s H C cl fp) D) :=
  lr_last (gens := [⟨tg, iter, ifs, 0⟩]) (it0 := iter) (.inl ⟨_, _, _, rfl⟩) fun it => turn_LL (k := 0) (gens := [⟨tg, iter, ifs, 0⟩]) rfl rfl it
/-- the same, the list one's own -/
theorem ex_lcO {elt tg iter : Expr} {ifs : List Expr} {scope : Scope} {pos : Pos} {own : List (Str × Nat)} {R : D → Own → Prop} (hc : X.calm = true) (hN : X.N.Nodup) (ok : BlkOk X.N X.env.scope scope own)
    (h : IX X Z tg iter ρ O fun ds Gd O1 => (∀ L c, L ∉ Z.M → L ∉ O1.map (·.1) → Gd ((L, c) :: O1)) ∧ ∃ g : D → List D, (ds.flatMap g).length ≤ 1000000 ∧
      (∀ (s : Shared) (H : Hp) (C : Addr) (cl : List (Str × Addr)) (fp : List Addr) (i : Nat) (d : D) (L : Addr) (c : OC), L ∉ Z.M → L ∉ O1.map (·.1) → ds[i]? = some d →
        GX (blkX X scope s H C cl fp) Z tg d (wipeD ρ (own.map (·.2))) ((L, c) :: O1) fun ρ2 O2 => O2 = (L, c) :: O1 ∧ Fewer (wipeD ρ (own.map (·.2))) ρ2 ∧ TS (blkX X scope s H C cl fp) Z ifs ρ2 O2 fun b O3 => O3 = (L, c) :: O1 ∧
          (b = true → ∀ L c, L ∉ Z.M → L ∉ O1.map (·.1) → EX (blkX X scope s H C cl fp) Z elt ρ2 ((L, c) :: O1) fun e O4 => O4 = (L, c) :: O1 ∧ g d = [e]) ∧ (b = false → g d = [])) ∧ ∀ p, p ∉ Z.M → p ∉ O1.map (·.1) → R (.raw (.ref p)) ((p, .lst (ds.flatMap g)) :: O1))
    (hs : ∀ x, foldedSetIterable iter X.env x = pure x := by intro _; rfl) : EX X Z (.ListComp elt [⟨tg, iter, ifs, 0⟩] scope pos) ρ O R := by
  refine ex_lcP (w := w1 elt) hc hN ok lr1 (fun Y D => wm_last) (topK_core (κ := Kl) (fun Y D => wm_last) ⟨[], rfl, Nat.le_refl _⟩ (IX.mono h fun ds Gd O1 ⟨h1, g, h2, h3, h4⟩ => ⟨h1, g, h2, fun s H C cl fp => ?_, fun p hp hd => ?_⟩)) hs
  · intro i d L c hm hd hi
    refine (h3 s H C cl fp i d L c hm hd hi).mono fun ρ2 O2 ⟨a1, a2, a3⟩ => ⟨a1, a3.mono fun b O3 ⟨b1, b2, b3⟩ => ⟨b1, fun hb => axk_elt rfl a2 (b2 hb), fun hb => ⟨a2, b3 hb⟩⟩⟩
  · have := h4 p hp hd
    rwa [Kl_fold, List.nil_append]
/-- [elt for tg in iter if ..], elt by g: some or none -/
theorem ex_lc {elt tg iter : Expr} {ifs : List Expr} {scope : Scope} {pos : Pos} {own : List (Str × Nat)} {R : D → Own → Prop} (hc : X.calm = true) (hN : X.N.Nodup) (ok : BlkOk X.N X.env.scope scope own)
    (h : IX X Z tg iter ρ O fun ds Gd O1 => (∀ L c, L ∉ Z.M → L ∉ O1.map (·.1) → Gd ((L, c) :: O1)) ∧ ∃ g : D → List D, (ds.flatMap g).length ≤ 1000000 ∧
      (∀ (s : Shared) (H : Hp) (C : Addr) (cl : List (Str × Addr)) (fp : List Addr) (i : Nat) (d : D) (L : Addr) (c : OC), L ∉ Z.M → L ∉ O1.map (·.1) → ds[i]? = some d →
        GX (blkX X scope s H C cl fp) Z tg d (wipeD ρ (own.map (·.2))) ((L, c) :: O1) fun ρ2 O2 => O2 = (L, c) :: O1 ∧ Fewer (wipeD ρ (own.map (·.2))) ρ2 ∧ TS (blkX X scope s H C cl fp) Z ifs ρ2 O2 fun b O3 => O3 = (L, c) :: O1 ∧
          (b = true → ∀ L c, L ∉ Z.M → L ∉ O1.map (·.1) → EX (blkX X scope s H C cl fp) Z elt ρ2 ((L, c) :: O1) fun e O4 => O4 = (L, c) :: O1 ∧ g d = [e]) ∧ (b = false → g d = [])) ∧ R (.lst (ds.flatMap g)) O1)
    (hs : ∀ x, foldedSetIterable iter X.env x = pure x := by intro _; rfl) : EX X Z (.ListComp elt [⟨tg, iter, ifs, 0⟩] scope pos) ρ O R := by
  refine ex_frz (R := R) (ex_lcO hc hN ok (IX.mono h fun ds Gd O1 ⟨h1, g, h2, h3, h4⟩ => ⟨h1, g, h2, h3, fun p hp hd => ⟨p, .lst (ds.flatMap g), O1, rfl, hp, .refl _, h4⟩⟩) hs)
/-- [elt for x in iter], f the element, x the slot j -/
theorem ex_map {elt iter : Expr} {x : Str} {xp : Pos} {j : Nat} {scope : Scope} {pos : Pos} {own : List (Str × Nat)} {R : D → Own → Prop} (hc : X.calm = true) (hN : X.N.Nodup) (ok : BlkOk X.N X.env.scope scope own) (hj : X.N[j]? = some x)
    (hx : ∀ (C : Addr) (cl : List (Str × Addr)), Loc (compEnvC scope cl C X.env).scope x) (hf : scope.names.lookup x = some .cell ∨ ∀ (C : Addr) (cl : List (Str × Addr)), (compEnvC scope cl C X.env).scope.names.lookup x = some .local) (hw : (wipeD ρ (own.map (·.2)))[j]? = some none)
    (h : IX X Z (.Name x xp) iter ρ O fun ds Gd O1 => (∀ L c, L ∉ Z.M → L ∉ O1.map (·.1) → Gd ((L, c) :: O1)) ∧ ∃ f : D → D, ds.length ≤ 1000000 ∧
      (∀ (s : Shared) (H : Hp) (C : Addr) (cl : List (Str × Addr)) (fp : List Addr) (i : Nat) (d : D) (L : Addr) (c : OC), L ∉ Z.M → L ∉ O1.map (·.1) → ds[i]? = some d →
        EX (blkX X scope s H C cl fp) Z elt ((wipeD ρ (own.map (·.2))).set j (some d)) ((L, c) :: O1) fun e O4 => O4 = (L, c) :: O1 ∧ e = f d) ∧ R (.lst (ds.map f)) O1)
    (hs : ∀ x, foldedSetIterable iter X.env x = pure x := by intro _; rfl) : EX X Z (.ListComp elt [⟨.Name x xp, iter, [], 0⟩] scope pos) ρ O R := by
  refine ex_lc hc hN ok (IX.mono h fun ds Gd O1 ⟨h1, f, h2, h3, h4⟩ => ⟨h1, fun d => [f d], by rw [flat_map, List.length_map]; exact h2, fun s H C cl fp i d L c hm hd hi => ?_, by rw [flat_map]; exact h4⟩) hs
  refine gx_name (i := j) ⟨rfl, Fewer.set hw (Fewer.refl _), ts_nil ⟨rfl, fun _ L2 c2 hm2 hd2 => (h3 s H C cl fp i d L2 c2 hm2 hd2 hi).mono fun e O4 ⟨e1, e2⟩ => ⟨e1, by rw [e2]⟩, fun z => by cases z⟩⟩ hN hj (hx C cl) ?_
  rcases hf with hf | hf
  · left
    show (scope.names.lookup x == some .cell) = true
    rw [hf]
    decide
  · exact .inr (hf C cl)
end
end PD

set_option Elab.async false
set_option linter.all false
set_option autoImplicit false
set_option maxRecDepth 100000
set_option maxHeartbeats 2000000
/-! PD, part P: comprehensions of several clauses in short. -/
namespace PD
open PySem PySem.Spec L2
open PyProof.Rows hiding St
section
variable {X : Cx} {Z : Zn} {ρ : Slots} {O : Own}
theorem Kl0 : Kl.ok (.lst []) 0 := ⟨[], rfl, Nat.le_refl _⟩
theorem Kc0 : Kc.ok (.dct []) 0 := ⟨[], rfl, Nat.le_refl _⟩
/-- what the first of several clauses does inside -/
abbrev wN (ce : Expr) (i1 : Expr) : Cx → Addr → (Shared → Prop) → Shared → Prop := fun Y D => wMid Y.prog Y.w Y.A ce 1 i1 (.ref D) Y.env
/-- [elt for t0 in i0 for t1 in i1 ..], by g over the first -/
theorem ex_lcN {elt t0 i0 t1 i1 : Expr} {ifs0 ifs1 : List Expr} {gs : List Comprehension} {scope : Scope} {pos : Pos} {own : List (Str × Nat)} {R : D → Own → Prop} (hc : X.calm = true) (hN : X.N.Nodup) (ok : BlkOk X.N X.env.scope scope own)
    (h : IX X Z t0 i0 ρ O fun ds Gd O1 => (∀ L c, L ∉ Z.M → L ∉ O1.map (·.1) → Gd ((L, c) :: O1)) ∧ ∃ g : D → List D, (ds.flatMap g).length ≤ 1000000 ∧
      (∀ (s : Shared) (H : Hp) (C : Addr) (cl : List (Str × Addr)) (fp : List Addr), TurnK Kl (blkX X scope s H C cl fp) Z t0 ifs0 (wN (.ListComp elt (⟨t0, i0, ifs0, 0⟩ :: ⟨t1, i1, ifs1, 0⟩ :: gs) scope pos) i1 (blkX X scope s H C cl fp)) (wipeD ρ (own.map (·.2))) O1 ds g) ∧ R (.lst (ds.flatMap g)) O1)
    (hs : ∀ x, foldedSetIterable i0 X.env x = pure x := by intro _; rfl) (hs1 : ∀ env x, foldedSetIterable i1 env x = pure x := by intro _ _; rfl) : EX X Z (.ListComp elt (⟨t0, i0, ifs0, 0⟩ :: ⟨t1, i1, ifs1, 0⟩ :: gs) scope pos) ρ O R := by
  have T : TopK (ε := D) Kl X Z scope own t0 i0 ifs0 (wN (.ListComp elt (⟨t0, i0, ifs0, 0⟩ :: ⟨t1, i1, ifs1, 0⟩ :: gs) scope pos) i1) ρ O (.lst []) (fun d O1 => ∃ p c O2, d = .raw (.ref p) ∧ p ∉ Z.M ∧ O1.Perm ((p, c) :: O2) ∧ R c.d O2) := IX.mono h fun ds Gd O1 ⟨h1, g, h2, h3, h4⟩ => by
    refine ⟨h1, g, h2, h3, fun p hp hd => ⟨p, .lst (ds.flatMap g), O1, rfl, hp, ?_, h4⟩⟩
    rw [Kl_fold, List.nil_append]
  have lr : ∀ (s : Shared) (H : Hp) (C : Addr) (cl : List (Str × Addr)) (fp : List Addr) (D : Addr), LR X.prog X.w X.A (.ListComp elt (⟨t0, i0, ifs0, 0⟩ :: ⟨t1, i1, ifs1, 0⟩ :: gs) scope pos) 0 t0 ifs0 (.ref D) (compEnvC scope cl C X.env) (wN (.ListComp elt (⟨t0, i0, ifs0, 0⟩ :: ⟨t1, i1, ifs1, 0⟩ :: gs) scope pos) i1 (blkX X scope s H C cl fp) D) :=
    fun s H C cl fp D => lr_mid (gens := ⟨t0, i0, ifs0, 0⟩ :: ⟨t1, i1, ifs1, 0⟩ :: gs) (it0 := i0) (.inl ⟨_, _, _, rfl⟩) (hs1 _) fun it => turn_LM (k := 0) (gens := ⟨t0, i0, ifs0, 0⟩ :: ⟨t1, i1, ifs1, 0⟩ :: gs) rfl rfl it
  exact ex_frz (R := R) (ex_lcP hc hN ok lr (fun Y D => wm_mid) (topK_core (fun Y D => wm_mid) Kl0 T) hs)
/-- the k-th clause ahead of another -/
theorem axk_next {elt tg it0 t1 i1 : Expr} {ifs ifs1 : List Expr} {gens : List Comprehension} {k : Nat} {scope : Scope} {pos : Pos} {ρ0 : Slots} {es : List D} (h0 : gens[k]? = some ⟨tg, it0, ifs, 0⟩) (h1 : gens[k + 1]? = some ⟨t1, i1, ifs1, 0⟩) (hc : X.calm = true) (hx : X.xe = FF) (hf : Fewer ρ0 ρ)
    (h : ∀ D c, D ∉ Z.M → D ∉ O.map (·.1) → IX X Z tg it0 ρ ((D, c) :: O) fun ds Gd O1 => O1 = (D, c) :: O ∧ (∀ c', Gd ((D, c') :: O)) ∧ ∃ g : PD.D → List PD.D, es = ds.flatMap g ∧
      TurnK Kl X Z tg ifs (fun D => wMid X.prog X.w X.A (.ListComp elt gens scope pos) (k + 1) i1 (.ref D) X.env) ρ O ds g)
    (hs1 : ∀ x, foldedSetIterable i1 X.env x = pure x := by intro _; rfl) : AXK Kl X Z (fun D => wMid X.prog X.w X.A (.ListComp elt gens scope pos) k it0 (.ref D) X.env) ρ0 ρ O es :=
  axk_mid (gens := gens) (.inl ⟨_, _, _, rfl⟩) h0 (fun D => lr_mid (gens := gens) (it0 := it0) (.inl ⟨_, _, _, rfl⟩) hs1 fun it => turn_LM h0 h1 it) (fun D => wm_mid) hc hx hf h
/-- the last clause, k-th -/
theorem axk_last {elt tg it0 : Expr} {ifs : List Expr} {gens : List Comprehension} {k : Nat} {scope : Scope} {pos : Pos} {ρ0 : Slots} {es : List D} (h0 : gens[k]? = some ⟨tg, it0, ifs, 0⟩) (h1 : gens[k + 1]? = none) (hc : X.calm = true) (hx : X.xe = FF) (hf : Fewer ρ0 ρ)
    (h : ∀ D c, D ∉ Z.M → D ∉ O.map (·.1) → IX X Z tg it0 ρ ((D, c) :: O) fun ds Gd O1 => O1 = (D, c) :: O ∧ (∀ c', Gd ((D, c') :: O)) ∧ ∃ g : PD.D → List PD.D, es = ds.flatMap g ∧
      TurnK Kl X Z tg ifs (fun D => wLast X.prog X.w X.A (emitL elt (.ref D) X.env)) ρ O ds g) : AXK Kl X Z (fun D => wMid X.prog X.w X.A (.ListComp elt gens scope pos) k it0 (.ref D) X.env) ρ0 ρ O es :=
  axk_mid (gens := gens) (.inl ⟨_, _, _, rfl⟩) h0 (fun D => lr_last (gens := gens) (it0 := it0) (.inl ⟨_, _, _, rfl⟩) fun it => turn_LL h0 h1 it) (fun D => wm_last) hc hx hf h
/-! the same of dicts -/
theorem ex_dcO {kx vx tg iter : Expr} {ifs : List Expr} {scope : Scope} {pos : Pos} {own : List (Str × Nat)} {R : D → Own → Prop} (hc : X.calm = true) (hN : X.N.Nodup) (ok : BlkOk X.N X.env.scope scope own)
    (h : IX X Z tg iter ρ O fun ds Gd O1 => (∀ L c, L ∉ Z.M → L ∉ O1.map (·.1) → Gd ((L, c) :: O1)) ∧ ∃ g : D → List (Key × D), (ds.flatMap g).length ≤ 1000000 ∧
      (∀ (s : Shared) (H : Hp) (C : Addr) (cl : List (Str × Addr)) (fp : List Addr), TurnK Kc (blkX X scope s H C cl fp) Z tg ifs (fun D => wLast X.prog X.w X.A (emitD kx vx D (compEnvC scope cl C X.env))) (wipeD ρ (own.map (·.2))) O1 ds g) ∧ ∀ p, p ∉ Z.M → p ∉ O1.map (·.1) → R (.raw (.ref p)) ((p, .dct (dputs (ds.flatMap g))) :: O1))
    (hs : ∀ x, foldedSetIterable iter X.env x = pure x := by intro _; rfl) : EX X Z (.DictComp kx vx [⟨tg, iter, ifs, 0⟩] scope pos) ρ O R := by
  have T : TopK (ε := Key × D) Kc X Z scope own tg iter ifs (fun Y D => wLast Y.prog Y.w Y.A (emitD kx vx D Y.env)) ρ O (.dct []) R := IX.mono h fun ds Gd O1 ⟨h1, g, h2, h3, h4⟩ => by
    refine ⟨h1, g, h2, h3, fun p hp hd => ?_⟩
    have := h4 p hp hd
    rw [Kc_fold]
    exact this
  exact ex_dcP hc hN ok (fun s H C cl fp D => lr_last (gens := [⟨tg, iter, ifs, 0⟩]) (it0 := iter) (.inr ⟨_, _, _, _, rfl⟩) fun it => turn_DL (k := 0) (gens := [⟨tg, iter, ifs, 0⟩]) rfl rfl it) (fun Y D => wm_last) (topK_core (fun Y D => wm_last) Kc0 T) hs
theorem ex_dcO2 {kx vx t0 i0 t1 i1 : Expr} {ifs0 ifs1 : List Expr} {scope : Scope} {pos : Pos} {own : List (Str × Nat)} {R : D → Own → Prop} (hc : X.calm = true) (hN : X.N.Nodup) (ok : BlkOk X.N X.env.scope scope own)
    (h : IX X Z t0 i0 ρ O fun ds Gd O1 => (∀ L c, L ∉ Z.M → L ∉ O1.map (·.1) → Gd ((L, c) :: O1)) ∧ ∃ g : D → List (Key × D), (ds.flatMap g).length ≤ 1000000 ∧
      (∀ (s : Shared) (H : Hp) (C : Addr) (cl : List (Str × Addr)) (fp : List Addr), TurnK Kc (blkX X scope s H C cl fp) Z t0 ifs0 (wN (.DictComp kx vx [⟨t0, i0, ifs0, 0⟩, ⟨t1, i1, ifs1, 0⟩] scope pos) i1 (blkX X scope s H C cl fp)) (wipeD ρ (own.map (·.2))) O1 ds g) ∧ ∀ p, p ∉ Z.M → p ∉ O1.map (·.1) → R (.raw (.ref p)) ((p, .dct (dputs (ds.flatMap g))) :: O1))
    (hs : ∀ x, foldedSetIterable i0 X.env x = pure x := by intro _; rfl) (hs1 : ∀ env x, foldedSetIterable i1 env x = pure x := by intro _ _; rfl) : EX X Z (.DictComp kx vx [⟨t0, i0, ifs0, 0⟩, ⟨t1, i1, ifs1, 0⟩] scope pos) ρ O R := by
  have T : TopK (ε := Key × D) Kc X Z scope own t0 i0 ifs0 (wN (.DictComp kx vx [⟨t0, i0, ifs0, 0⟩, ⟨t1, i1, ifs1, 0⟩] scope pos) i1) ρ O (.dct []) R := IX.mono h fun ds Gd O1 ⟨h1, g, h2, h3, h4⟩ => by
    refine ⟨h1, g, h2, h3, fun p hp hd => ?_⟩
    have := h4 p hp hd
    rw [Kc_fold]
    exact this
  have lr : ∀ (s : Shared) (H : Hp) (C : Addr) (cl : List (Str × Addr)) (fp : List Addr) (D : Addr), LR X.prog X.w X.A (.DictComp kx vx [⟨t0, i0, ifs0, 0⟩, ⟨t1, i1, ifs1, 0⟩] scope pos) 0 t0 ifs0 (.ref D) (compEnvC scope cl C X.env) (wN (.DictComp kx vx [⟨t0, i0, ifs0, 0⟩, ⟨t1, i1, ifs1, 0⟩] scope pos) i1 (blkX X scope s H C cl fp) D) :=
    fun s H C cl fp D => lr_mid (gens := [⟨t0, i0, ifs0, 0⟩, ⟨t1, i1, ifs1, 0⟩]) (it0 := i0) (.inr ⟨_, _, _, _, rfl⟩) (hs1 _) fun it => turn_DM (k := 0) (gens := [⟨t0, i0, ifs0, 0⟩, ⟨t1, i1, ifs1, 0⟩]) rfl rfl it
  exact ex_dcP hc hN ok lr (fun Y D => wm_mid) (topK_core (fun Y D => wm_mid) Kc0 T) hs
theorem axk_lastD {kx vx tg it0 : Expr} {ifs : List Expr} {gens : List Comprehension} {k : Nat} {scope : Scope} {pos : Pos} {ρ0 : Slots} {es : List (Key × D)} (h0 : gens[k]? = some ⟨tg, it0, ifs, 0⟩) (h1 : gens[k + 1]? = none) (hc : X.calm = true) (hx : X.xe = FF) (hf : Fewer ρ0 ρ)
    (h : ∀ D c, D ∉ Z.M → D ∉ O.map (·.1) → IX X Z tg it0 ρ ((D, c) :: O) fun ds Gd O1 => O1 = (D, c) :: O ∧ (∀ c', Gd ((D, c') :: O)) ∧ ∃ g : PD.D → List (Key × PD.D), es = ds.flatMap g ∧
      TurnK Kc X Z tg ifs (fun D => wLast X.prog X.w X.A (emitD kx vx D X.env)) ρ O ds g) : AXK Kc X Z (fun D => wMid X.prog X.w X.A (.DictComp kx vx gens scope pos) k it0 (.ref D) X.env) ρ0 ρ O es :=
  axk_mid (gens := gens) (.inr ⟨_, _, _, _, rfl⟩) h0 (fun D => lr_last (gens := gens) (it0 := it0) (.inr ⟨_, _, _, _, rfl⟩) fun it => turn_DL h0 h1 it) (fun D => wm_last) hc hx hf h
end
end PD

set_option Elab.async false
set_option linter.all false
set_option autoImplicit false
set_option maxRecDepth 100000
set_option maxHeartbeats 2000000
/-! PD, part Q: a, b = x, y; calls that give new things. -/
namespace PD
open PySem PySem.Spec L2
open PyProof.Rows hiding St
section
variable {X : Cx} {Z : Zn} {ρ : Slots} {O : Own} {E : En}
theorem Sts.set2 {K : PySem.W.Frag} {B H : Hp} {σ : L2.St} {i j : Nat} {v u : V} {d c : D} (s : Sts K Z B H σ ρ O) (hi : i < σ.length) (hj : j < σ.length) (r : Rep K B d v) (q : Rep K B c u) : Sts K Z B H ((σ.set i (some v)).set j (some u)) ((ρ.set i (some d)).set j (some c)) O :=
  (s.set hi r).set (by rw [List.length_set]; exact hj) q
theorem s1_par2 {i j : Nat} {x y : Str} {a b : Expr} {px py pt pos : Pos} {kt k2 : Nat} {pt2 : Pos} (hc : X.calm = true) (hN : X.N.Nodup) (hij : i ≠ j)
    (h : EA X Z [a, b] ρ O fun ds O1 => ∃ d c, ds = [d, c] ∧ E.nx ((ρ.set i (some d)).set j (some c)) O1)
    (hw : swappedStores [.Tuple [.Name x px, .Name y py] kt pt] (.Tuple [a, b] k2 pt2) X.env = pure (some [x, y]) := by rfl) (hi : X.N[i]? = some x := by rfl) (hj : X.N[j]? = some y := by rfl) (hx : X.env.scope.names.lookup x = some .local := by rfl) (hy : X.env.scope.names.lookup y = some .local := by rfl)
    (hs : swapsWithSole [.Tuple [.Name x px, .Name y py] kt pt] (.Tuple [a, b] k2 pt2) pos.line X.env = pure false := by rfl) : S1 X Z (.Assign [.Tuple [.Name x px, .Name y py] kt pt] (.Tuple [a, b] k2 pt2) pos) ρ O E := fun σ B H s => by
  intro pins s0 I
  have hli : i < σ.length := by rw [I.len]; exact (List.getElem?_eq_some_iff.mp hi).1
  have hlj : j < σ.length := by rw [I.len]; exact (List.getElem?_eq_some_iff.mp hj).1
  refine (ps_par hc hN hi hj hij hx hy pa_ev hw hs).run pins s0 σ H _ I ?_
  refine (h σ B H s).mono fun vs H1 ⟨ds, B1, O1, s1, r1, e1, d, c, x1, q⟩ => ?_
  subst x1
  cases r1 with
  | cons r1 r2 => cases r2 with
    | cons r2 r3 =>
      cases r3
      exact ⟨_, _, rfl, B1, _, O1, s1.set2 hli hlj r1 r2, e1, q⟩
theorem s1_par3 {i j l : Nat} {x y z : Str} {a b c : Expr} {px py pz pt pos : Pos} {kt k2 : Nat} {pt2 : Pos} (hc : X.calm = true) (hN : X.N.Nodup) (hij : i ≠ j) (hil : i ≠ l) (hjl : j ≠ l)
    (h : EA X Z [a, b, c] ρ O fun ds O1 => ∃ d1 d2 d3, ds = [d1, d2, d3] ∧ E.nx (((ρ.set i (some d1)).set j (some d2)).set l (some d3)) O1)
    (hw : swappedStores [.Tuple [.Name x px, .Name y py, .Name z pz] kt pt] (.Tuple [a, b, c] k2 pt2) X.env = pure (some [x, y, z]) := by rfl) (hi : X.N[i]? = some x := by rfl) (hj : X.N[j]? = some y := by rfl) (hl : X.N[l]? = some z := by rfl)
    (hx : X.env.scope.names.lookup x = some .local := by rfl) (hy : X.env.scope.names.lookup y = some .local := by rfl) (hz : X.env.scope.names.lookup z = some .local := by rfl)
    (hs : swapsWithSole [.Tuple [.Name x px, .Name y py, .Name z pz] kt pt] (.Tuple [a, b, c] k2 pt2) pos.line X.env = pure false := by rfl) : S1 X Z (.Assign [.Tuple [.Name x px, .Name y py, .Name z pz] kt pt] (.Tuple [a, b, c] k2 pt2) pos) ρ O E := fun σ B H s => by
  intro pins s0 I
  have hli : i < σ.length := by rw [I.len]; exact (List.getElem?_eq_some_iff.mp hi).1
  have hlj : j < σ.length := by rw [I.len]; exact (List.getElem?_eq_some_iff.mp hj).1
  have hll : l < σ.length := by rw [I.len]; exact (List.getElem?_eq_some_iff.mp hl).1
  refine (ps_par3 hc hN hi hj hl hij hil hjl hx hy hz pa_ev hw hs).run pins s0 σ H _ I ?_
  refine (h σ B H s).mono fun vs H1 ⟨ds, B1, O1, s1, r1, e1, d, c, f, x1, q⟩ => ?_
  subst x1
  cases r1 with
  | cons r1 r2 => cases r2 with
    | cons r2 r3 => cases r3 with
      | cons r3 r4 =>
        cases r4
        exact ⟨_, _, _, rfl, B1, _, O1, (s1.set2 hli hlj r1 r2).set (by rw [List.length_set, List.length_set]; exact hll) r3, e1, q⟩
/-- what a call has made is none of what the caller was handed -/
def NewTo (Z : Zn) (O O' : Own) : Prop := ∀ p, p ∈ O'.map (·.1) → p ∉ O.map (·.1) → p ∉ Z.M
end
section
variable {X : Cx} {Z : Zn} {ρ : Slots} {O : Own} {k k' : Nat} {f C : Addr} {fd : FuncData} {st : Stmt} {ps : List Str} {Pd : DP} {x : Str} {p pos : Pos} {e : Expr} {es : List Expr} {R : D → Own → Prop} {Xr : Addr → D → Own → Prop}
theorem Sts.newTo {K : PySem.W.Frag} {B H B' H' : Hp} {σ : L2.St} {O' : Own} (s : Sts K Z B H σ ρ O) (o : Sts K (zn B H O) B' H' [] [] O') : NewTo Z O O' := fun p hp hn => by
  obtain ⟨q, hq, e⟩ := List.mem_map.mp hp
  have e : q.1 = p := e
  obtain ⟨_, _, h3⟩ := o.ow q hq
  rw [e] at h3
  exact s.notM (h3.elim id fun z => absurd z hn)
theorem sp_callN {B0 B H : Hp} {σ : L2.St} {ds : List D} {vs : List V} (s : Sts X.K Z B H σ ρ O) (e : Ex B0 B) (r : Reps X.K B ds vs) (h : Pd ds O (fun d O' => NewTo Z O O' → R d O') Xr) : spF X.K Pd vs H (RQ X.K Z σ ρ B0 R) (WE (WD X.K Z Xr) σ) :=
  ⟨B, ds, O, _, Xr, s.enter, r, h, fun v d B' H' O' o rv q => ⟨d, B', O', s.after o, rv, e.trans o.gr.bb, q (s.newTo o)⟩, fun C w v dx B' H' O' o rw hd q => ⟨C, w, v, dx, B', O', rfl, rfl, (s.after o).bare, rw, hd, q⟩⟩
/-- f(e, ..) that gives a new thing -/
theorem ex_fnN (F : Ok X.prog X.w X.K X.mg X.base k x st [] [] ps Pd) (hk : k ≤ k') (hr : Room k' X.A)
    (b : ∀ (kV doc pm : Value) (an : Option Addr) (cdv ct : Value) (us : List Value), us.length = ps.length → bindArgs (PySem.W.fnOf x x (defArgs st) (defBody st) (defScope st) .none kV doc pm an cdv ct) ⟨us, []⟩ = pure (ps.zip us))
    (tk : TkD X Z Xr) (h : EA X Z (e :: es) ρ O fun ds O1 => Pd ds O1 (fun d O2 => NewTo Z O1 O2 → R d O2) Xr) (hg : Gl X x := by rfl) (hdb : (x == ("__debug__" : Str)) = false := by decide) (he : starEach (e :: es) X.env = (false, eval e X.env) :: starEach es X.env := by rfl)
    (hpl : (backTo pos (starEach es X.env)).any (·.1) = false := by rfl) : EX X Z (.Call (.Name x p) (e :: es) [] pos) ρ O R := fun σ B H s pins s0 I => by
  obtain ⟨f, fd, hm, F, ok⟩ := F
  have ok' := ok.mono hk
  refine wpAny_Call_Name_kw (ld_glob I hg hm ?_ hdb)
  refine PySem.W.callWith_K (h₀ := X.base) I.ok.mod.kin F.kp (thn (h σ B H s pos pins s0 I) fun us s1 ⟨vs, H1, I1, r, ds, B1, O1, S1, rd, e1, q⟩ => ⟨I1.kIn, ?_⟩) he hpl
  have hl : us.length = ps.length := by rw [← r.length]; exact ok'.len _ _ _ _ (sp_callN S1 e1 rd q)
  have hb := F.bindsN b s1 us I1.kIn (by rw [List.append_nil]; exact hl)
  rw [List.append_nil] at hb
  refine wpAny_call (codeAny_mono (ok'.run X.A X.stack s1 H1 ⟨us, []⟩ us vs _ _ hr I1.env0 hb r (sp_callN S1 e1 rd q)) fun r s' hq => ?_)
  cases r with
  | error e => exact passAt tk σ pins H1 s1 e s' I1 hq
  | ok fl =>
    cases fl with
    | ret u => exact I1.after hq
    | next => exact False.elim hq
    | brk => exact False.elim hq
    | cont => exact False.elim hq
end
end PD

set_option Elab.async false
set_option linter.all false
set_option autoImplicit false
set_option maxRecDepth 100000
set_option maxHeartbeats 2000000
/-! PD, part R: calls with defaults. -/
namespace PD
open PySem PySem.Spec L2
open PyProof.Rows hiding St
section
variable {X : Cx} {Z : Zn} {ρ : Slots} {O : Own} {k k' : Nat} {st : Stmt} {dvs dv2 : List V} {kws : List (Str × V)} {dD : List D} {ps : List Str} {Pd : DP} {x : Str} {p pos : Pos} {e : Expr} {es : List Expr} {R : D → Own → Prop} {Xr : Addr → D → Own → Prop}
theorem ex_fnD (F : Ok X.prog X.w X.K X.mg X.base k x st dvs kws ps Pd) (hk : k ≤ k') (hr : Room k' X.A)
    (hb : ∀ f fd, FunD X.K x x (defArgs st) (defBody st) (defScope st) dvs kws f fd → ∃ dvals, Vals dv2 dvals ∧ Binds X.K fd ps dvals) (hdD : ∀ B, Reps X.K B dD dv2)
    (tk : TkD X Z Xr) (h : EA X Z (e :: es) ρ O fun ds O1 => Pd (ds ++ dD) O1 R Xr) (hg : Gl X x := by rfl) (hdb : (x == ("__debug__" : Str)) = false := by decide) (he : starEach (e :: es) X.env = (false, eval e X.env) :: starEach es X.env := by rfl)
    (hpl : (backTo pos (starEach es X.env)).any (·.1) = false := by rfl) : EX X Z (.Call (.Name x p) (e :: es) [] pos) ρ O R := by
  obtain ⟨f, fd, hm, F, ok⟩ := F
  obtain ⟨dvals, v1, v2⟩ := hb f fd F
  exact ex_call (ok.mono hk) hr hm F.kp v2 v1 hdD tk h hg hdb he hpl
/-- the slots that a call by keywords fills -/
theorem ex_fnK {n : Nat} {ks : List Str} {kw : List Keyword} (F : Ok X.prog X.w X.K X.mg X.base k x st dvs kws ps Pd) (hk : k ≤ k') (hr : Room k' X.A)
    (hb : ∀ f fd, FunD X.K x x (defArgs st) (defBody st) (defScope st) dvs kws f fd → ∃ (g : List Value → List Value → List Value) (gV : List V → List V → List V) (gD : List D → List D → List D), KBn X.K fd ps n ks g gV ∧ KPut X.K gV gD ∧
      EA X Z (e :: es) ρ O fun ds O1 => EK X Z kw ρ O1 fun zs O2 => ds.length = n ∧ zs.length = ks.length ∧ Pd (gD ds zs) O2 R Xr)
    (tk : TkD X Z Xr) (hall : (backToKw pos (keywordEach kw X.env)).all (·.1.isSome) = true := by rfl) (hks : (backToKw pos (keywordEach kw X.env)).filterMap (·.1) = ks := by rfl) (hg : Gl X x := by rfl)
    (hdb : (x == ("__debug__" : Str)) = false := by decide) (he : starEach (e :: es) X.env = (false, eval e X.env) :: starEach es X.env := by rfl)
    (hpl : ((backTo pos (starEach (e :: es) X.env)).any (·.1) || (backToKw pos (keywordEach kw X.env)).any (·.1.isNone)) = false := by rfl) : EX X Z (.Call (.Name x p) (e :: es) kw pos) ρ O R := by
  obtain ⟨f, fd, hm, F, ok⟩ := F
  obtain ⟨g, gV, gD, h1, h2, h3⟩ := hb f fd F
  exact ex_callK (ok.mono hk) hr hm F.kp h1 h2 tk h3 hall hks hg hdb he hpl
end
end PD

set_option Elab.async false
set_option linter.all false
set_option autoImplicit false
set_option maxRecDepth 100000
set_option maxHeartbeats 2000000
/-! PD, part S: minus; what is owned let go; name = [..]. -/
namespace PD
open PySem PySem.Spec L2
open PyProof.Rows hiding St
section
variable {X : Cx} {Z : Zn} {ρ : Slots} {O : Own} {R : D → Own → Prop} {e : Expr} {pos : Pos} {E : En}
theorem ex_neg (h : EX X Z e ρ O fun d O1 => ∃ i : Int, d = .int i ∧ R (.int (-i)) O1) : EX X Z (.UnaryOp .USub e pos) ρ O R := fun σ B H s => by
  refine EV.of (pe_un un_neg pe_ev) ?_
  refine (h σ B H s).mono fun v1 H1 ⟨d1, B1, O1, s1, r1, e1, i, x, q⟩ => ?_
  subst x
  cases r1
  exact ⟨i, rfl, _, B1, O1, s1, .int _, e1, q⟩
/-- what is owned may be let go -/
theorem ex_drop (h : EX X Z e ρ O fun d O1 => ∃ O2 : Own, O2.Sublist O1 ∧ R d O2) : EX X Z e ρ O R := fun σ B H s =>
  (h σ B H s).mono fun v H' ⟨d, B', O', s', r, e, O2, sub, q⟩ => ⟨d, B', O2, s'.drop sub, r, e, q⟩
theorem Sts.slotFrz {K : PySem.W.Frag} {B H : Hp} {σ : L2.St} {i : Nat} {p : Addr} {c : OC} {O2 : Own} (s : Sts K Z B H σ (ρ.set i (some (.raw (.ref p)))) ((p, c) :: O2)) (hm : p ∉ Z.M) : ∃ B', Sts K Z B' H σ (ρ.set i (some c.d)) O2 ∧ Ex B B' := by
  obtain ⟨B', s1, e1, r1⟩ := s.frz hm
  refine ⟨B', ⟨s1.gr, fun j d h => ?_, s1.ow, s1.nd, s1.ma⟩, e1⟩
  by_cases z : i = j
  · subst z
    by_cases zl : i < ρ.length
    · rw [List.getElem?_set_self zl] at h
      have hd : c.d = d := by simpa using h
      subst hd
      obtain ⟨v, h1, h2⟩ := s1.sl i _ (by rw [List.getElem?_set_self zl])
      cases h2
      exact ⟨_, h1, r1⟩
    · rw [List.getElem?_eq_none (by rw [List.length_set]; omega)] at h
      cases h
  · rw [List.getElem?_set_ne z] at h
    exact s1.sl j d (by rw [List.getElem?_set_ne z]; exact h)
/-- a statement whose name holds a new list, which nothing changes -/
theorem s1_frz {st : Stmt} {i : Nat} (h : S1 X Z st ρ O { E with nx := fun ρ' O' => ∃ (p : Addr) (c : OC) (O2 : Own) (ρ0 : Slots), ρ' = ρ0.set i (some (.raw (.ref p))) ∧ p ∉ Z.M ∧ O' = (p, c) :: O2 ∧ E.nx (ρ0.set i (some c.d)) O2 }) : S1 X Z st ρ O E := fun σ B H s => by
  refine EVS.mono (h σ B H s) (fun σ' H' ⟨B', ρ', O', s', e, p, c, O2, ρ0, e1, hm, e2, q⟩ => ?_) (fun _ _ q => q) (fun _ _ q => q) (fun _ _ q => q)
  subst e1 e2
  obtain ⟨B2, s2, e3⟩ := s'.slotFrz hm
  exact ⟨B2, _, _, s2, e.trans e3, q⟩
/-- name = [elt for tg in iter if ..] on one line, the list one's own -/
theorem s1_setLcO {i : Nat} {y : Str} {py : Pos} {elt tg iter : Expr} {ifs : List Expr} {scope : Scope} {pos spos : Pos} {own : List (Str × Nat)} (hc : X.calm = true) (hN : X.N.Nodup) (ok : BlkOk X.N X.env.scope scope own)
    (h : IX X Z tg iter ρ O fun ds Gd O1 => (∀ L c, L ∉ Z.M → L ∉ O1.map (·.1) → Gd ((L, c) :: O1)) ∧ ∃ g : D → List D, (ds.flatMap g).length ≤ 1000000 ∧
      (∀ (s : Shared) (H : Hp) (C : Addr) (cl : List (Str × Addr)) (fp : List Addr) (i : Nat) (d : D) (L : Addr) (c : OC), L ∉ Z.M → L ∉ O1.map (·.1) → ds[i]? = some d →
        GX (blkX X scope s H C cl fp) Z tg d (wipeD ρ (own.map (·.2))) ((L, c) :: O1) fun ρ2 O2 => O2 = (L, c) :: O1 ∧ Fewer (wipeD ρ (own.map (·.2))) ρ2 ∧ TS (blkX X scope s H C cl fp) Z ifs ρ2 O2 fun b O3 => O3 = (L, c) :: O1 ∧
          (b = true → ∀ L c, L ∉ Z.M → L ∉ O1.map (·.1) → EX (blkX X scope s H C cl fp) Z elt ρ2 ((L, c) :: O1) fun e O4 => O4 = (L, c) :: O1 ∧ g d = [e]) ∧ (b = false → g d = [])) ∧
      ∀ p, p ∉ Z.M → p ∉ O1.map (·.1) → E.nx (ρ.set i (some (.raw (.ref p)))) ((p, .lst (ds.flatMap g)) :: O1))
    (hsw : swapsWith (.ListComp elt [⟨tg, iter, ifs, 0⟩] scope pos) (some (.Name y py)) spos.line X.env = pure true := by rfl)
    (hy : X.N[i]? = some y := by rfl) (hyl : X.env.scope.names.lookup y = some .local := by rfl) (hs : ∀ x, foldedSetIterable iter X.env x = pure x := by intro _; rfl) : S1 X Z (.Assign [.Name y py] (.ListComp elt [⟨tg, iter, ifs, 0⟩] scope pos) spos) ρ O E := by
  refine s1_setLcP (w := w1 elt) hc hN ok lr1 (fun Y D => wm_last) hsw (topK_core (κ := Kl) (scope := scope) (own := own) (ifs := ifs) (w := w1 elt) (c0 := .lst []) (R := fun d O' => E.nx (ρ.set i (some d)) O') (fun Y D => wm_last) ⟨[], rfl, Nat.le_refl _⟩ (IX.mono h fun ds Gd O1 ⟨h1, g, h2, h3, h4⟩ => ⟨h1, g, h2, fun s H C cl fp => ?_, fun p hp hd => ?_⟩)) hy hyl hs
  · intro i d L c hm hd hi
    exact (h3 s H C cl fp i d L c hm hd hi).mono fun ρ2 O2 ⟨a1, a2, a3⟩ => ⟨a1, a3.mono fun b O3 ⟨b1, b2, b3⟩ => ⟨b1, fun hb => axk_elt rfl a2 (b2 hb), fun hb => ⟨a2, b3 hb⟩⟩⟩
  · have := h4 p hp hd
    rwa [Kl_fold, List.nil_append]
/-- the same, frozen -/
theorem s1_setLc {i : Nat} {y : Str} {py : Pos} {elt tg iter : Expr} {ifs : List Expr} {scope : Scope} {pos spos : Pos} {own : List (Str × Nat)} (hc : X.calm = true) (hN : X.N.Nodup) (ok : BlkOk X.N X.env.scope scope own)
    (h : IX X Z tg iter ρ O fun ds Gd O1 => (∀ L c, L ∉ Z.M → L ∉ O1.map (·.1) → Gd ((L, c) :: O1)) ∧ ∃ g : D → List D, (ds.flatMap g).length ≤ 1000000 ∧
      (∀ (s : Shared) (H : Hp) (C : Addr) (cl : List (Str × Addr)) (fp : List Addr) (i : Nat) (d : D) (L : Addr) (c : OC), L ∉ Z.M → L ∉ O1.map (·.1) → ds[i]? = some d →
        GX (blkX X scope s H C cl fp) Z tg d (wipeD ρ (own.map (·.2))) ((L, c) :: O1) fun ρ2 O2 => O2 = (L, c) :: O1 ∧ Fewer (wipeD ρ (own.map (·.2))) ρ2 ∧ TS (blkX X scope s H C cl fp) Z ifs ρ2 O2 fun b O3 => O3 = (L, c) :: O1 ∧
          (b = true → ∀ L c, L ∉ Z.M → L ∉ O1.map (·.1) → EX (blkX X scope s H C cl fp) Z elt ρ2 ((L, c) :: O1) fun e O4 => O4 = (L, c) :: O1 ∧ g d = [e]) ∧ (b = false → g d = [])) ∧ E.nx (ρ.set i (some (.lst (ds.flatMap g)))) O1)
    (hsw : swapsWith (.ListComp elt [⟨tg, iter, ifs, 0⟩] scope pos) (some (.Name y py)) spos.line X.env = pure true := by rfl)
    (hy : X.N[i]? = some y := by rfl) (hyl : X.env.scope.names.lookup y = some .local := by rfl) (hs : ∀ x, foldedSetIterable iter X.env x = pure x := by intro _; rfl) : S1 X Z (.Assign [.Name y py] (.ListComp elt [⟨tg, iter, ifs, 0⟩] scope pos) spos) ρ O E :=
  s1_frz (i := i) (s1_setLcO hc hN ok (IX.mono h fun ds Gd O1 ⟨h1, g, h2, h3, h4⟩ => ⟨h1, g, h2, h3, fun p hp hd => ⟨p, .lst (ds.flatMap g), O1, ρ, rfl, hp, rfl, h4⟩⟩) hsw hy hyl hs)
end
end PD

set_option Elab.async false
set_option linter.all false
set_option autoImplicit false
set_option maxRecDepth 100000
set_option maxHeartbeats 2000000
/-! PD, part T: classes with an __init__ of their own; calls by keywords alone. -/
namespace PD
open PySem PySem.Spec L2
open PyProof.Rows hiding St
/-- a class of the text and its __init__ -/
def Ci (K : PySem.W.Frag) (mg : Str → Option Value) (x qual : Str) (C : Addr) (st : Stmt) : Prop := ∃ f fd, mg x = some (.ref C) ∧ Mk K C f ∧ FunD K "__init__" qual (defArgs st) (defBody st) (defScope st) [] [] f fd
structure MkF (P : Program) (w : World) (K : PySem.W.Frag) (mg : Str → Option Value) (base : Heap) (k : Nat) (x : Str) (C : Addr) (ps : List Str) (Pd : DP) (f : Addr) (fd : FuncData) : Prop where
  hm : mg x = some (.ref C)
  M : Mk K C f
  ok : FnOk P w K mg base (L2.CX P w) k f fd ps (spF K Pd)
  b : Binds K fd ps []
def MkOk (P : Program) (w : World) (K : PySem.W.Frag) (mg : Str → Option Value) (base : Heap) (k : Nat) (x : Str) (C : Addr) (ps : List Str) (Pd : DP) : Prop := ∃ f fd, MkF P w K mg base k x C ps Pd f fd
section
variable {P : Program} {w : World} {K : PySem.W.Frag} {mg : Str → Option Value} {base : Heap}
theorem fn_mkI {x qual : Str} {C : Addr} {st : Stmt} {N ps : List Str} {k : Nat} {Pd : DP} (F : Ci K mg x qual C st) (S : FnScope N ps (defScope st)) (hlen : ∀ ds O R Xr, Pd ds O R Xr → ds.length = ps.length)
    (b : ∀ (kV doc pm : Value) (an : Option Addr) (cdv ct : Value) (us : List Value), us.length = ps.length → bindArgs (PySem.W.fnOf "__init__" qual (defArgs st) (defBody st) (defScope st) .none kV doc pm an cdv ct) ⟨us, []⟩ = pure (ps.zip us))
    (body : ∀ (f : Addr) (cdv : Value) (A : Around) (outer : List Env) (s : Shared) (H : Hp) (E : XK), Room k (cxD P w K mg base N qual st f cdv A outer s H E).A → ∀ Z ds O R Xr, Pd ds O R Xr → TkD (cxD P w K mg base N qual st f cdv A outer s H E) Z Xr →
      SX (cxD P w K mg base N qual st f cdv A outer s H E) Z (defBody st) (slots0 N ds) O { nx := fun _ O' => R .non O', rt := R }) : MkOk P w K mg base (k + 1) x C ps Pd := by
  obtain ⟨f, fd, hm, M, F⟩ := F
  refine ⟨f, fd, hm, M, ?_, F.bindsN b⟩
  refine F.ok S (fun vs H Q E ⟨B, ds, O, R, Xr, h1, h2, h3, _⟩ => by rw [← h2.len]; exact hlen _ _ _ _ h3) fun cdv A outer s H vs Q E hr ⟨B, ds, O, R, Xr, hs, hv, hp, hq, hx⟩ => ⟨_, pss_ev, ?_⟩
  have tk : TkD (cxD P w K mg base N qual st f cdv A outer s H E) (zn B H O) Xr :=
    Takes.imp (takes_of (X := cxD P w K mg base N qual st f cdv A outer s H E) (E := E) rfl rfl rfl rfl) fun c d σ H' ⟨C, ww, v, dx, B', O', h1, h2, h3, h4, h5, h6⟩ => by
      subst h1 h2
      exact hx C ww v dx B' H' O' h3 h4 h5 h6
  have S0 : Sts K (zn B H O) B H (L2.start N vs) (slots0 N ds) O := ⟨hs.gr, fun i d e => by
    obtain ⟨v, h1, h2⟩ := hv.get (slots0_some e)
    exact ⟨v, start_some h1, h2⟩, hs.ow, hs.nd, hs.ma⟩
  refine EVSs.mono (body f cdv A outer s H E hr (zn B H O) ds O R Xr hp tk (L2.start N vs) B H S0) (fun σ' H' ⟨B', ρ', O', s', e, z⟩ => ?_) (fun v H' ⟨d, σ', B', ρ', O', s', r, e, z⟩ => ?_) (fun σ' H' ⟨B', ρ', O', s', e, z⟩ => z) (fun σ' H' ⟨B', ρ', O', s', e, z⟩ => z)
  · exact hq _ _ _ _ _ s'.bare .non z
  · exact hq _ _ _ _ _ s'.bare r z
/-- keywords behind the positional values, in the parameters' order, all written -/
theorem _root_.L2.FunD.kb0 {x qual : Str} {params : Arguments} {body : List Stmt} {scope : Scope} {kws : List (Str × V)} {f : Addr} {fd : FuncData} {ps ks : List Str} {n : Nat} (F : FunD K x qual params body scope [] kws f fd) (g : {α : Type} → List α → List α → List α)
    (hrel : ∀ {vs zs : List V} {us ws : List Value}, Vals vs us → Vals zs ws → Vals (g vs zs) (g us ws))
    (h : ∀ (kV doc pm : Value) (an : Option Addr) (cdv ct : Value) (us ws : List Value), us.length = n → ws.length = ks.length → bindArgs (PySem.W.fnOf x qual params body scope .none kV doc pm an cdv ct) ⟨us, ks.zip ws⟩ = pure (ps.zip (g us ws))) : KBn K fd ps n ks (fun us ws => g us ws) (fun vs zs => g vs zs) := by
  obtain ⟨oc, od, dV, kV, doc, pm, an, cdv, ct, osl, rfl, lk, hcd, hD, hK⟩ := F.ex
  rcases hD with ⟨_, rfl⟩ | ⟨e, _⟩
  · exact ⟨fun s us ws _ l1 l2 => .of_eq (h kV doc pm an cdv ct us ws l1 l2), fun a b => hrel a b⟩
  · exact absurd rfl e
end
section
variable {X : Cx} {Z : Zn} {ρ : Slots} {O : Own} {k k' : Nat} {st : Stmt} {kws : List (Str × V)} {ps : List Str} {Pd : DP} {x : Str} {p pos : Pos} {e : Expr} {es : List Expr} {R : D → Own → Prop} {Xr : Addr → D → Own → Prop} {C : Addr}
/-- C(e, ..) -/
theorem ex_mk (F : MkOk X.prog X.w X.K X.mg X.base k x C ps Pd) (hk : k ≤ k') (hr : Room (k' + 1) X.A) (tk : TkD X Z Xr)
    (h : EA X Z (e :: es) ρ O fun ds O1 => ∀ p, p ∉ Z.M → p ∉ O1.map (·.1) → Pd (.raw (.ref p) :: ds) ((p, .obj C []) :: O1) (fun d O2 => d = .non ∧ R (.raw (.ref p)) O2) Xr)
    (hg : Gl X x := by rfl) (hdb : (x == ("__debug__" : Str)) = false := by decide) (he : starEach (e :: es) X.env = (false, eval e X.env) :: starEach es X.env := by rfl)
    (hpl : (backTo pos (starEach es X.env)).any (·.1) = false := by rfl) : EX X Z (.Call (.Name x p) (e :: es) [] pos) ρ O R := by
  obtain ⟨f, fd, F⟩ := F
  exact ex_make F.M (F.ok.mono hk) hr F.hm F.b tk h hg hdb he hpl
/-- f(e, .., k = v, ..), the keywords in the parameters' order, all written -/
theorem ex_fnKs {n : Nat} {ks : List Str} {kw : List Keyword} (F : Ok X.prog X.w X.K X.mg X.base k x st [] kws ps Pd) (hk : k ≤ k') (hr : Room k' X.A)
    (hb : ∀ (kV doc pm : Value) (an : Option Addr) (cdv ct : Value) (us ws : List Value), us.length = n → ws.length = ks.length → bindArgs (PySem.W.fnOf x x (defArgs st) (defBody st) (defScope st) .none kV doc pm an cdv ct) ⟨us, ks.zip ws⟩ = pure (ps.zip (us ++ ws)))
    (tk : TkD X Z Xr) (h : EA X Z (e :: es) ρ O fun ds O1 => EK X Z kw ρ O1 fun zs O2 => ds.length = n ∧ zs.length = ks.length ∧ Pd (ds ++ zs) O2 R Xr) (hall : (backToKw pos (keywordEach kw X.env)).all (·.1.isSome) = true := by rfl) (hks : (backToKw pos (keywordEach kw X.env)).filterMap (·.1) = ks := by rfl) (hg : Gl X x := by rfl)
    (hdb : (x == ("__debug__" : Str)) = false := by decide) (he : starEach (e :: es) X.env = (false, eval e X.env) :: starEach es X.env := by rfl)
    (hpl : ((backTo pos (starEach (e :: es) X.env)).any (·.1) || (backToKw pos (keywordEach kw X.env)).any (·.1.isNone)) = false := by rfl) : EX X Z (.Call (.Name x p) (e :: es) kw pos) ρ O R := by
  obtain ⟨f, fd, hm, F, ok⟩ := F
  exact ex_callK (ok.mono hk) hr hm F.kp (F.kb0 (fun a b => a ++ b) (fun a b => a.append b) hb) (fun B ds vs es ws r1 r2 => r1.append r2) tk h hall hks hg hdb he hpl
/-- f(k = v, ..), the keywords in any order: g puts their values in the parameters' order -/
theorem ex_fnK0 {ks : List Str} {kw : List Keyword} (F : Ok X.prog X.w X.K X.mg X.base k x st [] kws ps Pd) (hk : k ≤ k') (hr : Room k' X.A) (g : {α : Type} → List α → List α)
    (hrel : ∀ {zs : List V} {ws : List Value}, Vals zs ws → Vals (g zs) (g ws)) (hgD : ∀ B zs ws, Reps X.K B zs ws → Reps X.K B (g zs) (g ws))
    (hb : ∀ (kV doc pm : Value) (an : Option Addr) (cdv ct : Value) (ws : List Value), ws.length = ks.length → bindArgs (PySem.W.fnOf x x (defArgs st) (defBody st) (defScope st) .none kV doc pm an cdv ct) ⟨[], ks.zip ws⟩ = pure (ps.zip (g ws)))
    (tk : TkD X Z Xr) (h : EK X Z kw ρ O fun zs O2 => zs.length = ks.length ∧ Pd (g zs) O2 R Xr) (hall : (backToKw pos (keywordEach kw X.env)).all (·.1.isSome) = true := by rfl) (hks : (backToKw pos (keywordEach kw X.env)).filterMap (·.1) = ks := by rfl) (hg : Gl X x := by rfl)
    (hdb : (x == ("__debug__" : Str)) = false := by decide) (hpl : ((backTo pos (starEach [] X.env)).any (·.1) || (backToKw pos (keywordEach kw X.env)).any (·.1.isNone)) = false := by rfl) : EX X Z (.Call (.Name x p) [] kw pos) ρ O R := fun σ B H s pins s0 I => by
  obtain ⟨f, fd, hm, F, ok⟩ := F
  have hbk : KBn X.K fd ps 0 ks (fun _ ws => g ws) (fun _ zs => g zs) := F.kb0 (fun _ b => g b) (fun _ b => hrel b) fun kV doc pm an cdv ct us ws l1 l2 => by
    have : us = [] := List.length_eq_zero_iff.mp l1
    subst this
    exact hb kV doc pm an cdv ct ws l2
  refine wpAny_Call_Name_kw (ld_glob I hg hm ?_ hdb)
  refine PySem.W.callWith_KW0 (h₀ := X.base) I.ok.mod.kin F.kp hall (thn (h σ B H s pos pins s0 I) fun ws s2 ⟨zs, H2, I2, rz, ds2, B2, O2, S2, rd2, e2, l2, q2⟩ => ⟨I2.kIn, ?_⟩) hpl
  rw [hks]
  have r2 := hbk.rel (vs := []) (us := []) .nil rz
  have rr : Reps X.K B2 (g ds2) (g zs) := hgD B2 _ _ rd2
  refine wpAny_call (codeAny_mono ((ok.mono hk).run X.A X.stack s2 H2 ⟨[], ks.zip ws⟩ (g ws) (g zs) _ _ hr I2.env0 (hbk.to s2 [] ws I2.kIn rfl (by rw [← rz.length, ← rd2.len]; exact l2)) r2 (sp_call S2 e2 rr q2)) fun r s' hq => ?_)
  cases r with
  | error e => exact passAt tk σ pins H2 s2 e s' I2 hq
  | ok fl =>
    cases fl with
    | ret u => exact I2.after hq
    | next => exact False.elim hq
    | brk => exact False.elim hq
    | cont => exact False.elim hq
/-- f(e, ..), the keyword-only parameters by their defaults -/
theorem ex_fnD0 {n : Nat} {dv2 : List V} {dD : List D} (F : Ok X.prog X.w X.K X.mg X.base k x st [] kws ps Pd) (hk : k ≤ k') (hr : Room k' X.A) (hkw : kws ≠ []) (hn : n + kws.length = ps.length) (he2 : kws.map (·.2) = dv2) (hdD : ∀ B, Reps X.K B dD dv2)
    (hb : ∀ (D : Addr) (doc pm : Value) (an : Option Addr) (cdv ct : Value) (us ks : List Value), us.length = n → ks.length = kws.length →
      KwChain D ((kws.map (·.1)).zip ks) (bindArgs (PySem.W.fnOf x x (defArgs st) (defBody st) (defScope st) .none (.ref D) doc pm an cdv ct) ⟨us, []⟩) (ps.zip (us ++ ks)))
    (tk : TkD X Z Xr) (h : EA X Z (e :: es) ρ O fun ds O1 => Pd (ds ++ dD) O1 R Xr) (hg : Gl X x := by rfl) (hdb : (x == ("__debug__" : Str)) = false := by decide) (he : starEach (e :: es) X.env = (false, eval e X.env) :: starEach es X.env := by rfl)
    (hpl : (backTo pos (starEach es X.env)).any (·.1) = false := by rfl) : EX X Z (.Call (.Name x p) (e :: es) [] pos) ρ O R := by
  obtain ⟨f, fd, hm, F, ok⟩ := F
  obtain ⟨dvals, v1, v2⟩ := F.binds0 n hkw hn hb
  rw [he2] at v1
  exact ex_call (ok.mono hk) hr hm F.kp v2 v1 hdD tk h hg hdb he hpl
end
end PD

set_option Elab.async false
set_option linter.all false
set_option autoImplicit false
set_option maxRecDepth 100000
set_option maxHeartbeats 2000000
/-! PD, part U: what is owned in the middle; powers; the law's own heap of numbers. -/
namespace PD
open PySem PySem.Spec L2
open PyProof.Rows hiding St
section
variable {X : Cx} {Z : Zn} {ρ : Slots} {O : Own} {E : En} {a b : Expr} {pos : Pos} {R : D → Own → Prop}
theorem sx_nd {st : List Stmt} (h : (O.map (·.1)).Nodup → SX X Z st ρ O E) : SX X Z st ρ O E := fun σ B H s => h s.nd σ B H s
theorem ex_nd {e : Expr} (h : (O.map (·.1)).Nodup → EX X Z e ρ O R) : EX X Z e ρ O R := fun σ B H s => h s.nd σ B H s
theorem ex_pow (h : EI2 X Z a b ρ O fun i j O2 => CPow i j ∧ R (.int (i ^ j.toNat)) O2) : EX X Z (.BinOp a .Pow b pos) ρ O R := ex_bin op_pow (ei2C h)
theorem s1_dropO {st : Stmt} (h : S1 X Z st ρ O { E with nx := fun ρ' O' => ∃ O2 : Own, O2.Sublist O' ∧ E.nx ρ' O2 }) : S1 X Z st ρ O E := fun σ B H s =>
  EVS.mono (h σ B H s) (fun σ' H' ⟨B', ρ', O', s', e, O2, sub, q⟩ => ⟨B', ρ', O2, s'.drop sub, e, q⟩) (fun _ _ q => q) (fun _ _ q => q) (fun _ _ q => q)
end
/-! what is owned, behind some others -/
def offO (p : Addr) (A : Own) : Prop := p ∉ A.map (·.1)
theorem look_mid {p : Addr} {c : OC} {O : Own} : ∀ {A : Own}, offO p A → (A ++ (p, c) :: O : Own).lookup p = some c
  | [], _ => look_hd
  | (q, d) :: A, h => by
    have ne : p ≠ q := fun e => h (by rw [e]; exact List.mem_map.mpr ⟨_, List.mem_cons_self, rfl⟩)
    rw [List.cons_append, List.lookup_cons, beq_false_of_ne ne]
    exact look_mid fun hm => h (by rw [List.map_cons]; exact List.mem_cons_of_mem _ hm)
theorem setO_mid {p : Addr} {c c' : OC} {O : Own} : ∀ {A : Own}, offO p A → offO p O → setO (A ++ (p, c) :: O) p c' = A ++ (p, c') :: O
  | [], _, h => setO_hd h
  | (q, d) :: A, h, h2 => by
    have ne : ¬ q = p := fun e => h (by rw [← e]; exact List.mem_map.mpr ⟨_, List.mem_cons_self, rfl⟩)
    have := setO_mid (c := c) (c' := c') (A := A) (fun hm => h (by rw [List.map_cons]; exact List.mem_cons_of_mem _ hm)) h2
    unfold setO at this ⊢
    rw [List.cons_append, List.map_cons, this, if_neg ne]
    rfl
/-- the law's heap: a list of the list of what is left, and what is stirred -/
def hpO (p r : Addr) (ns : List Int) (st : Int) (O : Own) : Own := (p, .lst [.raw (.ref r), .int st]) :: (r, .lst (ns.map .int)) :: O
structure HpA (p r : Addr) (A O : Own) : Prop where
  a1 : offO p A
  a2 : offO r A
  o1 : offO p O
  o2 : offO r O
  ne : p ≠ r
theorem hpA_of {p r : Addr} {ns : List Int} {st : Int} {A O : Own} (h : ((A ++ hpO p r ns st O).map (·.1)).Nodup) : HpA p r A O := by
  unfold hpO at h
  rw [List.map_append, List.map_cons, List.map_cons, List.nodup_append] at h
  obtain ⟨_, h2, h3⟩ := h
  rw [List.nodup_cons, List.nodup_cons] at h2
  obtain ⟨h4, h5, _⟩ := h2
  refine ⟨fun z => h3 _ z _ List.mem_cons_self rfl, fun z => h3 _ z _ (List.mem_cons_of_mem _ List.mem_cons_self) rfl, fun z => h4 (List.mem_cons_of_mem _ z), h5, fun e => h4 ?_⟩
  rw [e]
  exact List.mem_cons_self
section
variable {p r : Addr} {ns ns' : List Int} {st st' : Int} {A O : Own}
theorem HpA.look (h : HpA p r A O) : (A ++ hpO p r ns st O).lookup p = some (.lst [.raw (.ref r), .int st]) := look_mid h.a1
theorem HpA.split : A ++ hpO p r ns st O = (A ++ [(p, .lst [.raw (.ref r), .int st])]) ++ (r, .lst (ns.map .int)) :: O := by
  unfold hpO
  rw [List.append_assoc]
  rfl
theorem HpA.offr (h : HpA p r A O) : offO r (A ++ [(p, OC.lst [.raw (.ref r), .int st])]) := fun z => by
  rw [List.map_append] at z
  rcases List.mem_append.mp z with z | z
  · exact h.a2 z
  · have : r = p := by simpa using z
    exact h.ne this.symm
theorem HpA.lookr (h : HpA p r A O) : (A ++ hpO p r ns st O).lookup r = some (.lst (ns.map .int)) := by
  rw [HpA.split]
  exact look_mid h.offr
theorem HpA.setr (h : HpA p r A O) : setO (A ++ hpO p r ns st O) r (.lst (ns'.map .int)) = A ++ hpO p r ns' st O := by
  rw [HpA.split, setO_mid h.offr h.o2, ← HpA.split]
theorem HpA.offp (h : HpA p r A O) : offO p ((r, OC.lst (ns.map .int)) :: O) := fun z => by
  rw [List.map_cons] at z
  rcases List.mem_cons.mp z with z | z
  · exact h.ne z
  · exact h.o1 z
theorem HpA.setp (h : HpA p r A O) : setO (A ++ hpO p r ns st O) p (.lst [.raw (.ref r), .int st']) = A ++ hpO p r ns st' O := setO_mid h.a1 h.offp
end
/-! data in lists of one's own -/
def PyAt (O : Own) (d : D) (p : PyData) : Prop := d.py = some p ∨ ∃ a ds ps, d = .raw (.ref a) ∧ O.lookup a = some (.lst ds) ∧ D.pys ds = some ps ∧ p = .list ps
theorem Sts.pyAt {K : PySem.W.Frag} {Z : Zn} {B H : Hp} {σ : L2.St} {ρ : Slots} {O : Own} {d : D} {p : PyData} {v : V} (s : Sts K Z B H σ ρ O) (h : PyAt O d p) (r : Rep K B d v) : Dp K H v p := by
  rcases h with e | ⟨a, ds, ps, e, hl, hp, e2⟩
  · exact dp_mono s.gr.bh _ _ (r.dp _ _ _ e)
  · subst e e2
    cases r
    obtain ⟨xs, h1, h2⟩ := s.own_at hl
    exact .lst (SqL.of h1) (dps_mono s.gr.bh _ _ (Reps.dps _ _ _ h2 hp))
section
variable {X : Cx} {Z : Zn} {ρ : Slots} {O : Own} {d1 d2 : D} {p1 p2 : PyData}
theorem bt_eqO {R : Bool → Own → Prop} (e1 : PyAt O d1 p1) (e2 : PyAt O d2 p2) (s1 : SeqAt.shaped p1 = true) (s2 : SeqAt.shaped p2 = true) (h : R (PyData.eqv p1 p2) O) : BT X Z (rEqD X.K) d1 d2 ρ O R :=
  fun σ B0 B H v1 v2 s e r1 r2 => ⟨p1, p2, s.pyAt e1 r1, s.pyAt e2 r2, s1, s2, _, rfl, B, O, s, e, h⟩
theorem bt_neO {R : Bool → Own → Prop} (e1 : PyAt O d1 p1) (e2 : PyAt O d2 p2) (s1 : SeqAt.shaped p1 = true) (s2 : SeqAt.shaped p2 = true) (h : R (!PyData.eqv p1 p2) O) : BT X Z (rNeD X.K) d1 d2 ρ O R :=
  fun σ B0 B H v1 v2 s e r1 r2 => ⟨p1, p2, s.pyAt e1 r1, s.pyAt e2 r2, s1, s2, _, rfl, B, O, s, e, h⟩
theorem bd_eqO {R : D → Own → Prop} (e1 : PyAt O d1 p1) (e2 : PyAt O d2 p2) (s1 : SeqAt.shaped p1 = true) (s2 : SeqAt.shaped p2 = true) (h : R (.bl (PyData.eqv p1 p2)) O) : BD X Z (rEqD X.K) d1 d2 ρ O R :=
  fun σ B0 B H v1 v2 s e r1 r2 => ⟨p1, p2, s.pyAt e1 r1, s.pyAt e2 r2, s1, s2, _, B, O, s, .bl _, e, h⟩
end
end PD

set_option Elab.async false
set_option linter.all false
set_option autoImplicit false
set_option maxRecDepth 100000
set_option maxHeartbeats 2000000
/-! PD, part V: insert, index, clear. -/
namespace PD
open PySem PySem.Spec L2
open PyProof.Rows hiding St
section
variable {X : Cx} {Z : Zn} {ρ : Slots} {O : Own} {R : D → Own → Prop}
/-- xs.insert(i, x), the list owned -/
theorem ex_insert {o e1 e2 : Expr} {apos cpos : Pos}
    (h : EX X Z o ρ O fun d O1 => ∃ p ds0, d = .raw (.ref p) ∧ O1.lookup p = some (.lst ds0) ∧ EX X Z e1 ρ O1 fun x O2 => EX X Z e2 ρ O2 fun y O3 => ∃ (i : Int) (ds : List D), x = .int i ∧ O3.lookup p = some (.lst ds) ∧ ds.length ≤ 1000000 ∧ 0 ≤ i ∧ i < 2 ^ 63 ∧ R .non (setO O3 p (.lst (ds.take i.toNat ++ [y] ++ ds.drop i.toNat))))
    (hbase : attributeBase o "insert" X.env (eval o X.env) = eval o X.env := by rfl)
    (hfew : ((backTo cpos (starEach [e1, e2] X.env)).all (fun x => !x.1) && (backToKw cpos (keywordEach [] X.env)).all (fun x => x.1.isSome)
      && decide (([e1, e2] : List Expr).length + ([] : List Keyword).length + (if ([] : List Keyword).isEmpty then 0 else 1) < 30)) = true := by rfl)
    (hline : (apos.endLine == cpos.line) = true := by rfl) (hs : starEach [e1, e2] X.env = (false, eval e1 X.env) :: starEach [e2] X.env := by rfl) (hs2 : starEach [e2] X.env = (false, eval e2 X.env) :: starEach [] X.env := by rfl) (hplain : (backTo cpos (starEach [e2] X.env)).any (·.1) = false := by rfl) :
    EX X Z (.Call (.Attribute o "insert" apos) [e1, e2] [] cpos) ρ O R := by
  refine ex_bm PySem.F.plainAttrs_list PySem.F.slot_list_insert PySem.F.type_list_insert mt_insert (h.mono fun d O1 ⟨p, ds0, x, hp, q⟩ => ?_) hbase hfew hline hs hplain
  subst x
  refine ⟨ty_L (.ow hp), ea_cons (q.mono fun x O2 q => ea_cons (q.mono fun y O3 ⟨i, ds, ex, hl, hz, h0, h1, q3⟩ => ea_nil ?_) hs2) hs⟩
  intro σ B0 B H v vs s e r rs
  subst ex
  cases r
  cases rs with
  | cons r1 r2 => cases r2 with
    | cons r2 r3 =>
      cases r1
      cases r3
      rename_i v2
      obtain ⟨xs, h3, h4⟩ := s.own_at hl
      refine ⟨p, xs, i, v2, rfl, rfl, h3, Nat.lt_of_lt_of_le (Nat.lt_succ_of_le (by rw [← h4.len]; exact hz)) (by rw [sizeLine_eq]; decide), h0, h1, ?_⟩
      exact ⟨_, B, _, s.put (c := .lst (ds.take i.toNat ++ [y] ++ ds.drop i.toNat)) (put_one (c' := .lst []) hl) ⟨_, rfl, ((h4.take _).append (.cons r2 .nil)).append (h4.drop _)⟩, .non, e, q3⟩
/-- xs.index(i), a list of numbers -/
theorem ex_indexI {o e1 : Expr} {apos cpos : Pos}
    (h : EX X Z o ρ O fun d O1 => ∃ ns : List Int, LsAt O1 d (ns.map .int) ∧ EX X Z e1 ρ O1 fun x O2 => ∃ (i : Int) (j : Nat), x = .int i ∧ LsAt O2 d (ns.map .int) ∧ ns[j]? = some i ∧ (∀ m, m < j → ns[m]? ≠ some i) ∧ R (.int (j : Nat)) O2)
    (hbase : attributeBase o "index" X.env (eval o X.env) = eval o X.env := by rfl)
    (hfew : ((backTo cpos (starEach [e1] X.env)).all (fun x => !x.1) && (backToKw cpos (keywordEach [] X.env)).all (fun x => x.1.isSome)
      && decide (([e1] : List Expr).length + ([] : List Keyword).length + (if ([] : List Keyword).isEmpty then 0 else 1) < 30)) = true := by rfl)
    (hline : (apos.endLine == cpos.line) = true := by rfl) (hs : starEach [e1] X.env = (false, eval e1 X.env) :: starEach [] X.env := by rfl) (hplain : (backTo cpos (starEach [] X.env)).any (·.1) = false := by rfl) :
    EX X Z (.Call (.Attribute o "index" apos) [e1] [] cpos) ρ O R := by
  refine ex_bm PySem.F.plainAttrs_list PySem.F.slot_list_index PySem.F.type_list_index mt_index (h.mono fun d O1 ⟨ns, hd, q⟩ => ?_) hbase hfew hline hs hplain
  refine ⟨ty_L hd, ea_cons (q.mono fun x O2 ⟨i, j, ex, hd2, hj, hm, q⟩ => ea_nil ?_) hs⟩
  intro σ B0 B H v vs s e r rs
  subst ex
  cases rs with
  | cons r1 r2 =>
    cases r1
    cases r2
    obtain ⟨a, xs, ea, h1, h2⟩ := s.ls hd2 r
    subst ea
    have ex := Reps.ints_eq h2
    subst ex
    refine ⟨a, ns.map V.int, .int i, j, .int i, rfl, rfl, SqL.of h1, rfl, flat_ints ns, by rw [List.getElem?_map, hj]; rfl, ?_, fun m z' hmj hz => ?_, .int (j : Nat), B, O2, s, .int _, e, q⟩
    · show (i == i) = true
      simp
    · rw [List.getElem?_map] at hz
      obtain ⟨z, hz1, rfl⟩ := Option.map_eq_some_iff.mp hz
      show (z == i) = false
      have : z ≠ i := fun e => hm m hmj (by rw [hz1, e])
      simpa using this
/-- d.clear(), the dict owned -/
theorem ex_clear {o : Expr} {apos cpos : Pos} (h : EX X Z o ρ O fun d O1 => ∃ p kvs, d = .raw (.ref p) ∧ O1.lookup p = some (.dct kvs) ∧ R .non (setO O1 p (.dct [])))
    (hbase : attributeBase o "clear" X.env (eval o X.env) = eval o X.env := by rfl) (hline : (apos.endLine == cpos.line) = true := by rfl) : EX X Z (.Call (.Attribute o "clear" apos) [] [] cpos) ρ O R := by
  refine ex_bm0 PySem.F.plainAttrs_dict PySem.F.slot_dict_clear PySem.F.type_dict_clear mtd_clear (h.mono fun d O1 ⟨p, kvs, ed, hp, q⟩ => ?_) hbase hline
  subst ed
  intro σ B0 B H v s e r
  cases r
  obtain ⟨ys, h1, h2, h3⟩ := s.own_at hp
  refine ⟨.inr (.inr (.inl ⟨rfl, .inl ⟨_, h1⟩⟩)), p, ys, rfl, rfl, h1, .non, B, _, s.put (c := .dct []) (put_one (c' := .lst []) hp) ⟨[], rfl, rfl, .nil⟩, .non, e, q⟩
end
end PD

set_option Elab.async false
set_option linter.all false
set_option autoImplicit false
set_option maxRecDepth 100000
set_option maxHeartbeats 4000000
/-! PD, part W: a tuple times an int; comprehensions whose elements change what is owned. -/
namespace PD
open PySem PySem.Spec L2
open PyProof.Rows hiding St
theorem tup_mul_one (l : Addr) (items : Array Value) (n : Nat) (dd : Option Addr) (sl : Array (Option Value)) (x : Int) (u : Tok) (hx : x = 1) (c0 : (decide (x < -(2 ^ 63)) || decide (x ≥ 2 ^ 63)) = false) (c1 : (items.isEmpty || x == 1) = true) :
    Meets (Builtin.«tuple.__mul__» ⟨[.ref l, .int x u], []⟩) (fun _ R s => s.heap.get? l = some { cls := .type "tuple", dict := dd, data := .seq items n, slots := sl } ∧
      R (.ok (.ret (Value.ref l))) s) :=
  .of_wp fun prog w A R s h => by
    obtain ⟨hp, g, d, tk, os⟩ := s
    obtain ⟨hl, h⟩ := h
    have f1 := AutoSeq1.idx_int
    wp_walk using wpAny_loadPart' hl
    repeat (first
      | (refine wpAny_ite_false (decide_eq_false (by rw [c0]; exact Bool.false_ne_true)) ?_; wp_walk using wpAny_loadPart' hl)
      | (refine wpAny_ite_true (decide_eq_true c1) ?_; wp_walk using wpAny_loadPart' hl))
    exact ⟨_, rfl, h⟩
/-- t * k, k not 0 -/
def rRepU (K : PySem.W.Frag) : R2 := fun x y H Q => (∃ l xs, x = .ref l ∧ y = .int 1 ∧ SqT K H l xs ∧ xs ≠ [] ∧ Q (.ref l) H) ∨ rRepT K x y H Q
theorem op_repU {X : Cx} : OpR X (binaryOp .Mult) (rRepU X.K) := by
  intro pins s σ H x y v u Q I rx ry h
  rcases h with ⟨l, xs, rfl, rfl, hT, hne, q⟩ | h
  · cases rx
    obtain ⟨t, rfl⟩ := ry
    obtain ⟨its, r, ⟨⟨cls, dd, data, sl⟩, ho, hc, n, hd⟩, hs⟩ := I.tuple hT
    simp only at hc hd
    subst hc hd
    have c1 : (its.toArray.isEmpty || (1 : Int) == 1) = true := by
      rw [show ((1 : Int) == 1) = true from rfl, Bool.or_true]
    refine wpAny_binaryOp_repeat_ref (T := "tuple") (U := "int") (by decide) ⟨_, ho, rfl⟩ (fun s' => typeIs_int s' 1 t) noFill_tuple_mul F.fills_int_mul F.slot_int_rmul repeat_tuple F.slot_int_index.lookup
      (call_meets F.slot_int_rmul (typeIs_int s 1 t) F.entry_int_rmul (F.args_int_rmul_2 _ _) (int_rmul_tuple 1 t l its.toArray n dd sl)
        ⟨ho, rfl, ⟨_, ho, rfl⟩, call_meets F.slot_tuple_mul ⟨_, ho, rfl⟩ F.entry_tuple_mul (F.args_tuple_mul_2 _ _) (tup_mul_one l its.toArray n dd sl 1 t rfl rfl c1) ⟨ho, ?_⟩⟩)
    exact ⟨.ref l, H, I, rfl, q⟩
  · exact op_repT pins s σ H x y v u Q I rx ry h
section
variable {X : Cx} {Z : Zn} {ρ : Slots} {O : Own}
theorem bd_repT {ds : List D} {k : Int} {R : D → Own → Prop} (hn : ds ≠ []) (h1 : 1 ≤ k) (h2 : k ≤ 1000) (hl : ds.length ≤ 1000) (h : R (.tup (List.replicate k.toNat ds).flatten) O) : BD X Z (rRepU X.K) (.tup ds) (.int k) ρ O R := fun σ B0 B H v1 v2 s e r1 r2 => by
  obtain ⟨a, xs, e1, g1, q1⟩ := s.tp r1
  subst e1
  cases r2
  have hne : xs ≠ [] := fun z => hn (by
    have := q1.len
    rw [z] at this
    exact List.length_eq_zero_iff.mp this)
  by_cases z : k = 1
  · subst z
    refine .inl ⟨a, xs, rfl, rfl, g1, hne, _, B, O, s, r1, e, ?_⟩
    have : (List.replicate (1 : Int).toNat ds).flatten = ds := by show (List.replicate 1 ds).flatten = ds; simp
    rw [← this]
    exact h
  · refine .inr ⟨a, k, xs, rfl, rfl, g1, hne, by omega, h2, by rw [← q1.len]; exact hl, fun p hp => ?_⟩
    obtain ⟨s2, e2⟩ := s.lay (o := .tup (List.replicate k.toNat xs).flatten) hp
    exact ⟨_, _, O, s2, .tup (.inl (.inl upd_same)) ((reps_rep q1 _).mono e2 _ _), e.trans e2, h⟩
/-- what a comprehension of one clause asks whose elements may change what is owned -/
def LcG (X : Cx) (Z : Zn) (scope : Scope) (own : List (Str × Nat)) (tg iter elt : Expr) (ρ : Slots) (O : Own) (R : D → Own → Prop) : Prop :=
  IX X Z tg iter ρ O fun ds Gd O1 => ∀ L, L ∉ Z.M → L ∉ O1.map (·.1) → ∃ P : Nat → Own → Prop, P 0 ((L, .lst []) :: O1) ∧ (∀ i O', P i O' → Gd O') ∧
    (∀ (s : Shared) (H : Hp) (C : Addr) (cl : List (Str × Addr)) (fp : List Addr), ∀ i d O', ds[i]? = some d → P i O' → GX (blkX X scope s H C cl fp) Z tg d (wipeD ρ (own.map (·.2))) O' fun ρ2 O2 => Fewer (wipeD ρ (own.map (·.2))) ρ2 ∧
      EX (blkX X scope s H C cl fp) Z elt ρ2 O2 fun e O3 => ∃ acc, O3.lookup L = some (.lst acc) ∧ acc.length < 1000000 ∧ P (i + 1) (setO O3 L (.lst (acc ++ [e])))) ∧ (∀ O', P ds.length O' → R (.raw (.ref L)) O')
theorem lcG_core {scope : Scope} {own : List (Str × Nat)} {tg iter elt : Expr} {R : D → Own → Prop} (h : LcG X Z scope own tg iter elt ρ O R) :
    IX X Z tg iter ρ O fun ds Gd O1 => ∀ D, D ∉ Z.M → D ∉ O1.map (·.1) → ∃ P : Nat → Own → Prop, P 0 ((D, .lst []) :: O1) ∧ (∀ i O', P i O' → Gd O') ∧
      (∀ (s : Shared) (H : Hp) (C : Addr) (cl : List (Str × Addr)) (fp : List Addr), ∀ i d O', ds[i]? = some d → P i O' → GX (blkX X scope s H C cl fp) Z tg d (wipeD ρ (own.map (·.2))) O' fun ρ2 O2 => TS (blkX X scope s H C cl fp) Z [] ρ2 O2 fun b O3 =>
        (b = true → AX (blkX X scope s H C cl fp) Z (w1 elt (blkX X scope s H C cl fp) D) (wipeD ρ (own.map (·.2))) ρ2 O3 (P (i + 1))) ∧ (b = false → Fewer (wipeD ρ (own.map (·.2))) ρ2 ∧ P (i + 1) O3)) ∧ (∀ O', P ds.length O' → R (.raw (.ref D)) O') :=
  IX.mono h fun ds Gd O1 q L hm hd => by
    obtain ⟨P, p0, hg, turn, hend⟩ := q L hm hd
    exact ⟨P, p0, hg, fun s H C cl fp i d O' hi hp => (turn s H C cl fp i d O' hi hp).mono fun ρ2 O2 ⟨hf, he⟩ => ts_nil ⟨fun _ => ax_elt rfl hf he, nofun⟩, hend⟩
theorem ex_lcG {elt tg iter : Expr} {scope : Scope} {pos : Pos} {own : List (Str × Nat)} {R : D → Own → Prop} (hc : X.calm = true) (hN : X.N.Nodup) (ok : BlkOk X.N X.env.scope scope own)
    (h : LcG X Z scope own tg iter elt ρ O R) (hs : ∀ x, foldedSetIterable iter X.env x = pure x := by intro _; rfl) : EX X Z (.ListComp elt [⟨tg, iter, [], 0⟩] scope pos) ρ O R :=
  ex_lcP (w := w1 elt) hc hN ok lr1 (fun Y D => wm_last) (lcG_core h) hs
theorem s1_setLcG {E : En} {i : Nat} {y : Str} {py : Pos} {elt tg iter : Expr} {scope : Scope} {pos spos : Pos} {own : List (Str × Nat)} (hc : X.calm = true) (hN : X.N.Nodup) (ok : BlkOk X.N X.env.scope scope own)
    (h : LcG X Z scope own tg iter elt ρ O fun d O' => E.nx (ρ.set i (some d)) O')
    (hsw : swapsWith (.ListComp elt [⟨tg, iter, [], 0⟩] scope pos) (some (.Name y py)) spos.line X.env = pure true := by rfl)
    (hy : X.N[i]? = some y := by rfl) (hyl : X.env.scope.names.lookup y = some .local := by rfl) (hs : ∀ x, foldedSetIterable iter X.env x = pure x := by intro _; rfl) : S1 X Z (.Assign [.Name y py] (.ListComp elt [⟨tg, iter, [], 0⟩] scope pos) spos) ρ O E :=
  s1_setLcP (w := w1 elt) hc hN ok lr1 (fun Y D => wm_last) hsw (lcG_core h) hy hyl hs
end
end PD

set_option Elab.async false
set_option linter.all false
set_option autoImplicit false
set_option maxRecDepth 100000
set_option maxHeartbeats 200000
/-! PD, part Y: repr of ints and of tuples of them; dicts compared; isinstance of a dict of one's own. -/
namespace PD
open PySem PySem.Spec L2
open PyProof.Rows hiding St
/-- what repr tells of a tuple of numbers -/
def numsTxt (l : List Nat) : Str := tupleText (l.map fun n : Nat => (toString ((n : Nat) : Int) : Str))
theorem nums_all {prog : Program} {w : World} : ∀ {l : List Nat} {its : List Value}, Vals (l.map fun n : Nat => V.int n) its → (∀ n ∈ l, n < 8) → ReprAll prog w its (l.map fun n : Nat => (toString ((n : Nat) : Int) : Str))
  | [], _, r, _ => by cases r; exact .nil
  | n :: l, _, r, h => by
    cases r with
    | cons r1 r2 =>
      obtain ⟨t, rfl⟩ := r1
      have hn := h n List.mem_cons_self
      refine .cons (ReprIs.int t ?_) (nums_all r2 fun z hz => h z (List.mem_cons_of_mem _ hz))
      have : n = 0 ∨ n = 1 ∨ n = 2 ∨ n = 3 ∨ n = 4 ∨ n = 5 ∨ n = 6 ∨ n = 7 := by omega
      rcases this with e | e | e | e | e | e | e | e <;> subst e <;> decide +kernel
theorem nums_len : ∀ l : List Nat, (∀ n ∈ l, n < 8) → piled (l.map fun n : Nat => (toString ((n : Nat) : Int) : Str)) ≤ 3 * l.length
  | [], _ => Nat.le_refl _
  | n :: l, h => by
    have hn := h n List.mem_cons_self
    have ih := nums_len l fun z hz => h z (List.mem_cons_of_mem _ hz)
    rw [List.map_cons, piled_cons, List.length_cons]
    have h1 : ((toString ((n : Nat) : Int) : String) : Str).length = 1 := by
      have : n = 0 ∨ n = 1 ∨ n = 2 ∨ n = 3 ∨ n = 4 ∨ n = 5 ∨ n = 6 ∨ n = 7 := by omega
      rcases this with e | e | e | e | e | e | e | e <;> subst e <;> decide +kernel
    omega
section
variable {X : Cx}
def rReprN (K : PySem.W.Frag) : List V → Hp → VK → Prop := fun xs H Q => ∃ (a : Addr) (l : List Nat), xs = [.ref a] ∧ SqT K H a (l.map fun n : Nat => V.int n) ∧ (∀ n ∈ l, n < 8) ∧ l.length ≤ 1000 ∧ Q (.str (numsTxt l)) H
theorem cr_reprN (hg : X.A.guards = some []) (hu : X.A.units + 1 < cLine) : CallR X (.builtin "repr") (rReprN X.K) := by
  intro pins s σ H xs us Q I r h
  obtain ⟨a, l, rfl, ht, hl, hz, q⟩ := h
  obtain ⟨its, rv, ⟨o, ho, hcl, n, hd⟩, _⟩ := I.tuple ht
  rw [Vals.ref1 r]
  have hp := nums_len l hl
  have htx := fmt_text (l.map fun n : Nat => (toString ((n : Nat) : Int) : Str))
  have hT : ReprAll X.prog X.w its.toArray.toList (l.map fun n : Nat => (toString ((n : Nat) : Int) : Str)) := nums_all rv hl
  have hsz : (tupleText (l.map fun n : Nat => (toString ((n : Nat) : Int) : Str))).length ≤ sizeLine := by
    rw [sizeLine_eq]
    omega
  refine call_repr_slot hu ⟨o, ho, hcl⟩ F.slot_tuple_repr ?_
  refine call_tuple_repr (ts := l.map fun n : Nat => (toString ((n : Nat) : Int) : Str)) (g := []) ⟨o, ho, hcl⟩ hg (fun c h => nomatch h) ho hd hT (fun u tk => ?_) hsz
  exact ⟨numsTxt l, u, rfl, .str (numsTxt l), H, I.tok _, ⟨u, rfl⟩, q⟩
end
section
variable {X : Cx} {Z : Zn} {ρ : Slots} {O : Own} {R : D → Own → Prop} {e : Expr} {p pos : Pos}
theorem ex_reprN (hg0 : X.A.guards = some []) (hu : X.A.units + 1 < cLine) (hm : Bare X.mg) (h : EX X Z e ρ O fun d O1 => ∃ l : List Nat, d = .tup (l.map fun n : Nat => .int n) ∧ (∀ n ∈ l, n < 8) ∧ l.length ≤ 1000 ∧ R (.str (numsTxt l)) O1) (hg : Gl X "repr" := by rfl) (he : starEach [e] X.env = (false, eval e X.env) :: starEach [] X.env := by rfl) : EX X Z (.Call (.Name "repr" p) [e] [] pos) ρ O R := by
  refine ex_callB (cr_reprN hg0 hu) (hm _ (by decide)) (by kernel_rfl) (ea_cons (h.mono fun d O1 ⟨l, h1, h2, h3, h4⟩ => ea_nil ?_) he) hg (by decide) (by decide) he
  subst h1
  intro σ B0 B H vs s ee r
  cases r with
  | cons r1 r2 =>
    cases r2
    obtain ⟨a, xs, e1, g1, q1⟩ := s.tp r1
    subst e1
    have hx : xs = l.map fun n : Nat => V.int n := by
      have e2 : (l.map fun n : Nat => D.int n) = (l.map fun n : Nat => (n : Int)).map D.int := by rw [List.map_map]; rfl
      rw [e2] at q1
      rw [Reps.ints_eq q1, List.map_map]
      rfl
    subst hx
    exact ⟨a, l, rfl, g1, h2, h3, _, B, O1, s, .str _, ee, h4⟩
theorem ex_reprI (hm : Bare X.mg) (h : EX X Z e ρ O fun d O1 => ∃ n : Nat, d = .int n ∧ n < 1000 ∧ R (.str (toString (n : Int))) O1) (hg : Gl X "repr" := by rfl) (he : starEach [e] X.env = (false, eval e X.env) :: starEach [] X.env := by rfl) : EX X Z (.Call (.Name "repr" p) [e] [] pos) ρ O R := by
  refine ex_callB SkE.call_repr_int (hm _ (by decide)) (by kernel_rfl) (ea_cons (h.mono fun d O1 ⟨n, h1, h2, h4⟩ => ea_nil ?_) he) hg (by decide) (by decide) he
  subst h1
  intro σ B0 B H vs s ee r
  cases r with
  | cons r1 r2 =>
    cases r2
    cases r1
    refine ⟨n, rfl, ?_, _, B, O1, s, .str _, ee, h4⟩
    rw [Int.natAbs_natCast]
    by_cases z : n = 0
    · subst z; decide
    · have : n.log2 < 10 := (Nat.log2_lt z).mpr (by omega)
      omega
end
/-! dicts of numbers compared -/
theorem dval_nd : ∀ {kvs : List (Key × D)} {k : Key} {d : D}, (kvs.map (·.1)).Nodup → (k, d) ∈ kvs → dval kvs k = some d
  | [], _, _, _, h => by cases h
  | (k0, d0) :: l, k, d, nd, h => by
    rw [List.map_cons, List.nodup_cons] at nd
    by_cases z : k0 = k
    · have e : (k, d) = (k0, d0) := by
        rcases List.mem_cons.mp h with h | h
        · exact h
        · exact absurd (List.mem_map.mpr ⟨(k, d), h, z.symm⟩) nd.1
      cases e
      simp [dval]
    · have hm : (k, d) ∈ l := by
        rcases List.mem_cons.mp h with h | h
        · cases h; exact absurd rfl z
        · exact h
      have e1 : dval ((k0, d0) :: l) k = dval l k := by
        unfold dval
        rw [List.find?_cons_of_neg]
        simpa using z
      rw [e1]
      exact dval_nd nd.2 hm
theorem repKV_mem {K : PySem.W.Frag} {B : Hp} : ∀ {kvs : List (Key × D)} {ys : List (Key × V)}, RepKV K B kvs ys → ∀ q ∈ ys, ∃ d, (q.1, d) ∈ kvs ∧ Rep K B d q.2
  | _, _, .nil, q, h => by cases h
  | p :: _, _ :: _, .cons r t, q, h => by
    rcases List.mem_cons.mp h with h | h
    · subst h
      exact ⟨p.2, by rw [← r.1]; exact List.mem_cons_self, r.2⟩
    · obtain ⟨d, h1, h2⟩ := repKV_mem t q h
      exact ⟨d, List.mem_cons_of_mem _ h1, h2⟩
section
variable {X : Cx} {Z : Zn} {ρ : Slots} {O : Own}
theorem bt_neDc {d1 d2 : D} {kvs : List (Key × D)} {R : Bool → Own → Prop} (h1 : DcAt O d1 kvs) (h2 : DcAt O d2 kvs) (nd : (kvs.map (·.1)).Nodup) (hi : ∀ q ∈ kvs, ∃ i : Int, q.2 = .int i) (h : R false O) : BT X Z rNeDA d1 d2 ρ O R := fun σ B0 B H v1 v2 s e r1 r2 => by
  obtain ⟨a, ys, e1, g1, q1⟩ := s.dc h1 r1
  obtain ⟨b, zs, e2, g2, q2⟩ := s.dc h2 r2
  subst e1 e2
  refine ⟨a, b, ys, zs, rfl, rfl, g1, g2, q1.len.symm.trans q2.len, fun q hq => ?_, false, rfl, B, O, s, e, h⟩
  obtain ⟨d, hd, rd⟩ := repKV_mem q1 q hq
  obtain ⟨i, hdi⟩ := hi _ hd
  have hdi : d = .int i := hdi
  subst hdi
  have hv : q.2 = .int i := by
    revert rd
    generalize q.2 = v
    intro rd
    cases rd
    rfl
  rcases q2.val q.1 with ⟨n1, _⟩ | ⟨d', v', n1, n2, n3⟩
  · rw [dval_nd nd hd] at n1; cases n1
  · rw [dval_nd nd hd] at n1
    cases n1
    cases n3
    exact ⟨by rw [n2, hv], by rw [hv]; rfl⟩
theorem ty_D {d : D} {kvs : List (Key × D)} (hd : DcAt O d kvs) {K : PySem.W.Frag} {B H : Hp} {σ : L2.St} {v : V} (s : Sts K Z B H σ ρ O) (r : Rep K B d v) : TyX K H v (.type "dict") := by
  obtain ⟨a, ys, e1, g1, _⟩ := s.dc hd r
  subst e1
  exact .base (.dK g1)
theorem cd_isiD {d : D} {kvs : List (Key × D)} {T' : String} {b : Bool} {R : D → Own → Prop} (hd : DcAt O d kvs) (hk : kitB "dict" T' = some b) (h : R (.bl b) O) : CD X Z (rIsi X.K) [d, .raw (.ty T')] ρ O R := fun σ B0 B H vs s e r => by
  cases r with
  | cons r1 r2 =>
    cases r2 with
    | cons r2 r3 =>
      cases r3; cases r2
      exact ⟨_, _, _, _, b, rfl, .ty _, ty_D hd s r1, kit_ty hk, _, B, O, s, .bl _, e, h⟩
end
end PD

set_option Elab.async false
set_option linter.all false
set_option autoImplicit false
set_option maxRecDepth 100000
set_option maxHeartbeats 2000000
/-! k76, part A: words. -/
namespace K76
open PySem PySem.Spec L2 PD
open PyProof.Rows hiding St
section
variable {P : Program} {w : World} {K : PySem.W.Frag} {mg : Str → Option Value} {base : Heap}
/-- what an int is: no bool -/
def isI : D → Bool
  | .int _ => true
  | _ => false
/-- a datum with a type that is known -/
def Ty (d : D) : Prop := ∃ T, d.ty = some T
def P_is_integer : DP := fun ds O R _ => ∃ d, ds = [d] ∧ Ty d ∧ R (.bl (isI d)) O
theorem isi_int {d : D} (h : Ty d) : ∃ S b, d.ty = some S ∧ kitB S "int" = some b ∧ (b = false → isI d = false) ∧ (b = true → ∃ S b', d.ty = some S ∧ kitB S "bool" = some b' ∧ isI d = !b') := by
  obtain ⟨T, h⟩ := h
  cases d <;> simp [D.ty] at h
  all_goals subst h
  all_goals first
    | exact ⟨_, false, rfl, by decide +kernel, fun _ => rfl, nofun⟩
    | exact ⟨_, true, rfl, by decide +kernel, nofun, fun _ => ⟨_, false, rfl, by decide +kernel, rfl⟩⟩
    | exact ⟨_, true, rfl, by decide +kernel, nofun, fun _ => ⟨_, true, rfl, by decide +kernel, rfl⟩⟩
theorem ok_is_integer (F : Df K mg "is_integer" (top 10) [] []) (B : Bare mg) : Ok P w K mg base 2 "is_integer" (top 10) [] [] ["value"] P_is_integer := by
  refine fn_mkD (N := ["value"]) F ⟨rfl, rfl, rfl, by decide +kernel, rfl, by decide +kernel, by decide +kernel⟩ (fun ds O R Xr ⟨d, h, _⟩ => (by rw [h]; rfl)) fun f cdv A outer s H E hr Z ds O R Xr ⟨d, h1, h2, h3⟩ tk => ?_
  subst h1
  obtain ⟨S, b, e1, e2, e3, e4⟩ := isi_int h2
  refine sx_one (s1_ret (ex_and (ex_isi B (by decide) boot_int (ex_var (i := 0) rfl ⟨S, b, e1, e2, b, rfl, fun hb => ?_, fun hb => ex_one (ex_not (ex_isi B (by decide) boot_bool (ex_var (i := 0) rfl ?_)))⟩))))
  · rw [e3 hb] at h3; exact h3
  · obtain ⟨S', b', f1, f2, f3⟩ := e4 hb
    exact ⟨S', b', f1, f2, b', rfl, by rw [f3] at h3; exact h3⟩

def isN : D → Bool
  | .int i => decide (0 ≤ i)
  | _ => false
def isB (b : Int) : D → Bool
  | .int i => decide (0 ≤ i) && decide (i < b)
  | _ => false
theorem isB_of {b : Int} {d : D} (h : isN d = false) : isB b d = false := by
  cases d with
  | int i =>
    have h : decide (0 ≤ i) = false := h
    show (decide (0 ≤ i) && decide (i < b)) = false
    rw [h]; rfl
  | _ => rfl
theorem isB_int {b : Int} {d : D} (h : isN d = true) : ∃ i, d = .int i ∧ isB b d = decide (i < b) := by
  cases d with
  | int i =>
    have h : decide (0 ≤ i) = true := h
    refine ⟨i, rfl, ?_⟩
    show (decide (0 ≤ i) && decide (i < b)) = _
    rw [h]; rfl
  | _ => cases h
def P_is_number : DP := fun ds O R _ => ∃ d, ds = [d] ∧ Ty d ∧ R (.bl (isN d)) O
def P_is_below : DP := fun ds O R _ => ∃ d b, ds = [d, .int b] ∧ Ty d ∧ R (.bl (isB b d)) O
theorem ok_is_number (F : Df K mg "is_number" (top 11) [] []) (I : Ok P w K mg base 2 "is_integer" (top 10) [] [] ["value"] P_is_integer) : Ok P w K mg base 3 "is_number" (top 11) [] [] ["value"] P_is_number := by
  refine fn_mkD (N := ["value"]) F ⟨rfl, rfl, rfl, by decide +kernel, rfl, by decide +kernel, by decide +kernel⟩ (fun ds O R Xr ⟨d, h, _⟩ => (by rw [h]; rfl)) fun f cdv A outer s H E hr Z ds O R Xr ⟨d, h1, h2, h3⟩ tk => ?_
  subst h1
  refine sx_one (s1_ret (ex_and (ex_fn I (Nat.le_refl _) hr (fun _ _ _ _ _ _ us hl => match us, hl with | [_], _ => rfl) tkd0 (ea_cons (ex_var (i := 0) rfl (ea_nil ⟨d, rfl, h2, _, rfl, fun hb => ?_, fun hb => ex_one (ex_ge (ex_var (i := 0) rfl (ex_int ?_)))⟩)))))) 
  · have : isN d = false := by cases d <;> first | rfl | cases hb
    rw [this] at h3; exact h3
  · cases d <;> first | (cases hb; done) | skip
    exact ⟨_, _, rfl, rfl, h3⟩
theorem ok_is_below (F : Df K mg "is_below" (top 12) [] []) (I : Ok P w K mg base 3 "is_number" (top 11) [] [] ["value"] P_is_number) : Ok P w K mg base 4 "is_below" (top 12) [] [] ["value", "bound"] P_is_below := by
  refine fn_mkD (N := ["value", "bound"]) F ⟨rfl, rfl, rfl, by decide +kernel, rfl, by decide +kernel, by decide +kernel⟩ (fun ds O R Xr ⟨d, b, h, _⟩ => (by rw [h]; rfl)) fun f cdv A outer s H E hr Z ds O R Xr ⟨d, b, h1, h2, h3⟩ tk => ?_
  subst h1
  refine sx_one (s1_ret (ex_and (ex_fn I (Nat.le_refl _) hr (fun _ _ _ _ _ _ us hl => match us, hl with | [_], _ => rfl) tkd0 (ea_cons (ex_var (i := 0) rfl (ea_nil ⟨d, rfl, h2, _, rfl, fun hb => ?_, fun hb => ex_one (ex_lt (ex_var (i := 0) rfl (ex_var (i := 1) rfl ?_)))⟩)))))) 
  · rw [isB_of hb] at h3; exact h3
  · obtain ⟨i, e1, e2⟩ := isB_int (b := b) hb
    subst e1
    rw [e2] at h3
    exact ⟨_, _, rfl, rfl, h3⟩
/-! texts -/
/-- a name that the store takes -/
def NameOk (z : Str) : Prop := 1 ≤ z.length ∧ z.length ≤ 5 ∧ ∀ c ∈ z.cps.toList, c ∈ letters.cps.toList
def P_is_letter : DP := fun ds O R _ => ∃ c, ds = [.str ⟨#[c]⟩] ∧ R (.bl (decide (c ∈ letters.cps.toList))) O
theorem ok_is_letter (F : Df K mg "is_letter" (top 13) [] []) (B : Bare mg) (gL : ∃ t, mg "LETTERS" = some (.str letters t)) : Ok P w K mg base 2 "is_letter" (top 13) [] [] ["sign"] P_is_letter := by
  obtain ⟨t, gL⟩ := gL
  refine fn_mkD (N := ["sign"]) F ⟨rfl, rfl, rfl, by decide +kernel, rfl, by decide +kernel, by decide +kernel⟩ (fun ds O R Xr ⟨d, h, _⟩ => (by rw [h]; rfl)) fun f cdv A outer s H E hr Z ds O R Xr ⟨c, h1, h3⟩ tk => ?_
  subst h1
  refine sx_one (s1_ret (ex_and (ex_eqI (ex_lenS B (ex_var (i := 0) rfl ⟨_, rfl, (by show (1 : Nat) ≤ 1000000; decide), ex_int ⟨_, _, rfl, rfl, _, rfl, nofun, fun _ => ex_one (ex_cmp op_in_sign (ex_var (i := 0) rfl (ex_glob (v := .str letters) gL ⟨_, rfl⟩ (bd_inSign h3))))⟩⟩)))))
end
end K76

set_option Elab.async false
set_option linter.all false
set_option autoImplicit false
set_option maxRecDepth 100000
set_option maxHeartbeats 2000000
/-! k76, part B: words, ended. -/
namespace K76
open PySem PySem.Spec L2 PD
open PyProof.Rows hiding St
section
variable {P : Program} {w : World} {K : PySem.W.Frag} {mg : Str → Option Value} {base : Heap}
/-- a name's constant -/
def GI (mg : Str → Option Value) (x : Str) (i : Int) : Prop := ∃ t, mg x = some (.int i t)
def P_is_name : DP := fun ds O R _ => ∃ z, ds = [.str z] ∧ NameOk z ∧ R (.bl true) O
theorem all_true {α : Type} (p : α → Bool) (xs : List α) (h : ∀ x ∈ xs, p x = true) : (xs.map p).all id = true := by
  rw [List.all_map]
  exact List.all_eq_true.mpr h
theorem ok_is_name (F : Df K mg "is_name" (top 14) [] []) (B : Bare mg) (gl : GI mg "LONGEST_NAME" 5) (I : Ok P w K mg base 2 "is_letter" (top 13) [] [] ["sign"] P_is_letter) : Ok P w K mg base 4 "is_name" (top 14) [] [] ["value"] P_is_name := by
  obtain ⟨t, gl⟩ := gl
  have S : FnScope ["value", "sign"] ["value"] (defScope (top 14)) := ⟨rfl, rfl, rfl, by decide +kernel, rfl, by decide +kernel, by decide +kernel⟩
  refine fn_mkD F S (fun ds O R Xr ⟨d, h, _⟩ => (by rw [h]; rfl)) fun f cdv A outer s H E hr Z ds O R Xr ⟨z, h1, ⟨n1, n2, n3⟩, h3⟩ tk => ?_
  subst h1
  refine sx_cons (s1_if (et_or (et_not (et_ex (ex_isi B (by decide) boot_str (ex_var (i := 0) rfl ⟨_, true, rfl, by decide +kernel, true, rfl, nofun, fun _ => ew_or1 (et_not (et_chainI (p := fun i j => decide (i ≤ j)) (p' := fun i j => decide (i ≤ j)) op_le op_le ?_))⟩)))))) 
  refine ex_int (ex_lenS B (ex_var (i := 0) rfl ⟨z, rfl, by omega, ⟨_, _, rfl, rfl, fun hb => ?_, fun _ => ex_glob (v := .int 5) gl ⟨_, rfl⟩ ⟨5, rfl, ?_⟩⟩⟩))
  · exact absurd (of_decide_eq_false hb) (by omega)
  · refine ⟨fun hb => ?_, fun _ => sx_nil ?_⟩
    · have : decide ((z.length : Int) ≤ 5) = true := decide_eq_true (by omega)
      rw [this] at hb; cases hb
    · refine sx_one (s1_ret (ex_all rfl B (ex_map (j := 1) (own := [("sign", 1)]) rfl S.nd (blkOk_by (by kernel_rfl)) rfl (fun _ _ => Or.inl rfl) (.inr fun _ _ => rfl) rfl (ix_str (ex_var (i := 0) rfl ⟨z, rfl, fun _ _ _ _ => trivial,
        fun d => match d with | .str x => .bl (decide (x.cps.toList.headD 0 ∈ letters.cps.toList)) | _ => .non, by unfold signsD; rw [List.length_map, Array.length_toList]; exact Nat.le_trans n2 (by decide), fun s2 H2 C2 cl2 fp2 i d L c hm hd hi => ?_, ?_⟩)))))
      · unfold signsD at hi
        rw [List.getElem?_map] at hi
        obtain ⟨q, q1, q2⟩ := Option.map_eq_some_iff.mp hi
        subst q2
        exact ex_fn I (by decide) hr (fun _ _ _ _ _ _ us hl => match us, hl with | [_], _ => rfl) tkd0 (ea_cons (ex_var (i := 1) rfl (ea_nil ⟨q, rfl, rfl, rfl⟩)))
      · refine ⟨z.cps.toList.map fun q => decide (q ∈ letters.cps.toList), .inl ?_, ?_⟩
        · unfold signsD
          rw [List.map_map, List.map_map]
          rfl
        · rw [all_true _ _ fun q hq => decide_eq_true (n3 q hq)]
          exact h3
end
end K76

set_option Elab.async false
set_option linter.all false
set_option autoImplicit false
set_option maxRecDepth 100000
set_option maxHeartbeats 2000000
/-! k76, part C: rows, listings. -/
namespace K76
open PySem PySem.Spec L2 PD
open PyProof.Rows hiding St
section
variable {P : Program} {w : World} {K : PySem.W.Frag} {mg : Str → Option Value} {base : Heap}
theorem ty_int {i : Int} : Ty (.int i) := ⟨"int", rfl⟩
theorem isB_yes {b i : Int} (h0 : 0 ≤ i) (h1 : i < b) : isB b (.int i) = true := by
  show (decide (0 ≤ i) && decide (i < b)) = true
  rw [decide_eq_true h0, decide_eq_true h1]; rfl
def P_is_row : DP := fun ds O R _ => ∃ (ns : List Int) (b : Int), ds = [.tup (ns.map D.int), .int ns.length, .int b] ∧ ns.length ≤ 1000 ∧ (∀ n ∈ ns, 0 ≤ n ∧ n < b) ∧ R (.bl true) O
/-- [is_below(item, bound) for item in value] of ints -/
theorem below_map {ns : List Int} {b : Int} (h : ∀ n ∈ ns, 0 ≤ n ∧ n < b) : (ns.map D.int).map (fun d => D.bl (isB b d)) = (ns.map fun _ => true).map D.bl := by
  rw [List.map_map, List.map_map]
  exact List.map_congr_left fun n hn => by
    show D.bl (isB b (.int n)) = D.bl true
    rw [isB_yes (h n hn).1 (h n hn).2]
theorem all_trues {α : Type} (ns : List α) : (ns.map fun _ => true).all id = true := all_true (fun _ => true) ns fun _ _ => rfl
theorem ok_is_row (F : Df K mg "is_row" (top 15) [] []) (B : Bare mg) (I : Ok P w K mg base 4 "is_below" (top 12) [] [] ["value", "bound"] P_is_below) : Ok P w K mg base 5 "is_row" (top 15) [] [] ["value", "size", "bound"] P_is_row := by
  have S : FnScope ["value", "size", "bound", "item"] ["value", "size", "bound"] (defScope (top 15)) := ⟨rfl, rfl, rfl, by decide +kernel, rfl, by decide +kernel, by decide +kernel⟩
  refine fn_mkD F S (fun ds O R Xr ⟨d, b, h, _⟩ => (by rw [h]; rfl)) fun f cdv A outer s H E hr Z ds O R Xr ⟨ns, b, h1, h2, h3, h4⟩ tk => ?_
  subst h1
  refine sx_one (s1_ret (ex_and (ex_isi B (by decide) boot_tuple (ex_var (i := 0) rfl ⟨_, true, rfl, by decide +kernel, true, rfl, nofun, fun _ => ex_and (ex_eqI (ex_len B (ex_var (i := 0) rfl ⟨_, .inr (.inl rfl), ex_var (i := 1) rfl ⟨_, _, rfl, rfl, _, rfl, fun hb => ?_, fun _ => ex_one ?_⟩⟩)))⟩)))) 
  · exact absurd (of_decide_eq_false hb) (by simp)
  · refine ex_all rfl B (ex_map (j := 3) (own := [("item", 3)]) rfl S.nd (blkOk_by (by kernel_rfl)) rfl (fun _ _ => Or.inl rfl) (.inr fun _ _ => rfl) rfl (ix_tup (ex_var (i := 0) rfl ⟨_, rfl, fun _ _ _ _ => trivial, fun d => .bl (isB b d), by rw [List.length_map]; omega, fun s2 H2 C2 cl2 fp2 i d L c hm hd hi => ?_, ?_⟩)))
    · obtain ⟨n, n1, n2⟩ := Option.map_eq_some_iff.mp (by rw [List.getElem?_map] at hi; exact hi)
      subst n2
      exact ex_fn I (by decide) hr (fun _ _ _ _ _ _ us hl => match us, hl with | [_, _], _ => rfl) tkd0 (ea_cons (ex_var (i := 3) rfl (ea_cons (ex_var (i := 2) rfl (ea_nil ⟨_, b, rfl, ty_int, rfl, rfl⟩)))))
    · exact ⟨_, .inl (by rw [below_map h3]), by rw [all_trues]; exact h4⟩
/-- a listing: ints that rise -/
def P_is_listing : DP := fun ds O R _ => ∃ (ns : List Int) (b : Int), ds = [.tup (ns.map D.int), .int b] ∧ ns.length < 64 ∧ (∀ n ∈ ns, 0 ≤ n ∧ n < b) ∧ ns.Pairwise (· < ·) ∧ R (.bl true) O
theorem rising_eq : ∀ {ms ns : List Int}, ms.Pairwise (· < ·) → ns.Pairwise (· < ·) → (∀ k, k ∈ ms ↔ k ∈ ns) → ms = ns
  | [], [], _, _, _ => rfl
  | [], n :: ns, _, _, h => absurd ((h n).mpr List.mem_cons_self) (by simp)
  | m :: ms, [], _, _, h => absurd ((h m).mp List.mem_cons_self) (by simp)
  | m :: ms, n :: ns, h1, h2, h => by
    obtain ⟨a1, a2⟩ := List.pairwise_cons.mp h1
    obtain ⟨b1, b2⟩ := List.pairwise_cons.mp h2
    have e : m = n := by
      rcases List.mem_cons.mp ((h m).mp List.mem_cons_self) with e | e
      · exact e
      · rcases List.mem_cons.mp ((h n).mpr List.mem_cons_self) with z | z
        · exact z.symm
        · exact absurd (b1 m e) (by have := a1 n z; omega)
    subst e
    congr 1
    refine rising_eq a2 b2 fun k => ⟨fun hk => ?_, fun hk => ?_⟩
    · rcases List.mem_cons.mp ((h k).mp (List.mem_cons_of_mem _ hk)) with z | z
      · exact absurd (a1 k hk) (by omega)
      · exact z
    · rcases List.mem_cons.mp ((h k).mpr (List.mem_cons_of_mem _ hk)) with z | z
      · exact absurd (b1 k hk) (by omega)
      · exact z
theorem pys_ints (ns : List Int) : D.pys (ns.map D.int) = some (ns.map PyData.int) := by
  induction ns with
  | nil => rfl
  | cons n ns ih => simp only [List.map_cons, D.pys, D.py, ih, Option.bind_some, Option.map_some]
theorem py_tints (ns : List Int) : (D.tup (ns.map D.int)).py = some (.tuple (ns.map .int)) := by
  simp only [D.py, pys_ints, Option.map_some]
theorem py_lints (ns : List Int) : (D.lst (ns.map D.int)).py = some (.list (ns.map .int)) := by
  simp only [D.py, pys_ints, Option.map_some]
theorem lay_ints : ∀ ns : List Int, PyData.canLayAll0 (ns.map PyData.int) = true
  | [] => rfl
  | _ :: r => by rw [List.map_cons, PyData.canLayAll0, lay_ints r]; rfl
theorem dep_ints : ∀ ns : List Int, PyData.depthAll (ns.map PyData.int) = 0
  | [] => rfl
  | _ :: r => by rw [List.map_cons, PyData.depthAll, dep_ints r]; rfl
theorem shp_tints (ns : List Int) : SeqAt.shaped (.tuple (ns.map PyData.int)) = true := by
  simp [SeqAt.shaped, PyData.canLay0, PyData.depth, lay_ints, dep_ints]
theorem shp_lints (ns : List Int) : SeqAt.shaped (.list (ns.map PyData.int)) = true := by
  simp [SeqAt.shaped, PyData.canLay0, PyData.depth, lay_ints, dep_ints]
theorem eqv_tints (ns ms : List Int) : PyData.eqv (.tuple (ns.map PyData.int)) (.tuple (ms.map PyData.int)) = decide (ns = ms) := by
  simp only [PyData.eqv]; exact PySem.W.eqvAll_map ns ms
theorem eqv_lints (ns ms : List Int) : PyData.eqv (.list (ns.map PyData.int)) (.list (ms.map PyData.int)) = decide (ns = ms) := by
  simp only [PyData.eqv]; exact PySem.W.eqvAll_map ns ms
theorem ok_is_listing (F : Df K mg "is_listing" (top 16) [] []) (B : Bare mg) (I : Ok P w K mg base 4 "is_below" (top 12) [] [] ["value", "bound"] P_is_below) : Ok P w K mg base 5 "is_listing" (top 16) [] [] ["value", "bound"] P_is_listing := by
  have S : FnScope ["value", "bound", "item"] ["value", "bound"] (defScope (top 16)) := ⟨rfl, rfl, rfl, by decide +kernel, rfl, by decide +kernel, by decide +kernel⟩
  refine fn_mkD F S (fun ds O R Xr ⟨d, b, h, _⟩ => (by rw [h]; rfl)) fun f cdv A outer s H E hr Z ds O R Xr ⟨ns, b, h1, h2, h3, h4, h5⟩ tk => ?_
  subst h1
  refine sx_cons (s1_if (et_or (et_not (et_ex (ex_isi B (by decide) boot_tuple (ex_var (i := 0) rfl ⟨_, true, rfl, by decide +kernel, true, rfl, nofun, fun _ => ew_or1 (et_not (et_ex ?_))⟩)))))) 
  refine ex_all rfl B (ex_map (j := 2) (own := [("item", 2)]) rfl S.nd (blkOk_by (by kernel_rfl)) rfl (fun _ _ => Or.inl rfl) (.inr fun _ _ => rfl) rfl (ix_tup (ex_var (i := 0) rfl ⟨_, rfl, fun _ _ _ _ => trivial, fun d => .bl (isB b d), by rw [List.length_map]; omega, fun s2 H2 C2 cl2 fp2 i d L c hm hd hi => ?_, ?_⟩)))
  · obtain ⟨n, n1, n2⟩ := Option.map_eq_some_iff.mp (by rw [List.getElem?_map] at hi; exact hi)
    subst n2
    exact ex_fn I (by decide) hr (fun _ _ _ _ _ _ us hl => match us, hl with | [_, _], _ => rfl) tkd0 (ea_cons (ex_var (i := 2) rfl (ea_cons (ex_var (i := 1) rfl (ea_nil ⟨_, b, rfl, ty_int, rfl, rfl⟩)))))
  · refine ⟨_, .inl (by rw [below_map h3]), _, rfl, ?_⟩
    rw [all_trues]
    refine ⟨nofun, fun _ => sx_nil (sx_one (s1_ret (ex_cmp (op_eqD (hr.units)) (ex_var (i := 0) rfl (ex_tuple B (ex_sortedSet rfl (B _ (by decide)) (B _ (by decide)) (ex_var (i := 0) rfl ⟨ns, rfl, h2, fun ms m1 m2 => ⟨_, .inl rfl, bd_eqD (py_tints ns) (py_tints ms) (shp_tints ns) (shp_tints ms) ?_⟩⟩)))))))⟩
    rw [eqv_tints, rising_eq m1 h4 m2, decide_eq_true rfl]
    exact h5
end
end K76

set_option Elab.async false
set_option linter.all false
set_option autoImplicit false
set_option maxRecDepth 100000
set_option maxHeartbeats 2000000
/-! k76, part D: stores as data; clashes. -/
namespace K76
open PySem PySem.Spec L2 PD
open PyProof.Rows hiding St
/-- an operation -/
structure Op where
  name : Str
  ends : List Nat
  ans : List Int
/-- a store -/
structure Sto where
  size : Nat
  offs : List (List Op)
def Op.E (o : Op) (s : Nat) : Nat := o.ends.getD s 0
def Op.A (o : Op) (s : Nat) : Int := o.ans.getD s 0
structure Op.Ok (n : Nat) (o : Op) : Prop where
  nm : NameOk o.name
  el : o.ends.length = n
  eb : ∀ e ∈ o.ends, e < n
  al : o.ans.length = n
  ab : ∀ a ∈ o.ans, 0 ≤ a ∧ a ≤ 1000000000000
def Sto.ops (s : Sto) : List Op := s.offs.flatten
structure Sto.Ok (s : Sto) : Prop where
  n1 : 1 ≤ s.size
  n2 : s.size ≤ 200
  o1 : 2 ≤ s.offs.length
  o2 : s.offs.length ≤ 8
  few : s.ops.length ≤ 40
  op : ∀ f ∈ s.offs, ∀ o ∈ f, o.Ok s.size
  nd : (s.ops.map Op.name).Nodup
def dI (n : Nat) : D := .int n
def dOp (o : Op) : D := .tup [.str o.name, .tup (o.ends.map dI), .tup (o.ans.map D.int)]
def dOff (f : List Op) : D := .tup (f.map dOp)
def dSto (C : Addr) (s : Sto) : D := .obj C [("size", dI s.size), ("offices", .tup (s.offs.map dOff))]
theorem Op.Ok.lt {n : Nat} {o : Op} (h : o.Ok n) {s : Nat} (hs : s < n) : o.E s < n := by
  unfold Op.E
  rw [List.getD_eq_getElem?_getD]
  have : s < o.ends.length := by rw [h.el]; exact hs
  rw [List.getElem?_eq_getElem this]
  exact h.eb _ (List.getElem_mem this)
theorem at_ends {n : Nat} {o : Op} (h : o.Ok n) {s : Nat} (hs : s < n) : atI (o.ends.map dI) (s : Int) = some (dI (o.E s)) := by
  have : s < o.ends.length := by rw [h.el]; exact hs
  apply PD.atI_nat
  rw [List.getElem?_map]
  unfold Op.E
  rw [List.getD_eq_getElem?_getD, List.getElem?_eq_getElem this]
  rfl
theorem at_ans {n : Nat} {o : Op} (h : o.Ok n) {s : Nat} (hs : s < n) : atI (o.ans.map D.int) (s : Int) = some (.int (o.A s)) := by
  have : s < o.ans.length := by rw [h.al]; exact hs
  apply PD.atI_nat
  rw [List.getElem?_map]
  unfold Op.A
  rw [List.getD_eq_getElem?_getD, List.getElem?_eq_getElem this]
  rfl
def endsClash (a b : Op) (s : Nat) : Bool := a.E (b.E s) != b.E (a.E s)
def toldOther (a b : Op) (s : Nat) : Bool := a.A (b.E s) != a.A s
def ansClash (a b : Op) (s : Nat) : Bool := toldOther a b s || toldOther b a s
section
variable {P : Program} {w : World} {K : PySem.W.Frag} {mg : Str → Option Value} {base : Heap}
section
variable {X : Cx} {Z : Zn} {ρ : Slots} {O : Own}
/-- o[1][e], o[2][e] -/
theorem ex_E {n i : Nat} {o : Op} {x : Str} {e : Expr} {p1 p2 p3 p4 : Pos} {j1 : Nat} {R : D → Own → Prop} (ho : o.Ok n) (hx : ρ[i]? = some (some (dOp o))) (h : EX X Z e ρ O fun d O1 => ∃ s, d = dI s ∧ s < n ∧ R (dI (o.E s)) O1) (hN : X.N[i]? = some x := by rfl)
    (hv : Vis X.env.scope x := by first | exact Or.inl rfl | exact Or.inr (Or.inl rfl) | exact Or.inr (Or.inr rfl)) (hd : (x == ("__debug__" : Str)) = false := by decide) (hcd : (x == ("__classdict__" : Str)) = false := by decide) (hs : PlainIx e := by exact fun _ _ => rfl) :
    EX X Z (.Subscript (.Subscript (.Name x p1) (.Constant (.int 1) j1 p2) p3) e p4) ρ O R :=
  ex_idx (ex_idx (ex_var hx (ex_int ⟨_, 1, _, .inr (.inl rfl), rfl, (by rfl : atI _ (1 : Int) = some (.tup (o.ends.map dI))), h.mono fun d O1 ⟨s, h1, h2, h3⟩ => ⟨_, (s : Int), _, .inr (.inl rfl), h1, at_ends ho h2, h3⟩⟩) hN hv hd hcd)) hs
theorem ex_A {n i : Nat} {o : Op} {x : Str} {e : Expr} {p1 p2 p3 p4 : Pos} {j1 : Nat} {R : D → Own → Prop} (ho : o.Ok n) (hx : ρ[i]? = some (some (dOp o))) (h : EX X Z e ρ O fun d O1 => ∃ s, d = dI s ∧ s < n ∧ R (.int (o.A s)) O1) (hN : X.N[i]? = some x := by rfl)
    (hv : Vis X.env.scope x := by first | exact Or.inl rfl | exact Or.inr (Or.inl rfl) | exact Or.inr (Or.inr rfl)) (hd : (x == ("__debug__" : Str)) = false := by decide) (hcd : (x == ("__classdict__" : Str)) = false := by decide) (hs : PlainIx e := by exact fun _ _ => rfl) :
    EX X Z (.Subscript (.Subscript (.Name x p1) (.Constant (.int 2) j1 p2) p3) e p4) ρ O R :=
  ex_idx (ex_idx (ex_var hx (ex_int ⟨_, 2, _, .inr (.inl rfl), rfl, (by rfl : atI _ (2 : Int) = some (.tup (o.ans.map D.int))), h.mono fun d O1 ⟨s, h1, h2, h3⟩ => ⟨_, (s : Int), _, .inr (.inl rfl), h1, at_ans ho h2, h3⟩⟩) hN hv hd hcd)) hs
end
def P_clash3 (f : Op → Op → Nat → Bool) : DP := fun ds O R _ => ∃ n a b s, ds = [dOp a, dOp b, dI s] ∧ a.Ok n ∧ b.Ok n ∧ s < n ∧ R (.bl (f a b s)) O
theorem bne_int (a b : Nat) : (!decide ((a : Int) = (b : Int))) = (a != b) := by
  by_cases h : a = b
  · subst h; simp
  · have : ¬ ((a : Int) = (b : Int)) := fun z => h (by omega)
    simp [h, this]
theorem bne_i (a b : Int) : (!decide (a = b)) = (a != b) := by
  by_cases h : a = b
  · subst h; simp
  · simp [h]
theorem ok_ends_clash (F : Df K mg "ends_clash" (top 21) [] []) : Ok P w K mg base 1 "ends_clash" (top 21) [] [] ["one", "other", "state"] (P_clash3 endsClash) := by
  have S : FnScope ["one", "other", "state"] ["one", "other", "state"] (defScope (top 21)) := ⟨rfl, rfl, rfl, by decide +kernel, rfl, by decide +kernel, by decide +kernel⟩
  refine fn_mkD F S (fun ds O R Xr ⟨n, a, b, s, h, _⟩ => (by rw [h]; rfl)) fun f cdv A outer s H E hr Z ds O R Xr ⟨n, a, b, t, h1, ha, hb, ht, h4⟩ tk => ?_
  subst h1
  refine sx_one (s1_ret (ex_neI (ex_E (i := 0) ha rfl (ex_E (i := 1) hb rfl (ex_var (i := 2) rfl ⟨t, rfl, ht, b.E t, rfl, hb.lt ht, ex_E (i := 1) hb rfl (ex_E (i := 0) ha rfl (ex_var (i := 2) rfl ⟨t, rfl, ht, a.E t, rfl, ha.lt ht, _, _, rfl, rfl, ?_⟩))⟩)))))
  rw [show endsClash a b t = !decide (((a.E (b.E t) : Nat) : Int) = ((b.E (a.E t) : Nat) : Int)) from (bne_int _ _).symm] at h4
  exact h4
theorem ok_is_told_otherwise (F : Df K mg "is_told_otherwise" (top 22) [] []) : Ok P w K mg base 1 "is_told_otherwise" (top 22) [] [] ["one", "other", "state"] (P_clash3 toldOther) := by
  have S : FnScope ["one", "other", "state"] ["one", "other", "state"] (defScope (top 22)) := ⟨rfl, rfl, rfl, by decide +kernel, rfl, by decide +kernel, by decide +kernel⟩
  refine fn_mkD F S (fun ds O R Xr ⟨n, a, b, s, h, _⟩ => (by rw [h]; rfl)) fun f cdv A outer s H E hr Z ds O R Xr ⟨n, a, b, t, h1, ha, hb, ht, h4⟩ tk => ?_
  subst h1
  refine sx_one (s1_ret (ex_neI (ex_A (i := 0) ha rfl (ex_E (i := 1) hb rfl (ex_var (i := 2) rfl ⟨t, rfl, ht, b.E t, rfl, hb.lt ht, ex_A (i := 0) ha rfl (ex_var (i := 2) rfl ⟨t, rfl, ht, _, _, rfl, rfl, ?_⟩)⟩)))))
  rw [show toldOther a b t = !decide (a.A (b.E t) = a.A t) from (bne_i _ _).symm] at h4
  exact h4
theorem ok_answers_clash (F : Df K mg "answers_clash" (top 23) [] []) (I : Ok P w K mg base 1 "is_told_otherwise" (top 22) [] [] ["one", "other", "state"] (P_clash3 toldOther)) : Ok P w K mg base 2 "answers_clash" (top 23) [] [] ["one", "other", "state"] (P_clash3 ansClash) := by
  have S : FnScope ["one", "other", "state"] ["one", "other", "state"] (defScope (top 23)) := ⟨rfl, rfl, rfl, by decide +kernel, rfl, by decide +kernel, by decide +kernel⟩
  refine fn_mkD F S (fun ds O R Xr ⟨n, a, b, s, h, _⟩ => (by rw [h]; rfl)) fun f cdv A outer s H E hr Z ds O R Xr ⟨n, a, b, t, h1, ha, hb, ht, h4⟩ tk => ?_
  subst h1
  refine sx_one (s1_ret (ex_or ?_))
  refine ex_fn I (Nat.le_refl _) hr (fun _ _ _ _ _ _ us hl => match us, hl with | [_, _, _], _ => rfl) tkd0 (ea_cons (ex_var (i := 0) rfl (ea_cons (ex_var (i := 1) rfl (ea_cons (ex_var (i := 2) rfl (ea_nil ?_)))))))
  refine ⟨n, a, b, t, rfl, ha, hb, ht, _, rfl, fun z => ?_, fun z => ex_one ?_⟩
  case' refine_2 => refine ex_fn I (Nat.le_refl _) hr (fun _ _ _ _ _ _ us hl => match us, hl with | [_, _, _], _ => rfl) tkd0 (ea_cons (ex_var (i := 1) rfl (ea_cons (ex_var (i := 0) rfl (ea_cons (ex_var (i := 2) rfl (ea_nil ⟨n, b, a, t, rfl, hb, ha, ht, ?_⟩)))))))
  · unfold ansClash at h4; rw [z] at h4; exact h4
  · unfold ansClash at h4; rw [z] at h4; exact h4
end
end K76

set_option Elab.async false
set_option linter.all false
set_option autoImplicit false
set_option maxRecDepth 100000
set_option maxHeartbeats 2000000
/-! k76, part E: clashes, ended. -/
namespace K76
open PySem PySem.Spec L2 PD
open PyProof.Rows hiding St
section
variable {P : Program} {w : World} {K : PySem.W.Frag} {mg : Str → Option Value} {base : Heap}
def GS (mg : Str → Option Value) (x z : Str) : Prop := ∃ t, mg x = some (.str z t)
def kindsD (e a : Bool) : List D := (if e = true then [D.str "ends"] else []) ++ (if a = true then [D.str "answers"] else [])
def P_kinds : DP := fun ds O R _ => ∃ n a b s, ds = [dOp a, dOp b, dI s] ∧ a.Ok n ∧ b.Ok n ∧ s < n ∧ R (.lst (kindsD (endsClash a b s) (ansClash a b s))) O
theorem ok_kinds_at (F : Df K mg "kinds_at" (top 24) [] []) (g1 : GS mg "ENDS" "ends") (g2 : GS mg "ANSWERS" "answers") (I1 : Ok P w K mg base 1 "ends_clash" (top 21) [] [] ["one", "other", "state"] (P_clash3 endsClash))
    (I2 : Ok P w K mg base 2 "answers_clash" (top 23) [] [] ["one", "other", "state"] (P_clash3 ansClash)) : Ok P w K mg base 3 "kinds_at" (top 24) [] [] ["one", "other", "state"] P_kinds := by
  obtain ⟨t1, g1⟩ := g1
  obtain ⟨t2, g2⟩ := g2
  have S : FnScope ["one", "other", "state", "kinds"] ["one", "other", "state"] (defScope (top 24)) := ⟨rfl, rfl, rfl, by decide +kernel, rfl, by decide +kernel, by decide +kernel⟩
  refine fn_mkD F S (fun ds O R Xr ⟨n, a, b, s, h, _⟩ => (by rw [h]; rfl)) fun f cdv A outer s H E hr Z ds O R Xr ⟨n, a, b, t, h1, ha, hb, ht, h4⟩ tk => ?_
  subst h1
  refine sx_cons (s1_set (i := 3) S.nd (ex_if (et_ex ?_)))
  refine ex_fn I1 (by decide) hr (fun _ _ _ _ _ _ us hl => match us, hl with | [_, _, _], _ => rfl) tkd0 (ea_cons (ex_var (i := 0) rfl (ea_cons (ex_var (i := 1) rfl (ea_cons (ex_var (i := 2) rfl (ea_nil ⟨n, a, b, t, rfl, ha, hb, ht, _, rfl, ?_⟩)))))))
  have key : ∀ es : List D, es.length ≤ 1 → R (.lst (es ++ (if ansClash a b t = true then [D.str "answers"] else []))) O → SX (cxD P w K mg base ["one", "other", "state", "kinds"] "kinds_at" (top 24) f cdv A outer s H E) Z (defBody (top 24)).tail ((slots0 ["one", "other", "state", "kinds"] [dOp a, dOp b, dI t]).set 3 (some (.lst es))) O { nx := fun x O' => R D.non O', rt := R } := by
    intro es hz hr4
    refine sx_one (s1_ret (ex_if (et_ex ?_)))
    refine ex_fn I2 (by decide) hr (fun _ _ _ _ _ _ us hl => match us, hl with | [_, _, _], _ => rfl) tkd0 (ea_cons (ex_var (i := 0) rfl (ea_cons (ex_var (i := 1) rfl (ea_cons (ex_var (i := 2) rfl (ea_nil ⟨n, a, b, t, rfl, ha, hb, ht, _, rfl, fun z => ?_, fun z => ?_⟩)))))))
    · rw [if_pos z] at hr4
      refine ex_bin op_cat (ex_var (i := 3) rfl (ex_lst (ea_cons (ex_glob (v := .str "answers") g2 ⟨_, rfl⟩ (ea_nil ⟨by decide, bd_cat (.inl rfl) (.inl rfl) ?_ hr4⟩)))))
      show es.length + 1 ≤ 1000000
      omega
    · rw [z] at hr4
      refine ex_var (i := 3) rfl ?_
      simpa using hr4
  refine ⟨fun z => ?_, fun z => ?_⟩
  · refine ex_lst (ea_cons (ex_glob (v := .str "ends") g1 ⟨_, rfl⟩ (ea_nil ⟨by decide, key _ (by decide) ?_⟩)))
    unfold kindsD at h4
    rw [z] at h4
    exact h4
  · refine ex_lst (ea_nil ⟨by decide, key _ (by decide) ?_⟩)
    unfold kindsD at h4
    rw [z] at h4
    exact h4
/-- two operations clash somewhere -/
def clash (n : Nat) (a b : Op) : Bool := (List.range n).any fun s => endsClash a b s || ansClash a b s
def P_clash_any : DP := fun ds O R _ => ∃ n a b, ds = [dOp a, dOp b] ∧ n ≤ 1000 ∧ a.Ok n ∧ b.Ok n ∧ R (.bl (clash n a b)) O
theorem kinds_ne (e a : Bool) : ∃ ps, D.pys (kindsD e a) = some ps ∧ SeqAt.shaped (.list ps) = true ∧ (!PyData.eqv (.list ps) (.list [])) = (e || a) := by
  cases e <;> cases a
  · exact ⟨[], rfl, by decide +kernel, by decide +kernel⟩
  · exact ⟨[.str "answers"], rfl, by decide +kernel, by decide +kernel⟩
  · exact ⟨[.str "ends"], rfl, by decide +kernel, by decide +kernel⟩
  · exact ⟨[.str "ends", .str "answers"], rfl, by decide +kernel, by decide +kernel⟩
theorem range_bls (n : Nat) (g : Nat → Bool) : (rangeD 0 n).map (fun d => match d with | .int i => D.bl (g i.toNat) | _ => .non) = ((List.range n).map g).map D.bl := by
  unfold rangeD
  rw [List.map_map, List.map_map]
  refine List.map_congr_left fun i _ => ?_
  show D.bl (g ((0 : Int) + (i : Nat)).toNat) = D.bl (g i)
  congr 2
  omega
theorem range_at {n i : Nat} {d : D} (h : (rangeD 0 n)[i]? = some d) : i < n ∧ d = dI i := by
  unfold rangeD at h
  rw [List.getElem?_map] at h
  obtain ⟨k, h1, h2⟩ := Option.map_eq_some_iff.mp h
  obtain ⟨h3, h4⟩ := List.getElem?_eq_some_iff.mp h1
  rw [List.getElem_range] at h4
  subst h4
  refine ⟨by simpa using h3, ?_⟩
  subst h2
  show D.int _ = D.int _
  congr 1
  omega
theorem range_len (n : Nat) : (rangeD 0 n).length = n := by unfold rangeD; simp
theorem ok_clash_anywhere (F : Df K mg "clash_anywhere" (top 25) [] []) (B : Bare mg) (I : Ok P w K mg base 3 "kinds_at" (top 24) [] [] ["one", "other", "state"] P_kinds) : Ok P w K mg base 4 "clash_anywhere" (top 25) [] [] ["one", "other"] P_clash_any := by
  have S : FnScope ["one", "other", "state"] ["one", "other"] (defScope (top 25)) := ⟨rfl, rfl, rfl, by decide +kernel, rfl, by decide +kernel, by decide +kernel⟩
  refine fn_mkD F S (fun ds O R Xr ⟨n, a, b, h, _⟩ => (by rw [h]; rfl)) fun f cdv A outer s H E hr Z ds O R Xr ⟨n, a, b, h1, hn, ha, hb, h4⟩ tk => ?_
  subst h1
  refine sx_one (s1_ret (ex_any rfl B ?_))
  refine ex_map (j := 2) (own := [("state", 2)]) rfl S.nd (blkOk_by (by kernel_rfl)) rfl (fun _ _ => Or.inl rfl) (.inr fun _ _ => rfl) rfl (ix_range1 (B _ (by decide)) (ex_len B (ex_idx (ex_var (i := 0) rfl (ex_int ⟨_, 1, _, .inr (.inl rfl), rfl, (by rfl : atI _ (1 : Int) = some (.tup (a.ends.map dI))), a.ends.map dI, .inr (.inl rfl), ?_⟩)))))
  have hl : (a.ends.map dI).length = n := by rw [List.length_map, ha.el]
  rw [hl]
  refine ⟨n, rfl, by omega, by omega, fun _ _ _ _ => trivial, fun d => match d with | .int i => D.bl (endsClash a b i.toNat || ansClash a b i.toNat) | _ => .non, by rw [Int.toNat_natCast, range_len]; omega, fun s2 H2 C2 cl2 fp2 i d L c hm hd hi => ?_, ?_⟩
  · rw [Int.toNat_natCast] at hi
    obtain ⟨hin, hdi⟩ := range_at hi
    subst hdi
    refine ex_cmp (op_neD hr.units) ?_
    refine ex_fn I (by decide) hr (fun _ _ _ _ _ _ us hl => match us, hl with | [_, _, _], _ => rfl) tkd0 (ea_cons (ex_var (i := 0) rfl (ea_cons (ex_var (i := 1) rfl (ea_cons (ex_var (i := 2) rfl (ea_nil ⟨n, a, b, i, rfl, ha, hb, hin, ?_⟩)))))))
    refine ex_lst (ea_nil ⟨by decide, ?_⟩)
    obtain ⟨ps, k1, k2, k3⟩ := kinds_ne (endsClash a b i) (ansClash a b i)
    refine bd_neD (p1 := .list ps) (p2 := .list []) (by simp only [D.py, k1, Option.map_some]) rfl k2 (by decide +kernel) ?_
    rw [k3]
    exact ⟨rfl, rfl⟩
  · rw [Int.toNat_natCast]
    refine ⟨(List.range n).map fun i => endsClash a b i || ansClash a b i, .inl ?_, ?_⟩
    · rw [range_bls n fun i => endsClash a b i || ansClash a b i]
    · rw [List.any_map]
      exact h4
end
end K76

set_option Elab.async false
set_option linter.all false
set_option autoImplicit false
set_option maxRecDepth 100000
set_option maxHeartbeats 2000000
/-! k76, part F: pairs across the offices. -/
namespace K76
open PySem PySem.Spec L2 PD
open PyProof.Rows hiding St
/-- the store's class -/
structure StC (K : PySem.W.Frag) (C : Addr) : Prop where
  c : Cls K C
  a1 : NoAttr K C "size"
  a2 : NoAttr K C "offices"
/-! lists -/
theorem flat_congr {α β : Type} {xs : List α} {f g : α → List β} (h : ∀ x ∈ xs, f x = g x) : xs.flatMap f = xs.flatMap g := by
  induction xs with
  | nil => rfl
  | cons x xs ih => rw [List.flatMap_cons, List.flatMap_cons, h x List.mem_cons_self, ih fun y hy => h y (List.mem_cons_of_mem _ hy)]
def tups : D → List D
  | .tup ds => ds
  | _ => []
def prs (f l : List D) : List D := f.flatMap fun one => l.map fun other => .tup [one, other]
def prD : List D → List D
  | [] => []
  | f :: fs => (fs.flatMap fun l => prs (tups f) (tups l)) ++ prD fs
def g0 (offs : List D) : D → List D
  | .tup [.int low, f] => (offs.drop (low.toNat + 1)).flatMap fun l => prs (tups f) (tups l)
  | _ => []
theorem enum_pr (offs : List D) : ∀ (l p : List D), offs = p ++ l → (l.mapIdx fun i d => D.tup [.int ((p.length + i : Nat) : Int), d]).flatMap (g0 offs) = prD l
  | [], p, _ => rfl
  | f :: fs, p, h => by
    rw [List.mapIdx_cons, List.flatMap_cons]
    have e : g0 offs (.tup [.int ((p.length + 0 : Nat) : Int), f]) = fs.flatMap fun l => prs (tups f) (tups l) := by
      show (offs.drop (((p.length + 0 : Nat) : Int).toNat + 1)).flatMap _ = _
      rw [Int.toNat_natCast, h, Nat.add_zero]
      rw [show p ++ f :: fs = (p ++ [f]) ++ fs by simp, List.drop_left' (by simp)]
    rw [e]
    unfold prD
    congr 1
    have := enum_pr offs fs (p ++ [f]) (by simp [h])
    rw [List.length_append, List.length_singleton] at this
    rw [← this]
    congr 2
    funext i d
    rw [show p.length + 1 + i = p.length + (i + 1) by omega]
theorem enum_prD (offs : List D) : (enumD offs).flatMap (g0 offs) = prD offs := by
  have := enum_pr offs offs [] rfl
  simp only [List.length_nil, Nat.zero_add] at this
  exact this
/-- typed -/
def pairs : List (List Op) → List (Op × Op)
  | [] => []
  | f :: fs => (fs.flatMap fun l => f.flatMap fun one => l.map fun other => (one, other)) ++ pairs fs
def dPair (p : Op × Op) : D := .tup [dOp p.1, dOp p.2]
theorem prs_typed (f l : List Op) : prs (f.map dOp) (l.map dOp) = (f.flatMap fun one => l.map fun other => (one, other)).map dPair := by
  unfold prs
  rw [List.flatMap_map, List.map_flatMap]
  refine flat_congr fun a _ => ?_
  rw [List.map_map, List.map_map]
  rfl
theorem prD_typed : ∀ offs : List (List Op), prD (offs.map dOff) = (pairs offs).map dPair
  | [] => rfl
  | f :: fs => by
    rw [List.map_cons]
    unfold prD pairs
    rw [List.map_append, prD_typed fs, List.flatMap_map, List.map_flatMap]
    congr 1
    refine flat_congr fun l _ => ?_
    exact prs_typed f l
theorem cross_len (f : List Op) : ∀ fs : List (List Op), (fs.flatMap fun l => f.flatMap fun one => l.map fun other => (one, other)).length = f.length * fs.flatten.length
  | [] => by simp
  | l :: fs => by
    rw [List.flatMap_cons, List.length_append, cross_len f fs, List.flatten_cons, List.length_append, Nat.mul_add]
    congr 1
    induction f with
    | nil => simp
    | cons a f ih => rw [List.flatMap_cons, List.length_append, ih, List.length_map, List.length_cons, Nat.add_mul]; omega
theorem pairs_len : ∀ offs : List (List Op), (pairs offs).length ≤ offs.flatten.length * offs.flatten.length
  | [] => by simp [pairs]
  | f :: fs => by
    unfold pairs
    rw [List.length_append, cross_len, List.flatten_cons, List.length_append]
    have := pairs_len fs
    have e : (f.length + fs.flatten.length) * (f.length + fs.flatten.length) = f.length * f.length + f.length * fs.flatten.length + (fs.flatten.length * f.length + fs.flatten.length * fs.flatten.length) := by
      rw [Nat.add_mul, Nat.mul_add, Nat.mul_add]
    rw [e]
    have : 0 ≤ f.length * f.length := Nat.zero_le _
    omega
theorem pairs_mem {offs : List (List Op)} {a b : Op} (h : (a, b) ∈ pairs offs) : a ∈ offs.flatten ∧ b ∈ offs.flatten := by
  induction offs with
  | nil => simp [pairs] at h
  | cons f fs ih =>
    unfold pairs at h
    rcases List.mem_append.mp h with h | h
    · obtain ⟨l, hl, h⟩ := List.mem_flatMap.mp h
      obtain ⟨one, h1, h⟩ := List.mem_flatMap.mp h
      obtain ⟨other, h2, e⟩ := List.mem_map.mp h
      cases e
      exact ⟨by rw [List.flatten_cons]; exact List.mem_append_left _ h1, by rw [List.flatten_cons]; exact List.mem_append_right _ (List.mem_flatten.mpr ⟨l, hl, h2⟩)⟩
    · obtain ⟨h1, h2⟩ := ih h
      rw [List.flatten_cons]
      exact ⟨List.mem_append_right _ h1, List.mem_append_right _ h2⟩
section
variable {P : Program} {w : World} {K : PySem.W.Frag} {mg : Str → Option Value} {base : Heap}
section
variable {X : Cx} {Z : Zn} {ρ : Slots} {O : Own} {C : Addr} {s : Sto} {x : Str} {p1 p2 : Pos} {i : Nat} {R : D → Own → Prop}
/-- store.size, store.offices -/
theorem ex_size (c : StC X.K C) (hx : ρ[i]? = some (some (dSto C s))) (h : R (dI s.size) O) (hN : X.N[i]? = some x := by rfl) (hv : Vis X.env.scope x := by first | exact Or.inl rfl | exact Or.inr (Or.inl rfl) | exact Or.inr (Or.inr rfl))
    (hb : attributeBase (.Name x p1) "size" X.env (eval (.Name x p1) X.env) = eval (.Name x p1) X.env := by rfl) (hd : (x == ("__debug__" : Str)) = false := by decide) (hcd : (x == ("__classdict__" : Str)) = false := by decide) : EX X Z (.Attribute (.Name x p1) "size" p2) ρ O R :=
  ex_fld c.c c.a1 (ex_var hx ⟨_, _, .inl rfl, rfl, h⟩ hN hv hd hcd) hb
theorem ex_offs (c : StC X.K C) (hx : ρ[i]? = some (some (dSto C s))) (h : R (.tup (s.offs.map dOff)) O) (hN : X.N[i]? = some x := by rfl) (hv : Vis X.env.scope x := by first | exact Or.inl rfl | exact Or.inr (Or.inl rfl) | exact Or.inr (Or.inr rfl))
    (hb : attributeBase (.Name x p1) "offices" X.env (eval (.Name x p1) X.env) = eval (.Name x p1) X.env := by rfl) (hd : (x == ("__debug__" : Str)) = false := by decide) (hcd : (x == ("__classdict__" : Str)) = false := by decide) : EX X Z (.Attribute (.Name x p1) "offices" p2) ρ O R :=
  ex_fld c.c c.a2 (ex_var hx ⟨_, _, .inl rfl, rfl, h⟩ hN hv hd hcd) hb
end
def P_pairs (C : Addr) : DP := fun ds O R _ => ∃ s : Sto, ds = [dSto C s] ∧ s.Ok ∧ R (.lst ((pairs s.offs).map dPair)) O
theorem cut_from {ds : List D} {k : Nat} (h : k < ds.length) : PD.cutD ds (some ((k : Int) + 1)) none = ds.drop (k + 1) := by
  unfold PD.cutD
  rw [show ((k : Int) + 1) = ((k + 1 : Nat) : Int) by omega, HT.sIx_nat, HT.sIx_none, Nat.min_eq_left (by omega)]
  rw [List.take_of_length_le]
  simp
theorem ok_pairs_across {C : Addr} (F : Df K mg "pairs_across" (top 20) [] []) (B : Bare mg) (c : StC K C) : Ok P w K mg base 2 "pairs_across" (top 20) [] [] ["store"] (P_pairs C) := by
  have S : FnScope ["store", "low", "office", "later", "one", "other"] ["store"] (defScope (top 20)) := ⟨rfl, rfl, rfl, by decide +kernel, rfl, by decide +kernel, by decide +kernel⟩
  refine fn_mkD F S (fun ds O R Xr ⟨s, h, _⟩ => (by rw [h]; rfl)) fun f cdv A outer s H E hr Z ds O R Xr ⟨t, h1, ht, h4⟩ tk => ?_
  subst h1
  have hlen : (prD (t.offs.map dOff)).length ≤ 1600 := by
    rw [prD_typed, List.length_map]
    have := pairs_len t.offs
    have h40 : t.offs.flatten.length ≤ 40 := ht.few
    exact Nat.le_trans this (Nat.mul_le_mul h40 h40)
  rw [← prD_typed, ← enum_prD] at h4
  rw [← enum_prD] at hlen
  refine sx_one (s1_ret (ex_lcN (own := [("low", 1), ("office", 2), ("later", 3), ("one", 4), ("other", 5)]) rfl S.nd (blkOk_by (by kernel_rfl)) (ix_enumT (B _ (by decide)) (ex_offs (i := 0) c rfl ⟨_, rfl, fun _ _ _ _ => trivial, g0 (t.offs.map dOff), by omega, fun s2 H2 C2 cl2 fp2 => ?_, h4⟩))))
  intro i d L c1 hm hd hi
  obtain ⟨f1, hf, rfl⟩ := enumD_at hi
  obtain ⟨fo, hfo, rfl⟩ := Option.map_eq_some_iff.mp (by rw [List.getElem?_map] at hf; exact hf)
  have hil : i < (t.offs.map dOff).length := (List.getElem?_eq_some_iff.mp hf).1
  refine gx_tup rfl (gxs_cons (gx_name (i := 1) (gxs_cons (gx_name (i := 2) (gxs_nil ⟨rfl, ts_nil ⟨rfl, fun _ => ?_, nofun⟩⟩) S.nd)) S.nd))
  refine axk_next (k := 1) rfl rfl rfl rfl (Fewer.set rfl (Fewer.set rfl (Fewer.refl _))) fun D2 c2 hm2 hd2 => ?_
  refine ix_tup (ex_slice sl_tup (ex_offs (i := 0) c rfl ?_))
  refine ex_add (ex_var (i := 1) rfl (ex_int ⟨_, _, rfl, rfl, _, rfl, sl_T ?_ ?_⟩))
  · rw [show ((i : Int) + 1) = ((i + 1 : Nat) : Int) by omega, HT.sIx_nat]
    omega
  rw [cut_from hil]
  refine ⟨_, rfl, rfl, fun _ => trivial, fun l => prs (tups (dOff fo)) (tups l), ?_, ?_⟩
  · show ((t.offs.map dOff).drop ((i : Int).toNat + 1)).flatMap _ = _
    rw [Int.toNat_natCast]
  intro j d3 D3 c3 hm3 hd3 hj
  obtain ⟨lo, hlo, rfl⟩ : ∃ lo, t.offs[i + 1 + j]? = some lo ∧ d3 = dOff lo := by
    rw [List.getElem?_drop, List.getElem?_map] at hj
    obtain ⟨lo, a, b⟩ := Option.map_eq_some_iff.mp hj
    exact ⟨lo, a, b.symm⟩
  refine gx_name (i := 3) ⟨rfl, ts_nil ⟨rfl, fun _ => ?_, nofun⟩⟩ S.nd
  refine axk_next (k := 2) rfl rfl rfl rfl (Fewer.set rfl (Fewer.refl _)) fun D4 c4 hm4 hd4 => ?_
  refine ix_tup (ex_var (i := 2) rfl ⟨_, rfl, rfl, fun _ => trivial, fun one => (tups (dOff lo)).map fun other => .tup [one, other], rfl, ?_⟩)
  intro j5 d5 D5 c5 hm5 hd5 hj5
  refine gx_name (i := 4) ⟨rfl, ts_nil ⟨rfl, fun _ => ?_, nofun⟩⟩ S.nd
  refine axk_last (k := 3) rfl rfl rfl rfl (Fewer.set rfl (Fewer.refl _)) fun D6 c6 hm6 hd6 => ?_
  refine ix_tup (ex_var (i := 3) rfl ⟨_, rfl, rfl, fun _ => trivial, fun other => [.tup [d5, other]], flat_map.symm, ?_⟩)
  intro j7 d7 D7 c7 hm7 hd7 hj7
  refine gx_name (i := 5) ⟨rfl, ts_nil ⟨rfl, fun _ => ?_, nofun⟩⟩ S.nd
  refine axk_elt rfl (Fewer.set rfl (Fewer.refl _)) fun D8 c8 hm8 hd8 => ?_
  exact ex_tup (ea_cons (ex_var (i := 4) rfl (ea_cons (ex_var (i := 5) rfl (ea_nil ⟨(by show 2 ≤ 1000000; decide), rfl, rfl⟩)))))
end
end K76

set_option Elab.async false
set_option linter.all false
set_option autoImplicit false
set_option maxRecDepth 100000
set_option maxHeartbeats 2000000
/-! k76, part G: have_clash; the checks of states, offices; the tables of operations. -/
namespace K76
open PySem PySem.Spec L2 PD
open PyProof.Rows hiding St
/-! back from data -/
def unI : D → Nat
  | .int i => i.toNat
  | _ => 0
def unZ : D → Int
  | .int i => i
  | _ => 0
def unOp : D → Op
  | .tup [.str n, .tup es, .tup as] => ⟨n, es.map unI, as.map unZ⟩
  | _ => ⟨"", [], []⟩
theorem unI_d (n : Nat) : unI (dI n) = n := by show ((n : Int)).toNat = n; omega
theorem map_id' {α β : Type} (f : α → β) (g : β → α) (h : ∀ x, g (f x) = x) (xs : List α) : (xs.map f).map g = xs := by
  rw [List.map_map]
  induction xs with
  | nil => rfl
  | cons x xs ih => rw [List.map_cons, ih]; show g (f x) :: xs = _; rw [h]
theorem unOp_d (o : Op) : unOp (dOp o) = o := by
  obtain ⟨n, es, as⟩ := o
  show Op.mk n ((es.map dI).map unI) ((as.map D.int).map unZ) = _
  rw [map_id' dI unI unI_d, map_id' D.int unZ fun _ => rfl]
theorem sing_len {α β : Type} (f : α → β) (l : List α) : (l.flatMap fun x => [f x]).length = l.length := by
  induction l with
  | nil => rfl
  | cons x l ih => rw [List.flatMap_cons, List.length_append, ih]; show 1 + l.length = l.length + 1; omega
def unOff : D → List Op
  | .tup ds => ds.map unOp
  | _ => []
theorem unOff_d (f : List Op) : unOff (dOff f) = f := map_id' dOp unOp unOp_d f
section
variable {P : Program} {w : World} {K : PySem.W.Frag} {mg : Str → Option Value} {base : Heap}
/-- some pair clashes -/
def haveClash (s : Sto) : Bool := (pairs s.offs).any fun p => clash s.size p.1 p.2
def P_bool (C : Addr) (f : Sto → Bool) : DP := fun ds O R _ => ∃ s : Sto, ds = [dSto C s] ∧ s.Ok ∧ R (.bl (f s)) O
theorem Sto.Ok.op' {s : Sto} (h : s.Ok) {o : Op} (ho : o ∈ s.offs.flatten) : o.Ok s.size := by
  obtain ⟨f, hf, h1⟩ := List.mem_flatten.mp ho
  exact h.op f hf o h1
theorem ok_have_clash {C : Addr} (F : Df K mg "have_clash" (top 26) [] []) (B : Bare mg) (I1 : Ok P w K mg base 2 "pairs_across" (top 20) [] [] ["store"] (P_pairs C)) (I2 : Ok P w K mg base 4 "clash_anywhere" (top 25) [] [] ["one", "other"] P_clash_any) : Ok P w K mg base 5 "have_clash" (top 26) [] [] ["store"] (P_bool C haveClash) := by
  have S : FnScope ["store", "one", "other"] ["store"] (defScope (top 26)) := ⟨rfl, rfl, rfl, by decide +kernel, rfl, by decide +kernel, by decide +kernel⟩
  refine fn_mkD F S (fun ds O R Xr ⟨s, h, _⟩ => (by rw [h]; rfl)) fun f cdv A outer s H E hr Z ds O R Xr ⟨t, h1, ht, h4⟩ tk => ?_
  subst h1
  have h1600 : (pairs t.offs).length ≤ 1600 := Nat.le_trans (pairs_len t.offs) (Nat.mul_le_mul ht.few ht.few)
  refine sx_one (s1_ret (ex_any rfl B (ex_lc (own := [("one", 1), ("other", 2)]) rfl S.nd (blkOk_by (by kernel_rfl)) (ix_lst (ex_fn I1 (by decide) hr (fun _ _ _ _ _ _ us hl => match us, hl with | [_], _ => rfl) tkd0 (ea_cons (ex_var (i := 0) rfl (ea_nil ⟨t, rfl, ht, _, .inl (.inl rfl), fun _ _ _ _ => .inl (.inl rfl), fun d => match d with | .tup [a, b] => [.bl (clash t.size (unOp a) (unOp b))] | _ => [], ?_, fun s2 H2 C2 cl2 fp2 => ?_, ?_⟩))))))))
  · rw [List.flatMap_map]
    show ((pairs t.offs).flatMap fun p => [D.bl (clash t.size (unOp (dOp p.1)) (unOp (dOp p.2)))]).length ≤ _
    rw [sing_len]
    omega
  · intro i d L c hm hd hi
    obtain ⟨p, hp, rfl⟩ := Option.map_eq_some_iff.mp (by rw [List.getElem?_map] at hi; exact hi)
    obtain ⟨m1, m2⟩ := pairs_mem (List.mem_of_getElem? hp)
    refine gx_tup rfl (gxs_cons (gx_name (i := 1) (gxs_cons (gx_name (i := 2) (gxs_nil ⟨rfl, Fewer.set rfl (Fewer.set rfl (Fewer.refl _)), ts_nil ⟨rfl, fun _ L2 c2 hm2 hd2 => ?_, nofun⟩⟩) S.nd)) S.nd))
    refine ex_fn I2 (by decide) hr (fun _ _ _ _ _ _ us hl => match us, hl with | [_, _], _ => rfl) tkd0 (ea_cons (ex_var (i := 1) rfl (ea_cons (ex_var (i := 2) rfl (ea_nil ⟨t.size, p.1, p.2, rfl, by have := ht.n2; omega, ht.op' m1, ht.op' m2, rfl, ?_⟩)))))
    show [D.bl (clash t.size (unOp (dOp p.1)) (unOp (dOp p.2)))] = _
    rw [unOp_d, unOp_d]
  · refine ⟨(pairs t.offs).map fun p => clash t.size p.1 p.2, .inl ?_, ?_⟩
    · rw [List.flatMap_map, List.map_map]
      show D.lst ((pairs t.offs).flatMap fun p => [D.bl (clash t.size (unOp (dOp p.1)) (unOp (dOp p.2)))]) = _
      congr 1
      generalize pairs t.offs = l
      induction l with
      | nil => rfl
      | cons p l ih => rw [List.flatMap_cons, ih, unOp_d, unOp_d]; rfl
    · rw [List.any_map]
      exact h4
/-! the checks that never refuse here -/
def P_check_state (C : Addr) : DP := fun ds O R _ => ∃ (s : Sto) (i : Nat), ds = [dSto C s, dI i] ∧ i < s.size ∧ R .non O
theorem isB_nat {i n : Nat} (h : i < n) : isB (n : Int) (dI i) = true := isB_yes (by omega) (by omega)
theorem ok_check_state {C : Addr} (F : Df K mg "check_state" (top 28) [] []) (c : StC K C) (I : Ok P w K mg base 4 "is_below" (top 12) [] [] ["value", "bound"] P_is_below) : Ok P w K mg base 5 "check_state" (top 28) [] [] ["store", "value"] (P_check_state C) := by
  have S : FnScope ["store", "value"] ["store", "value"] (defScope (top 28)) := ⟨rfl, rfl, rfl, by decide +kernel, rfl, by decide +kernel, by decide +kernel⟩
  refine fn_mkD F S (fun ds O R Xr ⟨s, i, h, _⟩ => (by rw [h]; rfl)) fun f cdv A outer s H E hr Z ds O R Xr ⟨t, i, h1, hi, h4⟩ tk => ?_
  subst h1
  refine sx_one (s1_if (et_not (et_ex ?_)))
  refine ex_fn I (by decide) hr (fun _ _ _ _ _ _ us hl => match us, hl with | [_, _], _ => rfl) tkd0 (ea_cons (ex_var (i := 1) rfl (ea_cons (ex_size (i := 0) c rfl (ea_nil ⟨_, _, rfl, ty_int, _, rfl, ?_⟩)))))
  rw [isB_nat hi]
  exact ⟨nofun, fun _ => sx_nil h4⟩
def P_need_office (C : Addr) : DP := fun ds O R _ => ∃ (s : Sto) (i : Nat), ds = [dSto C s, dI i] ∧ i < s.offs.length ∧ R .non O
theorem ok_need_office {C : Addr} (F : Df K mg "need_office" (top 29) [] []) (B : Bare mg) (c : StC K C) (I : Ok P w K mg base 4 "is_below" (top 12) [] [] ["value", "bound"] P_is_below) : Ok P w K mg base 5 "need_office" (top 29) [] [] ["store", "office"] (P_need_office C) := by
  have S : FnScope ["store", "office"] ["store", "office"] (defScope (top 29)) := ⟨rfl, rfl, rfl, by decide +kernel, rfl, by decide +kernel, by decide +kernel⟩
  refine fn_mkD F S (fun ds O R Xr ⟨s, i, h, _⟩ => (by rw [h]; rfl)) fun f cdv A outer s H E hr Z ds O R Xr ⟨t, i, h1, hi, h4⟩ tk => ?_
  subst h1
  refine sx_one (s1_if (et_not (et_ex ?_)))
  refine ex_fn I (by decide) hr (fun _ _ _ _ _ _ us hl => match us, hl with | [_, _], _ => rfl) tkd0 (ea_cons (ex_var (i := 1) rfl (ea_cons (ex_len B (ex_offs (i := 0) c rfl ⟨_, .inr (.inl rfl), ea_nil ⟨_, _, rfl, ty_int, _, rfl, ?_⟩⟩)))))
  rw [List.length_map, isB_nat hi]
  exact ⟨nofun, fun _ => sx_nil h4⟩
/-- the offices that are asked: none said, or a listing -/
def dOs : Option (List Nat) → D
  | none => .non
  | some ns => .tup (ns.map dI)
def askD (s : Sto) : Option (List Nat) → List Nat
  | none => List.range s.offs.length
  | some ns => ns
structure AskOk (s : Sto) (q : Option (List Nat)) : Prop where
  b : ∀ ns, q = some ns → (∀ n ∈ ns, n < s.offs.length) ∧ ns.Pairwise (· < ·)
def P_need_offices (C : Addr) : DP := fun ds O R _ => ∃ (s : Sto) (q : Option (List Nat)), ds = [dSto C s, dOs q] ∧ s.Ok ∧ AskOk s q ∧ R (.tup ((askD s q).map dI)) O
theorem dI_int (ns : List Nat) : ns.map dI = (ns.map fun n : Nat => (n : Int)).map D.int := by rw [List.map_map]; rfl
theorem range_dI (n : Nat) : rangeD 0 n = (List.range n).map dI := by
  unfold rangeD
  refine List.map_congr_left fun i _ => ?_
  show D.int _ = D.int _
  congr 1
  omega
theorem rise_from {b : Nat} : ∀ (ns : List Nat) (k : Nat), (∀ n ∈ ns, k ≤ n ∧ n < b) → ns.Pairwise (· < ·) → ns.length + k ≤ b ∨ ns = []
  | [], _, _, _ => .inr rfl
  | n :: ns, k, h, p => by
    obtain ⟨p1, p2⟩ := List.pairwise_cons.mp p
    obtain ⟨h1, h2⟩ := h n List.mem_cons_self
    rcases rise_from ns (n + 1) (fun m hm => ⟨p1 m hm, (h m (List.mem_cons_of_mem _ hm)).2⟩) p2 with z | z
    · left; rw [List.length_cons]; omega
    · left; subst z; simp; omega
theorem rise_len {ns : List Nat} {b : Nat} (h1 : ∀ n ∈ ns, n < b) (h2 : ns.Pairwise (· < ·)) : ns.length ≤ b := by
  rcases rise_from ns 0 (fun n hn => ⟨Nat.zero_le _, h1 n hn⟩) h2 with z | z
  · omega
  · subst z; exact Nat.zero_le _
theorem ok_need_offices {C : Addr} (F : Df K mg "need_offices" (top 30) [] []) (B : Bare mg) (c : StC K C) (I : Ok P w K mg base 5 "is_listing" (top 16) [] [] ["value", "bound"] P_is_listing) : Ok P w K mg base 6 "need_offices" (top 30) [] [] ["store", "offices"] (P_need_offices C) := by
  have S : FnScope ["store", "offices"] ["store", "offices"] (defScope (top 30)) := ⟨rfl, rfl, rfl, by decide +kernel, rfl, by decide +kernel, by decide +kernel⟩
  refine fn_mkD F S (fun ds O R Xr ⟨s, i, h, _⟩ => (by rw [h]; rfl)) fun f cdv A outer s H E hr Z ds O R Xr ⟨t, q, h1, ht, hq, h4⟩ tk => ?_
  subst h1
  refine sx_cons (s1_if (et_isN (ex_var (i := 1) rfl fun k hk => ⟨fun z => ?_, fun z => sx_nil ?_⟩)))
  · subst z
    cases q with
    | some ns => cases hk
    | none =>
      refine sx_one (s1_ret (ex_tupRg rfl (B _ (by decide)) (B _ (by decide)) (ex_len B (ex_offs (i := 0) c rfl ⟨_, .inr (.inl rfl), _, rfl, by omega, by rw [List.length_map]; have := ht.o2; omega, ?_⟩))))
      rw [List.length_map, Int.toNat_natCast, range_dI]
      exact h4
  · subst z
    cases q with
    | none => cases hk
    | some ns =>
      obtain ⟨b1, b2⟩ := hq.b ns rfl
      refine sx_cons (s1_if (et_not (et_ex ?_)))
      refine ex_fn I (by decide) hr (fun _ _ _ _ _ _ us hl => match us, hl with | [_, _], _ => rfl) tkd0 (ea_cons (ex_var (i := 1) rfl (ea_cons (ex_len B (ex_offs (i := 0) c rfl ⟨_, .inr (.inl rfl), ea_nil ⟨ns.map fun n : Nat => (n : Int), (t.offs.length : Int), ?_, ?_, ?_, ?_, _, rfl, nofun, fun _ => sx_nil (sx_one (s1_ret (ex_var (i := 1) rfl h4)))⟩⟩)))))
      · rw [← dI_int, List.length_map]; rfl
      · rw [List.length_map]
        have := rise_len b1 b2
        have := ht.o2
        omega
      · intro n hn
        obtain ⟨m, hm, rfl⟩ := List.mem_map.mp hn
        have := b1 m hm
        omega
      · rw [List.pairwise_map]
        exact b2.imp fun h => by omega
end
end K76

set_option Elab.async false
set_option linter.all false
set_option autoImplicit false
set_option maxRecDepth 100000
set_option maxHeartbeats 2000000
/-! k76, part H: the tables of operations. -/
namespace K76
open PySem PySem.Spec L2 PD
open PyProof.Rows hiding St
section
variable {P : Program} {w : World} {K : PySem.W.Frag} {mg : Str → Option Value} {base : Heap}
/-- an operation by its name -/
def kvOp (o : Op) : Key × D := (.inr o.name, dOp o)
def P_op_table (C : Addr) : DP := fun ds O R _ => ∃ s : Sto, ds = [dSto C s] ∧ s.Ok ∧ ∀ p, p ∉ O.map (·.1) → R (.raw (.ref p)) ((p, .dct (s.ops.map kvOp)) :: O)
theorem dput_new {kvs : List (Key × D)} {k : Key} {d : D} (h : k ∉ kvs.map (·.1)) : dput kvs k d = kvs ++ [(k, d)] := by
  unfold dput
  rw [if_neg]
  intro z
  rw [List.any_eq_true] at z
  obtain ⟨q, hq, e⟩ := z
  exact h (List.mem_map.mpr ⟨q, hq, by simpa using e⟩)
theorem dputs_from (es : List (Key × D)) : ∀ (kvs : List (Key × D)), (kvs ++ es).map (·.1) |>.Nodup → es.foldl (fun a e => dput a e.1 e.2) kvs = kvs ++ es := by
  induction es with
  | nil => intro kvs _; simp
  | cons e es ih =>
    intro kvs nd
    rw [List.foldl_cons, dput_new, ih (kvs ++ [(e.1, e.2)]) (by simpa using nd)]
    · simp
    · intro hm
      rw [List.map_append, List.map_cons, List.nodup_append] at nd
      exact nd.2.2 _ hm _ List.mem_cons_self rfl
theorem dputs_nodup {es : List (Key × D)} (h : (es.map (·.1)).Nodup) : dputs es = es := by
  have := dputs_from es [] (by simpa using h)
  rw [List.nil_append] at this
  exact this
theorem ops_dputs {s : Sto} (h : s.Ok) : dputs (s.ops.map kvOp) = s.ops.map kvOp := by
  apply dputs_nodup
  rw [List.map_map]
  have := h.nd
  have e : (s.ops.map ((fun x => x.1) ∘ kvOp)) = (s.ops.map Op.name).map (Sum.inr : Str → Key) := by rw [List.map_map]; rfl
  rw [e]
  rw [List.Nodup, List.pairwise_map]
  exact this.imp fun h e => h (Sum.inr.inj e)
theorem ok_operation_table {C : Addr} (F : Df K mg "operation_table" (top 31) [] []) (c : StC K C) : Ok P w K mg base 2 "operation_table" (top 31) [] [] ["store"] (P_op_table C) := by
  have S : FnScope ["store", "office", "operation"] ["store"] (defScope (top 31)) := ⟨rfl, rfl, rfl, by decide +kernel, rfl, by decide +kernel, by decide +kernel⟩
  refine fn_mkD F S (fun ds O R Xr ⟨s, h, _⟩ => (by rw [h]; rfl)) fun f cdv A outer s H E hr Z ds O R Xr ⟨t, h1, ht, h4⟩ tk => ?_
  subst h1
  have e0 : (t.offs.map dOff).flatMap (fun f => (unOff f).map kvOp) = t.ops.map kvOp := by
    rw [List.flatMap_map]
    unfold Sto.ops
    rw [List.map_flatten]
    rw [List.flatMap_def]
    congr 1
    refine List.map_congr_left fun f _ => ?_
    show (unOff (dOff f)).map kvOp = _
    rw [unOff_d]
  refine sx_one (s1_ret (ex_dcO2 (own := [("office", 1), ("operation", 2)]) rfl S.nd (blkOk_by (by kernel_rfl)) (ix_tup (ex_offs (i := 0) c rfl ⟨_, rfl, fun _ _ _ _ => trivial, fun f => (unOff f).map kvOp, ?_, fun s2 H2 C2 cl2 fp2 => ?_, fun p hp hd => ?_⟩))))
  · rw [e0, List.length_map]; have := ht.few; omega
  · intro i d L c1 hm hd hi
    obtain ⟨f1, hf, rfl⟩ := Option.map_eq_some_iff.mp (by rw [List.getElem?_map] at hi; exact hi)
    refine gx_name (i := 1) ⟨rfl, ts_nil ⟨rfl, fun _ => ?_, nofun⟩⟩ S.nd
    refine axk_lastD (k := 1) rfl rfl rfl rfl (Fewer.set rfl (Fewer.refl _)) fun D2 c2 hm2 hd2 => ?_
    refine ix_tup (ex_var (i := 1) rfl ⟨_, rfl, rfl, fun _ => trivial, fun o => [kvOp (unOp o)], ?_, ?_⟩)
    · show (unOff (dOff f1)).map kvOp = _
      rw [unOff_d, List.flatMap_map]
      have : ∀ l : List Op, l.map kvOp = l.flatMap fun o => [kvOp (unOp (dOp o))] := fun l => by
        induction l with
        | nil => rfl
        | cons o l ih => rw [List.map_cons, ih, List.flatMap_cons, unOp_d]; rfl
      exact this f1
    · intro j d3 D3 c3 hm3 hd3 hj
      obtain ⟨o, ho, rfl⟩ := Option.map_eq_some_iff.mp (by rw [List.getElem?_map] at hj; exact hj)
      refine gx_name (i := 2) ⟨rfl, ts_nil ⟨rfl, fun _ => ?_, nofun⟩⟩ S.nd
      refine axk_put rfl (Fewer.set rfl (Fewer.refl _)) fun D4 c4 hm4 hd4 => ?_
      refine ex_idx (ex_var (i := 2) rfl (ex_int ⟨_, 0, _, .inr (.inl rfl), rfl, (by rfl : atI _ (0 : Int) = some (.str o.name)), ?_⟩))
      refine ex_var (i := 2) rfl ⟨rfl, .inr o.name, rfl, ?_⟩
      show [kvOp (unOp (dOp o))] = _
      rw [unOp_d]
      rfl
  · rw [e0, ops_dputs ht]
    exact h4 p hd
/-- the operations of some offices -/
def opsOf (s : Sto) (ns : List Nat) : List Op := ns.flatMap fun n => s.offs.getD n []
def P_operations_of (C : Addr) : DP := fun ds O R _ => ∃ (s : Sto) (ns : List Nat), ds = [dSto C s, .tup (ns.map dI)] ∧ s.Ok ∧ (∀ n ∈ ns, n < s.offs.length) ∧ (opsOf s ns).length ≤ 1000 ∧ ∀ os : List Op, os.Perm (opsOf s ns) → R (.tup (os.map dOp)) O
theorem perm_ops {es : List D} {os : List Op} (h : es.Perm (os.map dOp)) : ∃ os' : List Op, os'.Perm os ∧ es = os'.map dOp := by
  refine ⟨es.map unOp, ?_, ?_⟩
  · have := h.map unOp
    rwa [map_id' dOp unOp unOp_d] at this
  · rw [List.map_map]
    have : ∀ e ∈ es, dOp (unOp e) = e := fun e he => by
      obtain ⟨o, _, rfl⟩ := List.mem_map.mp (h.mem_iff.mp he)
      rw [unOp_d]
    have e2 : es.map (dOp ∘ unOp) = es.map id := List.map_congr_left fun e he => this e he
    rw [e2, List.map_id]
def pyOp (o : Op) : PyData := .tuple [.str o.name, .tuple ((o.ends.map fun n : Nat => (n : Int)).map .int), .tuple (o.ans.map .int)]
theorem py_op (o : Op) : (dOp o).py = some (pyOp o) := by
  unfold dOp pyOp
  rw [dI_int]
  simp only [D.py, D.pys, pys_ints, Option.map_some, Option.bind_some]
theorem pys_ops (os : List Op) : D.pys (os.map dOp) = some (os.map pyOp) := by
  induction os with
  | nil => rfl
  | cons o os ih => simp only [List.map_cons, D.pys, py_op, ih, Option.bind_some, Option.map_some]
theorem alike_ops (a b : Op) : PySem.W.alike (pyOp a) (pyOp b) = true := by
  unfold pyOp
  simp only [PySem.W.alike, PySem.W.alikeAll, PySem.W.alike_ints, Bool.and_self]
theorem depth_op (o : Op) : (pyOp o).depth = 2 := by
  unfold pyOp
  simp only [PyData.depth, PyData.depthAll, dep_ints]
  rfl
theorem off_at {s : Sto} {n : Nat} (h : n < s.offs.length) : atI (s.offs.map dOff) (n : Int) = some (dOff (s.offs.getD n [])) := by
  apply PD.atI_nat
  rw [List.getElem?_map, List.getD_eq_getElem?_getD, List.getElem?_eq_getElem h]
  rfl
theorem ok_operations_of {C : Addr} (F : Df K mg "operations_of" (top 32) [] []) (B : Bare mg) (c : StC K C) : Ok P w K mg base 2 "operations_of" (top 32) [] [] ["store", "offices"] (P_operations_of C) := by
  have S : FnScope ["store", "offices", "office", "operation"] ["store", "offices"] (defScope (top 32)) := ⟨rfl, rfl, rfl, by decide +kernel, rfl, by decide +kernel, by decide +kernel⟩
  refine fn_mkD F S (fun ds O R Xr ⟨s, ns, h, _⟩ => (by rw [h]; rfl)) fun f cdv A outer s H E hr Z ds O R Xr ⟨t, ns, h1, ht, hn, hl, h4⟩ tk => ?_
  subst h1
  have e0 : (ns.map dI).flatMap (fun d => (t.offs.getD (unI d) []).map dOp) = (opsOf t ns).map dOp := by
    unfold opsOf
    rw [List.flatMap_map, List.map_flatMap]
    refine flat_congr fun n _ => ?_
    rw [unI_d]
  refine sx_one (s1_ret (ex_tuple B (ex_sortD B (ex_lcN (own := [("office", 2), ("operation", 3)]) rfl S.nd (blkOk_by (by kernel_rfl)) (ix_tup (ex_var (i := 1) rfl ⟨_, rfl, fun _ _ _ _ => trivial, fun d => (t.offs.getD (unI d) []).map dOp, ?_, fun s2 H2 C2 cl2 fp2 => ?_, ?_⟩))))))
  · rw [e0, List.length_map]; omega
  · intro i d L c1 hm hd hi
    obtain ⟨n, hn1, rfl⟩ := Option.map_eq_some_iff.mp (by rw [List.getElem?_map] at hi; exact hi)
    have hnb := hn n (List.mem_of_getElem? hn1)
    refine gx_name (i := 2) ⟨rfl, ts_nil ⟨rfl, fun _ => ?_, nofun⟩⟩ S.nd
    refine axk_last (k := 1) rfl rfl rfl rfl (Fewer.set rfl (Fewer.refl _)) fun D2 c2 hm2 hd2 => ?_
    refine ix_tup (ex_idx (ex_offs (i := 0) c rfl (ex_var (i := 2) rfl ⟨_, (n : Int), _, .inr (.inl rfl), rfl, off_at hnb, _, rfl, rfl, fun _ => trivial, fun o => [o], ?_, ?_⟩)))
    · show (t.offs.getD (unI (dI n)) []).map dOp = _
      rw [unI_d]
      have : ∀ l : List D, l = l.flatMap fun o => [o] := fun l => by
        induction l with
        | nil => rfl
        | cons o l ih => rw [List.flatMap_cons, ← ih]; rfl
      exact this _
    · intro j d3 D3 c3 hm3 hd3 hj
      refine gx_name (i := 3) ⟨rfl, ts_nil ⟨rfl, fun _ => ?_, nofun⟩⟩ S.nd
      exact axk_elt rfl (Fewer.set rfl (Fewer.refl _)) fun D4 c4 hm4 hd4 => ex_var (i := 3) rfl ⟨rfl, rfl⟩
  · rw [e0]
    refine ⟨_, (opsOf t ns).map pyOp, .inl rfl, pys_ops _, PySem.W.AllAlike.of alike_ops, PySem.W.Sortable.tuples (fun o => ⟨_, _, rfl⟩), fun p hp => ?_, fun es he => ⟨es, .inl rfl, ?_⟩⟩
    · obtain ⟨o, _, rfl⟩ := List.mem_map.mp hp
      rw [depth_op]
      have := hr.units
      omega
    · obtain ⟨os, ho, rfl⟩ := perm_ops he
      exact h4 os ho
end
end K76

set_option Elab.async false
set_option linter.all false
set_option autoImplicit false
set_option maxRecDepth 100000
set_option maxHeartbeats 2000000
/-! k76, part I: distances, reachable. -/
namespace K76
open PySem PySem.Spec L2 PD
open PyProof.Rows hiding St
/-- the states to which runs of some operations lead -/
inductive Rch (os : List Op) (i : Nat) : Nat → Prop
  | here : Rch os i i
  | go {j : Nat} {o : Op} : Rch os i j → o ∈ os → Rch os i (o.E j)
theorem Rch.trans {os : List Op} {i j k : Nat} (a : Rch os i j) (b : Rch os j k) : Rch os i k := by
  induction b with
  | here => exact a
  | go _ ho ih => exact .go ih ho
theorem Rch.mono {os os' : List Op} (h : ∀ o ∈ os, o ∈ os') {i j : Nat} (a : Rch os i j) : Rch os' i j := by
  induction a with
  | here => exact .here
  | go _ ho ih => exact .go ih (h _ ho)
theorem Rch.lt {os : List Op} {n : Nat} (h : ∀ o ∈ os, o.Ok n) {i j : Nat} (a : Rch os i j) (hi : i < n) : j < n := by
  induction a with
  | here => exact hi
  | go _ ho ih => exact (h _ ho).lt ih
/-! lists of numbers -/
theorem nd_lt : ∀ {n : Nat} {l : List Nat}, l.Nodup → (∀ x ∈ l, x < n) → l.length ≤ n
  | 0, l, _, h => by
    cases l with
    | nil => exact Nat.le_refl _
    | cons x l => exact absurd (h x List.mem_cons_self) (Nat.not_lt_zero _)
  | n + 1, l, nd, h => by
    have h1 := nd_lt (n := n) (l := l.erase n) (nd.erase n) fun x hx => by
      have := (List.Nodup.mem_erase_iff nd).mp hx
      have := h x this.2
      omega
    rw [List.length_erase] at h1
    split at h1 <;> omega
/-! the two owned things -/
def kvF (p : Nat × Int) : Key × D := (.inl (p.1 : Int), .int p.2)
def dq (L : List (Nat × Int)) : List D := L.map fun p => dI p.1
def keys (L : List (Nat × Int)) : List Nat := L.map (·.1)
def ownB (pf pq : Addr) (L : List (Nat × Int)) (O : Own) : Own := (pq, .lst (dq L)) :: (pf, .dct (L.map kvF)) :: O
theorem dval_F (e : Nat) : ∀ L : List (Nat × Int), (dval (L.map kvF) (.inl (e : Int)) = none ∧ e ∉ keys L) ∨ ∃ z, dval (L.map kvF) (.inl (e : Int)) = some (.int z) ∧ e ∈ keys L
  | [] => .inl ⟨rfl, by simp [keys]⟩
  | p :: L => by
    by_cases z : p.1 = e
    · exact .inr ⟨p.2, by simp [dval, kvF, z], by simp [keys, z]⟩
    · have e1 : dval ((p :: L).map kvF) (.inl (e : Int)) = dval (L.map kvF) (.inl (e : Int)) := by
        unfold dval
        rw [List.map_cons, List.find?_cons_of_neg]
        show ¬ decide ((Sum.inl (p.1 : Int) : Key) = .inl (e : Int)) = true
        intro hd
        have h1 : (p.1 : Int) = (e : Int) := Sum.inl.inj (of_decide_eq_true hd)
        exact z (by omega)
      rw [e1]
      rcases dval_F e L with ⟨a, b⟩ | ⟨y, a, b⟩
      · exact .inl ⟨a, by simp only [keys, List.map_cons, List.mem_cons]; rintro (h | h); exact z h.symm; exact b h⟩
      · exact .inr ⟨y, a, by simp only [keys, List.map_cons, List.mem_cons]; exact .inr b⟩
theorem dput_F {L : List (Nat × Int)} {e : Nat} {z : Int} (h : e ∉ keys L) : dput (L.map kvF) (.inl (e : Int)) (.int z) = (L ++ [(e, z)]).map kvF := by
  rw [dput_new]
  · rw [List.map_append]; rfl
  · intro hm
    rw [List.map_map] at hm
    obtain ⟨p, hp, e1⟩ := List.mem_map.mp hm
    have e2 : (Sum.inl (p.1 : Int) : Key) = .inl (e : Int) := e1
    have e3 : (p.1 : Int) = (e : Int) := Sum.inl.inj e2
    exact h (List.mem_map.mpr ⟨p, hp, by omega⟩)
theorem look_2 {p q : Addr} {a c : OC} {O : Own} (h : p ≠ q) : ((q, a) :: (p, c) :: O : Own).lookup p = some c := by
  rw [List.lookup_cons, beq_false_of_ne h]
  exact look_hd
theorem setO_2 {p q : Addr} {a c c' : OC} {O : Own} (h : p ≠ q) (hO : p ∉ O.map (·.1)) : setO ((q, a) :: (p, c) :: O) p c' = (q, a) :: (p, c') :: O := by
  have := setO_hd (p := p) (c := c) (c' := c') hO
  unfold setO at this ⊢
  rw [List.map_cons, this]
  congr 1
  rw [if_neg]
  exact fun z => h z.symm
/-- how far the search is -/
structure BF (n : Nat) (os : List Op) (i : Nat) (L : List (Nat × Int)) (k : Nat) : Prop where
  nd : (keys L).Nodup
  lt : ∀ x ∈ keys L, x < n
  st : i ∈ keys L
  rc : ∀ x ∈ keys L, Rch os i x
  cl : ∀ j, j < k → ∀ x, (keys L)[j]? = some x → ∀ o ∈ os, o.E x ∈ keys L
  le : k ≤ L.length
theorem BF.len {n : Nat} {os : List Op} {i : Nat} {L : List (Nat × Int)} {k : Nat} (h : BF n os i L k) : L.length ≤ n := by
  have := nd_lt h.nd h.lt
  rwa [keys, List.length_map] at this
theorem BF.all {n : Nat} {os : List Op} {i : Nat} {L : List (Nat × Int)} {k : Nat} (h : BF n os i L k) (e : k = L.length) (x : Nat) : x ∈ keys L ↔ Rch os i x := by
  refine ⟨h.rc x, fun r => ?_⟩
  induction r with
  | here => exact h.st
  | go r ho ih =>
    obtain ⟨j, hj, ej⟩ := List.mem_iff_getElem.mp ih
    have hj' : j < k := by rw [e]; simpa [keys] using hj
    exact h.cl j hj' _ (by rw [List.getElem?_eq_getElem hj, ej]) _ ho
theorem BF.push {n : Nat} {os : List Op} {i : Nat} {L : List (Nat × Int)} {k : Nat} (h : BF n os i L k) {e : Nat} {z : Int} (h1 : e ∉ keys L) (h2 : e < n) (h3 : Rch os i e) : BF n os i (L ++ [(e, z)]) k := by
  have ek : keys (L ++ [(e, z)]) = keys L ++ [e] := by simp [keys]
  have lk : (keys L).length = L.length := by simp [keys]
  refine ⟨?_, ?_, ?_, ?_, ?_, ?_⟩
  · rw [ek, List.nodup_append]
    refine ⟨h.nd, by simp, fun a ha b hb => ?_⟩
    have : b = e := by simpa using hb
    subst this
    exact fun z => h1 (z ▸ ha)
  · rw [ek]; intro x hx
    rcases List.mem_append.mp hx with hx | hx
    · exact h.lt x hx
    · have : x = e := by simpa using hx
      omega
  · rw [ek]; exact List.mem_append_left _ h.st
  · rw [ek]; intro x hx
    rcases List.mem_append.mp hx with hx | hx
    · exact h.rc x hx
    · have : x = e := by simpa using hx
      rw [this]; exact h3
  · rw [ek]; intro j hj x hx o ho
    have : j < (keys L).length := by have := h.le; omega
    rw [List.getElem?_append_left this] at hx
    exact List.mem_append_left _ (h.cl j hj x hx o ho)
  · have := h.le
    rw [List.length_append]
    omega
section
variable {P : Program} {w : World} {K : PySem.W.Frag} {mg : Str → Option Value} {base : Heap}
def disD (s : Sto) (q : Option (List Nat)) (i : Nat) (g : Nat → D) : Prop := ∀ j, j < s.size → (Rch (opsOf s (askD s q)) i j → ∃ z : Int, g j = .int z) ∧ (¬ Rch (opsOf s (askD s q)) i j → g j = .non)
def P_distances (C : Addr) : DP := fun ds O R _ => ∃ (s : Sto) (i : Nat) (q : Option (List Nat)), ds = [dSto C s, dI i, dOs q] ∧ s.Ok ∧ i < s.size ∧ AskOk s q ∧ ∀ g : Nat → D, disD s q i g → R (.tup ((List.range s.size).map g)) O
theorem offs_le {s : Sto} (h : s.Ok) (n : Nat) : (s.offs.getD n []).length ≤ 40 := by
  have h1 := h.few
  unfold Sto.ops at h1
  rw [List.getD_eq_getElem?_getD]
  by_cases z : n < s.offs.length
  · rw [List.getElem?_eq_getElem z]
    have := (List.sublist_flatten_of_mem (List.getElem_mem z)).length_le
    show (s.offs[n]).length ≤ 40
    omega
  · rw [List.getElem?_eq_none (by omega)]
    exact Nat.zero_le _
theorem opsOf_len {s : Sto} (h : s.Ok) : ∀ ns : List Nat, (opsOf s ns).length ≤ ns.length * 40
  | [] => Nat.zero_le _
  | n :: ns => by
    have h1 := opsOf_len h ns
    have h2 := offs_le h n
    unfold opsOf at h1 ⊢
    rw [List.flatMap_cons, List.length_append, List.length_cons, Nat.add_mul]
    omega
theorem ask_lt {s : Sto} {q : Option (List Nat)} (h : AskOk s q) : ∀ n ∈ askD s q, n < s.offs.length := by
  cases q with
  | none => intro n hn; exact List.mem_range.mp hn
  | some ns => exact (h.b ns rfl).1
theorem ask_len {s : Sto} {q : Option (List Nat)} (h : AskOk s q) : (askD s q).length ≤ s.offs.length := by
  cases q with
  | none => show (List.range _).length ≤ _; rw [List.length_range]; exact Nat.le_refl _
  | some ns => exact rise_len (h.b ns rfl).1 (h.b ns rfl).2
theorem opsOf_ok {s : Sto} (h : s.Ok) {ns : List Nat} {o : Op} (ho : o ∈ opsOf s ns) : o.Ok s.size := by
  obtain ⟨n, hn, h1⟩ := List.mem_flatMap.mp ho
  rw [List.getD_eq_getElem?_getD] at h1
  by_cases z : n < s.offs.length
  · rw [List.getElem?_eq_getElem z] at h1
    exact h.op _ (List.getElem_mem z) _ h1
  · rw [List.getElem?_eq_none (by omega)] at h1
    cases h1
theorem ok_distances {C : Addr} (F : Df K mg "distances" (top 33) [.non] []) (B : Bare mg) (c : StC K C) (I1 : Ok P w K mg base 5 "check_state" (top 28) [] [] ["store", "value"] (P_check_state C))
    (I2 : Ok P w K mg base 6 "need_offices" (top 30) [] [] ["store", "offices"] (P_need_offices C)) (I3 : Ok P w K mg base 2 "operations_of" (top 32) [] [] ["store", "offices"] (P_operations_of C)) :
    Ok P w K mg base 7 "distances" (top 33) [.non] [] ["store", "state", "offices"] (P_distances C) := by
  have S : FnScope ["store", "state", "offices", "operations", "far", "queue", "at", "here", "operation", "end", "one"] ["store", "state", "offices"] (defScope (top 33)) := ⟨rfl, rfl, rfl, by decide +kernel, rfl, by decide +kernel, by decide +kernel⟩
  refine fn_mkD F S (fun ds O R Xr ⟨s, i, q, h, _⟩ => (by rw [h]; rfl)) fun f cdv A outer s H E hr Z ds O R Xr ⟨t, i, q, h1, ht, hi, hq, h4⟩ tk => ?_
  subst h1
  have ho1000 : (opsOf t (askD t q)).length ≤ 1000 := by
    have h1 := opsOf_len ht (askD t q)
    have h2 := ask_len hq
    have h3 := ht.o2
    have : (askD t q).length * 40 ≤ 8 * 40 := Nat.mul_le_mul_right _ (by omega)
    omega
  refine sx_cons (s1_expr (ex_fn I1 (by decide) hr (fun _ _ _ _ _ _ us hl => match us, hl with | [_, _], _ => rfl) tkd0 (ea_cons (ex_var (i := 0) rfl (ea_cons (ex_var (i := 1) rfl (ea_nil ⟨t, i, rfl, hi, ?_⟩)))))))
  refine sx_cons (s1_set (i := 3) S.nd (ex_fn I3 (by decide) hr (fun _ _ _ _ _ _ us hl => match us, hl with | [_, _], _ => rfl) tkd0 (ea_cons (ex_var (i := 0) rfl (ea_cons (ex_fn I2 (by decide) hr (fun _ _ _ _ _ _ us hl => match us, hl with | [_, _], _ => rfl) tkd0 (ea_cons (ex_var (i := 0) rfl (ea_cons (ex_var (i := 2) rfl (ea_nil ⟨t, q, rfl, ht, hq, ea_nil ⟨t, askD t q, rfl, ht, ask_lt hq, ho1000, fun os hos => ?_⟩⟩)))))))))))
  have hok : ∀ o ∈ os, o.Ok t.size := fun o ho => opsOf_ok ht (hos.mem_iff.mp ho)
  refine sx_cons (s1_asg (ex_tup (ea_cons (ex_disp1 fun pf hm hd => ex_var (i := 1) rfl (ex_int ⟨.inl (i : Int), rfl, look_hd, ?_⟩))))) 
  rw [setO_hd hd]
  refine ea_cons (ex_lstO (ea_cons (ex_var (i := 1) rfl (ea_nil ⟨by show 1 ≤ 1000000; decide, fun pq hm2 hd2 => ?_⟩))))
  refine ea_cons (ex_int (ea_nil ⟨by show 3 ≤ 1000000; decide, ?_⟩))
  have hne : pf ≠ pq := fun z => hd2 (by rw [z]; exact List.mem_map.mpr ⟨_, List.mem_cons_self, rfl⟩)
  have hdq : pq ∉ O.map (·.1) := fun z => hd2 (by rw [List.map_cons]; exact List.mem_cons_of_mem _ z)
  refine gx_tup rfl (gxs_cons (gx_name (i := 4) (gxs_cons (gx_name (i := 5) (gxs_cons (gx_name (i := 6) (gxs_nil ?_) S.nd)) S.nd)) S.nd))
  let W : Nat → Slots → Own → Prop := fun m ρ' O' => ∃ (L : List (Nat × Int)) (k : Nat) (x y z : Option D), ρ' = [some (dSto C t), some (dI i), some (dOs q), some (.tup (os.map dOp)), some (.raw (.ref pf)), some (.raw (.ref pq)), some (dI k), x, y, z, none] ∧ O' = ownB pf pq L O ∧ BF t.size os i L k ∧ m = t.size - k
  refine sx_cons (s1_while (passes_of rfl) W t.size ⟨[(i, 0)], 0, none, none, none, rfl, rfl, ⟨by simp [keys], ?_, by simp [keys], ?_, nofun, Nat.zero_le _⟩, rfl⟩ ?_)
  · intro x hx
    have : x = i := by simpa [keys] using hx
    omega
  · intro x hx
    have : x = i := by simpa [keys] using hx
    rw [this]; exact .here
  rintro m ρ' O' ⟨L, k, x, y, z, rfl, rfl, bf, rfl⟩
  refine et_lt (ex_var (i := 6) rfl (ex_len B (ex_var (i := 5) rfl ⟨dq L, .inl (.ow look_hd), (k : Int), _, rfl, rfl, fun hlt => ?_, fun hge => ?_⟩)))
  · have hk : k < L.length := by
      have := of_decide_eq_true hlt
      rw [dq, List.length_map] at this
      omega
    obtain ⟨⟨here, dist⟩, hL⟩ : ∃ p, L[k]? = some p := ⟨_, List.getElem?_eq_getElem hk⟩
    have hkeys : (keys L)[k]? = some here := by rw [keys, List.getElem?_map, hL]; rfl
    have hmem : here ∈ keys L := List.mem_of_getElem? hkeys
    have hhere : here < t.size := bf.lt _ hmem
    refine sx_cons (s1_set (i := 7) S.nd (ex_idx (ex_var (i := 5) rfl (ex_var (i := 6) rfl ⟨dq L, (k : Int), dI here, .inl (.ow look_hd), rfl, PD.atI_nat (by rw [dq, List.getElem?_map, hL]; rfl), ?_⟩))))
    refine sx_cons (s1_for (passes_of rfl) rfl (ix_tup (ex_var (i := 3) rfl ⟨_, rfl, ?_⟩)))
    refine ⟨fun j ρ' O' => ∃ (L' : List (Nat × Int)) (y z : Option D), ρ' = [some (dSto C t), some (dI i), some (dOs q), some (.tup (os.map dOp)), some (.raw (.ref pf)), some (.raw (.ref pq)), some (dI k), some (dI here), y, z, none] ∧ O' = ownB pf pq L' O ∧ BF t.size os i L' k ∧ (keys L')[k]? = some here ∧ ∀ j', j' < j → ∀ o, os[j']? = some o → o.E here ∈ keys L', ⟨L, y, z, rfl, rfl, bf, hkeys, nofun⟩, fun _ _ _ _ => trivial, ?_, ?_⟩
    · rintro j d ρ' O' hj ⟨L', y, z, rfl, rfl, bf', hk', hcl⟩
      obtain ⟨o, ho, rfl⟩ := Option.map_eq_some_iff.mp (by rw [List.getElem?_map] at hj; exact hj)
      have hom := List.mem_of_getElem? ho
      have hkl : k < L'.length := by
        have := (List.getElem?_eq_some_iff.mp hk').1
        rwa [keys, List.length_map] at this
      have hin' : here ∈ keys L' := List.mem_of_getElem? hk'
      refine gx_name (i := 8) ?_ S.nd
      refine sx_cons (s1_set (i := 9) S.nd (ex_idx (ex_idx (ex_var (i := 8) rfl (ex_int ⟨_, 1, _, .inr (.inl rfl), rfl, (by rfl : atI _ (1 : Int) = some (.tup (o.ends.map dI))), ex_var (i := 7) rfl ⟨_, (here : Int), _, .inr (.inl rfl), rfl, at_ends (hok o hom) hhere, ?_⟩⟩)))))
      refine sx_one (s1_if (et_dnotin (hu_of hr) (ex_var (i := 9) rfl (ex_var (i := 4) rfl ⟨L'.map kvF, .inl (o.E here : Int), .ow (look_2 hne), rfl, fun hnew => ?_, fun hold => ?_⟩))))
      · have hn : o.E here ∉ keys L' := by
          rcases dval_F (o.E here) L' with ⟨a, b⟩ | ⟨z, a, b⟩
          · exact b
          · rw [a] at hnew; cases hnew
        obtain ⟨zz, hz⟩ : ∃ zz, dval (L'.map kvF) (.inl (here : Int)) = some (.int zz) := by
          rcases dval_F here L' with ⟨a, b⟩ | ⟨z, a, b⟩
          · exact absurd hin' b
          · exact ⟨z, a⟩
        have hlen := bf'.len
        have hs200 := ht.n2
        refine sx_cons (s1_dput (hu_of hr) (ex_add (ex_dget (hu_of hr) (ex_var (i := 4) rfl (ex_var (i := 7) rfl ⟨L'.map kvF, .inl (here : Int), _, .ow (look_2 hne), rfl, hz, ex_int ⟨zz, 1, rfl, rfl, ex_var (i := 4) rfl (ex_var (i := 9) rfl ⟨pf, L'.map kvF, .inl (o.E here : Int), rfl, look_2 hne, rfl, by rw [List.length_map]; omega, ?_⟩)⟩⟩)))))
        rw [dput_F hn, ownB, setO_2 hne hd]
        refine sx_one (s1_expr (ex_append (ex_var (i := 5) rfl ⟨pq, dq L', rfl, look_hd, ex_var (i := 9) rfl ⟨dq L', look_hd, by rw [dq, List.length_map]; omega, ?_⟩⟩)))
        rw [setO_hd (by rw [List.map_cons]; intro hx; rcases List.mem_cons.mp hx with hx | hx; exact hne hx.symm; exact hdq hx)]
        have bf2 := bf'.push (z := zz + 1) hn ((hok o hom).lt hhere) (.go (bf'.rc _ hin') hom)
        have ek : keys (L' ++ [(o.E here, zz + 1)]) = keys L' ++ [o.E here] := by simp [keys]
        refine ⟨L' ++ [(o.E here, zz + 1)], _, _, rfl, ?_, bf2, ?_, ?_⟩
        · unfold ownB dq
          rw [List.map_append (f := fun p : Nat × Int => dI p.1)]
          rfl
        · rw [ek, List.getElem?_append_left (by rw [keys, List.length_map]; exact hkl)]
          exact hk'
        · intro j' hj' o' ho'
          rw [ek]
          by_cases e : j' = j
          · subst e
            rw [ho] at ho'
            cases ho'
            exact List.mem_append_right _ (by simp)
          · exact List.mem_append_left _ (hcl j' (by omega) o' ho')
      · refine sx_nil ⟨L', _, _, rfl, rfl, bf', hk', ?_⟩
        have hn : o.E here ∈ keys L' := by
          rcases dval_F (o.E here) L' with ⟨a, b⟩ | ⟨z, a, b⟩
          · rw [a] at hold; cases hold
          · exact b
        intro j' hj' o' ho'
        by_cases e : j' = j
        · subst e
          rw [ho] at ho'
          cases ho'
          exact hn
        · exact hcl j' (by omega) o' ho'
    · rintro ρ' O' ⟨L', y, z, rfl, rfl, bf', hk', hcl⟩
      have hkl : k < L'.length := by
        have := (List.getElem?_eq_some_iff.mp hk').1
        rwa [keys, List.length_map] at this
      refine sx_one (s1_augI S.nd ip_add (i := 6) (ex_int ⟨(k : Int), 1, rfl, rfl, ?_⟩) rfl)
      have hlen := bf'.len
      refine ⟨t.size - (k + 1), by omega, L', k + 1, _, _, _, rfl, rfl, ⟨bf'.nd, bf'.lt, bf'.st, bf'.rc, ?_, hkl⟩, rfl⟩
      intro j hj x hx o ho
      by_cases e : j = k
      · subst e
        rw [hk'] at hx
        cases hx
        obtain ⟨j', hj', ej⟩ := List.mem_iff_getElem.mp ho
        exact hcl j' (by rw [List.length_map]; exact hj') o (by rw [List.getElem?_eq_getElem hj', ej])
      · exact bf'.cl j (by omega) x hx o ho
  · have hk : k = L.length := by
      have := of_decide_eq_false hge
      rw [dq, List.length_map] at this
      have := bf.le
      omega
    have hall := bf.all hk
    refine sx_one (s1_ret (ex_drop (ex_tuple B (ex_map (j := 10) (own := [("one", 10)]) rfl S.nd (blkOk_by (by kernel_rfl)) rfl (fun _ _ => Or.inl rfl) (.inr fun _ _ => rfl) rfl (ix_range1 (B _ (by decide)) (ex_size (i := 0) c rfl ⟨_, rfl, by omega, by have := ht.n2; omega, fun _ _ _ _ => trivial, fun d => (dval (L.map kvF) (.inl (unI d : Int))).getD .non, ?_, fun s2 H2 C2 cl2 fp2 j d Lp cp hmp hdp hj => ?_, ?_⟩))))))
    · rw [Int.toNat_natCast, range_len]
      have := ht.n2
      omega
    · rw [Int.toNat_natCast] at hj
      obtain ⟨hjn, rfl⟩ := range_at hj
      have hpf : pf ≠ Lp := fun z => hdp (by subst z; unfold ownB; simp)
      refine ex_dget2 (hu_of hr) (ex_var (i := 4) rfl ⟨⟨L.map kvF, .ow ?_⟩, ex_var (i := 10) rfl (ex_non ⟨L.map kvF, .inl (j : Int), .ow ?_, rfl, rfl, ?_⟩)⟩)
      · rw [List.lookup_cons, beq_false_of_ne hpf]; exact look_2 hne
      · rw [List.lookup_cons, beq_false_of_ne hpf]; exact look_2 hne
      · show _ = (dval (L.map kvF) (.inl (unI (dI j) : Int))).getD .non
        rw [unI_d]
    · rw [Int.toNat_natCast, range_dI, List.map_map]
      refine ⟨_, .inl rfl, O, (List.sublist_cons_self _ _).trans (List.sublist_cons_self _ _) |>.trans (List.Sublist.refl _), h4 _ fun j hj => ?_⟩
      have hrch : Rch (opsOf t (askD t q)) i j ↔ Rch os i j := ⟨Rch.mono fun o ho => hos.mem_iff.mpr ho, Rch.mono fun o ho => hos.mem_iff.mp ho⟩
      rw [hrch, ← hall]
      show (_ → ∃ z : Int, (dval (L.map kvF) (.inl (unI (dI j) : Int))).getD .non = .int z) ∧ (_ → (dval (L.map kvF) (.inl (unI (dI j) : Int))).getD .non = .non)
      rw [unI_d]
      rcases dval_F j L with ⟨a, b⟩ | ⟨z, a, b⟩
      · rw [a]; exact ⟨fun h => absurd h b, fun _ => rfl⟩
      · rw [a]; exact ⟨fun _ => ⟨z, rfl⟩, fun h => absurd b h⟩
end
end K76

set_option Elab.async false
set_option linter.all false
set_option autoImplicit false
set_option maxRecDepth 100000
set_option maxHeartbeats 2000000
/-! k76, part J: reachable, offices, is_reversible. -/
namespace K76
open PySem PySem.Spec L2 PD
open PyProof.Rows hiding St
theorem flat_if {α β : Type} (p : α → Bool) (f : α → β) (l : List α) : (l.flatMap fun x => if p x = true then [f x] else []) = (l.filter p).map f := by
  induction l with
  | nil => rfl
  | cons x l ih =>
    rw [List.flatMap_cons, ih, List.filter_cons]
    cases h : p x <;> simp
open Classical in
noncomputable def rchB (os : List Op) (i j : Nat) : Bool := decide (Rch os i j)
open Classical in
theorem rchB_iff {os : List Op} {i j : Nat} : rchB os i j = true ↔ Rch os i j := by unfold rchB; exact decide_eq_true_iff
/-- the states that are reached, ascending -/
noncomputable def rchN (n : Nat) (os : List Op) (i : Nat) : List Nat := (List.range n).filter (rchB os i)
theorem rchN_mem {n : Nat} {os : List Op} {i j : Nat} : j ∈ rchN n os i ↔ j < n ∧ Rch os i j := by
  unfold rchN
  rw [List.mem_filter, List.mem_range, rchB_iff]
theorem rchN_nd {n : Nat} {os : List Op} {i : Nat} : (rchN n os i).Nodup := List.nodup_range.filter _
theorem rchN_len {n : Nat} {os : List Op} {i : Nat} : (rchN n os i).length ≤ n := by
  have := List.length_filter_le (rchB os i) (List.range n)
  rwa [List.length_range] at this
theorem rchN_all {n : Nat} {os : List Op} {i : Nat} : (rchN n os i).length = n ↔ ∀ j, j < n → Rch os i j := by
  unfold rchN
  constructor
  · intro h j hj
    have e : (List.range n).filter (rchB os i) = List.range n := List.filter_sublist.eq_of_length (by rw [h, List.length_range])
    have : j ∈ (List.range n).filter (rchB os i) := by rw [e]; exact List.mem_range.mpr hj
    exact rchB_iff.mp (List.mem_filter.mp this).2
  · intro h
    rw [List.filter_eq_self.mpr, List.length_range]
    intro j hj
    exact rchB_iff.mpr (h j (List.mem_range.mp hj))
theorem enum_map {n : Nat} (g : Nat → D) : enumD ((List.range n).map g) = (List.range n).map fun i => D.tup [.int (i : Nat), g i] := by
  unfold enumD
  apply List.ext_getElem?
  intro i
  rw [List.getElem?_mapIdx, List.getElem?_map, List.getElem?_map]
  by_cases h : i < n
  · rw [List.getElem?_eq_getElem (by simpa using h)]
    simp
  · rw [List.getElem?_eq_none (by simpa using h)]
    rfl
section
variable {P : Program} {w : World} {K : PySem.W.Frag} {mg : Str → Option Value} {base : Heap}
def P_reachable (C : Addr) : DP := fun ds O R _ => ∃ (s : Sto) (i : Nat) (q : Option (List Nat)), ds = [dSto C s, dI i, dOs q] ∧ s.Ok ∧ i < s.size ∧ AskOk s q ∧ R (.tup ((rchN s.size (opsOf s (askD s q)) i).map dI)) O
def gR : D → List D
  | .tup [_, .non] => []
  | .tup [a, _] => [a]
  | _ => []
theorem ok_reachable {C : Addr} (F : Df K mg "reachable" (top 34) [.non] []) (B : Bare mg) (I : Ok P w K mg base 7 "distances" (top 33) [.non] [] ["store", "state", "offices"] (P_distances C)) :
    Ok P w K mg base 8 "reachable" (top 34) [.non] [] ["store", "state", "offices"] (P_reachable C) := by
  have S : FnScope ["store", "state", "offices", "one", "far"] ["store", "state", "offices"] (defScope (top 34)) := ⟨rfl, rfl, rfl, by decide +kernel, rfl, by decide +kernel, by decide +kernel⟩
  refine fn_mkD F S (fun ds O R Xr ⟨s, i, q, h, _⟩ => (by rw [h]; rfl)) fun f cdv A outer s H E hr Z ds O R Xr ⟨t, i, q, h1, ht, hi, hq, h4⟩ tk => ?_
  subst h1
  refine sx_one (s1_ret (ex_tuple B (ex_lc (own := [("one", 3), ("far", 4)]) rfl S.nd (blkOk_by (by kernel_rfl)) (ix_enumT (B _ (by decide)) (ex_fnD (dv2 := []) (dD := []) I (by decide) hr (fun f fd F => F.binds1 3 1 (by simp) rfl fun _ _ _ _ _ _ _ us its hl hi => match us, its, hl, hi with | [_, _, _], [_], _, _ => ⟨_, rfl, rfl⟩) (fun _ => .nil) tkd0 (ea_cons (ex_var (i := 0) rfl (ea_cons (ex_var (i := 1) rfl (ea_cons (ex_var (i := 2) rfl (ea_nil ⟨t, i, q, rfl, ht, hi, hq, fun g hg => ⟨_, rfl, ?_⟩⟩))))))))))))
  rw [enum_map]
  have key : ((List.range t.size).map fun i => D.tup [.int (i : Nat), g i]).flatMap gR = (rchN t.size (opsOf t (askD t q)) i).map dI := by
    rw [List.flatMap_map]
    unfold rchN
    rw [← flat_if]
    refine flat_congr fun j hj => ?_
    obtain ⟨g1, g2⟩ := hg j (List.mem_range.mp hj)
    by_cases z : Rch (opsOf t (askD t q)) i j
    · obtain ⟨x, e⟩ := g1 z
      rw [if_pos (rchB_iff.mpr z), e]
      rfl
    · rw [if_neg fun h => z (rchB_iff.mp h), g2 z]
      rfl
  refine ⟨fun _ _ _ _ => trivial, gR, ?_, fun s2 H2 C2 cl2 fp2 j d L c hm hd hj => ?_, ?_⟩
  · rw [key, List.length_map]
    have := rchN_len (n := t.size) (os := opsOf t (askD t q)) (i := i)
    have := ht.n2
    omega
  · rw [List.getElem?_map] at hj
    obtain ⟨j', hj', rfl⟩ := Option.map_eq_some_iff.mp hj
    have hjn : j' < t.size := List.mem_range.mp (List.mem_of_getElem? hj')
    refine gx_tup rfl (gxs_cons (gx_name (i := 3) (gxs_cons (gx_name (i := 4) (gxs_nil ⟨rfl, Fewer.set rfl (Fewer.set rfl (Fewer.refl _)), ts_one (et_notN (ex_var (i := 4) rfl fun k hk => ⟨rfl, fun hb L2 c2 hm2 hd2 => ex_var (i := 3) rfl ⟨rfl, ?_⟩, fun hb => ?_⟩))⟩) S.nd)) S.nd))
    · obtain ⟨g1, g2⟩ := hg j' hjn
      by_cases z : Rch (opsOf t (askD t q)) i j'
      · obtain ⟨x, e⟩ := g1 z
        rw [e]; rfl
      · rw [g2 z] at hk
        cases hk
        cases hb
    · obtain ⟨g1, g2⟩ := hg j' hjn
      by_cases z : Rch (opsOf t (askD t q)) i j'
      · obtain ⟨x, e⟩ := g1 z
        rw [e] at hk
        cases hk
        cases hb
      · rw [g2 z]; rfl
  · rw [key]
    exact ⟨_, .inl rfl, h4⟩
/-! lots of offices -/
def P_all_offices (C : Addr) : DP := fun ds O R _ => ∃ s : Sto, ds = [dSto C s] ∧ s.Ok ∧ R (.tup ((List.range s.offs.length).map dI)) O
theorem ok_all_offices {C : Addr} (F : Df K mg "all_offices" (top 36) [] []) (B : Bare mg) (c : StC K C) : Ok P w K mg base 1 "all_offices" (top 36) [] [] ["store"] (P_all_offices C) := by
  have S : FnScope ["store"] ["store"] (defScope (top 36)) := ⟨rfl, rfl, rfl, by decide +kernel, rfl, by decide +kernel, by decide +kernel⟩
  refine fn_mkD F S (fun ds O R Xr ⟨s, h, _⟩ => (by rw [h]; rfl)) fun f cdv A outer s H E hr Z ds O R Xr ⟨t, h1, ht, h4⟩ tk => ?_
  subst h1
  refine sx_one (s1_ret (ex_tupRg rfl (B _ (by decide)) (B _ (by decide)) (ex_len B (ex_offs (i := 0) c rfl ⟨_, .inr (.inl rfl), _, rfl, by omega, by rw [List.length_map]; have := ht.o2; omega, ?_⟩))))
  rw [List.length_map, Int.toNat_natCast, range_dI]
  exact h4
def othersD (m : Nat) (ns : List Nat) : List Nat := (List.range m).filter fun o => !decide (o ∈ ns)
def P_other_offices (C : Addr) : DP := fun ds O R _ => ∃ (s : Sto) (ns : List Nat), ds = [dSto C s, .tup (ns.map dI)] ∧ s.Ok ∧ R (.tup ((othersD s.offs.length ns).map dI)) O
theorem mem_dI {n : Nat} {ns : List Nat} : decide ((n : Int) ∈ ns.map fun n : Nat => (n : Int)) = decide (n ∈ ns) := by
  apply decide_eq_decide.mpr
  rw [List.mem_map]
  constructor
  · rintro ⟨m, hm, e⟩
    have : m = n := by omega
    exact this ▸ hm
  · exact fun h => ⟨n, h, rfl⟩
theorem ok_other_offices {C : Addr} (F : Df K mg "other_offices" (top 37) [] []) (B : Bare mg) (c : StC K C) (I : Ok P w K mg base 1 "all_offices" (top 36) [] [] ["store"] (P_all_offices C)) : Ok P w K mg base 2 "other_offices" (top 37) [] [] ["store", "offices"] (P_other_offices C) := by
  have S : FnScope ["store", "offices", "office"] ["store", "offices"] (defScope (top 37)) := ⟨rfl, rfl, rfl, by decide +kernel, rfl, by decide +kernel, by decide +kernel⟩
  refine fn_mkD F S (fun ds O R Xr ⟨s, ns, h, _⟩ => (by rw [h]; rfl)) fun f cdv A outer s H E hr Z ds O R Xr ⟨t, ns, h1, ht, h4⟩ tk => ?_
  subst h1
  have key : ((List.range t.offs.length).map dI).flatMap (fun d => if (!decide (unI d ∈ ns)) = true then [d] else []) = (othersD t.offs.length ns).map dI := by
    rw [List.flatMap_map]
    unfold othersD
    rw [← flat_if]
    refine flat_congr fun o _ => ?_
    rw [unI_d]
  refine sx_one (s1_ret (ex_tuple B (ex_lc (own := [("office", 2)]) rfl S.nd (blkOk_by (by kernel_rfl)) (ix_tup (ex_fn I (by decide) hr (fun _ _ _ _ _ _ us hl => match us, hl with | [_], _ => rfl) tkd0 (ea_cons (ex_var (i := 0) rfl (ea_nil ⟨t, rfl, ht, _, rfl, fun _ _ _ _ => trivial, fun d => if (!decide (unI d ∈ ns)) = true then [d] else [], ?_, fun s2 H2 C2 cl2 fp2 j d L cc hm hd hj => ?_, ?_⟩))))))))
  · rw [key, List.length_map]
    have h1 := List.length_filter_le (fun o => !decide (o ∈ ns)) (List.range t.offs.length)
    rw [List.length_range] at h1
    have := ht.o2
    unfold othersD
    omega
  · obtain ⟨o, ho, rfl⟩ := Option.map_eq_some_iff.mp (by rw [List.getElem?_map] at hj; exact hj)
    refine gx_name (i := 2) ⟨rfl, Fewer.set rfl (Fewer.refl _), ts_one (et_cmp op_notIn_seq (ex_var (i := 2) rfl (ex_var (i := 1) rfl ?_)))⟩ S.nd
    refine bt_notInI (ns := ns.map fun n : Nat => (n : Int)) (.inr (.inl (by rw [dI_int]))) ?_
    rw [mem_dI]
    refine ⟨rfl, fun hb L2 c2 hm2 hd2 => ex_var (i := 2) rfl ⟨rfl, ?_⟩, fun hb => ?_⟩
    · show (if (!decide (unI (dI o) ∈ ns)) = true then [dI o] else []) = _
      rw [unI_d, if_pos hb]
    · show (if (!decide (unI (dI o) ∈ ns)) = true then [dI o] else []) = _
      rw [unI_d, if_neg (by rw [hb]; exact Bool.false_ne_true)]
  · rw [key]
    exact ⟨_, .inl rfl, h4⟩
/-! is_reversible -/
noncomputable def revB (s : Sto) : Bool := (List.range s.size).all fun i => decide ((rchN s.size s.ops i).length = s.size)
theorem revB_iff {s : Sto} : revB s = true ↔ ∀ i j, i < s.size → j < s.size → Rch s.ops i j := by
  unfold revB
  rw [List.all_eq_true]
  constructor
  · intro h i j hi hj
    exact rchN_all.mp (of_decide_eq_true (h i (List.mem_range.mpr hi))) j hj
  · intro h i hi
    exact decide_eq_true (rchN_all.mpr fun j hj => h i j (List.mem_range.mp hi) hj)
theorem opsOf_all (s : Sto) : opsOf s (List.range s.offs.length) = s.ops := by
  unfold opsOf Sto.ops
  rw [List.flatMap_def]
  congr 1
  apply List.ext_getElem?
  intro i
  rw [List.getElem?_map]
  by_cases h : i < s.offs.length
  · rw [List.getElem?_range h, List.getElem?_eq_getElem h]
    simp [List.getD_eq_getElem?_getD, List.getElem?_eq_getElem h]
  · rw [List.getElem?_eq_none (by simpa using h), List.getElem?_eq_none (by omega)]
    rfl
def P_boolN (C : Addr) (f : Sto → Bool) : DP := fun ds O R _ => ∃ s : Sto, ds = [dSto C s] ∧ s.Ok ∧ R (.bl (f s)) O
theorem ok_is_reversible {C : Addr} (F : Df K mg "is_reversible" (top 41) [] []) (B : Bare mg) (c : StC K C) (I : Ok P w K mg base 8 "reachable" (top 34) [.non] [] ["store", "state", "offices"] (P_reachable C)) : Ok P w K mg base 9 "is_reversible" (top 41) [] [] ["store"] (P_boolN C revB) := by
  have S : FnScope ["store", "state"] ["store"] (defScope (top 41)) := ⟨rfl, rfl, rfl, by decide +kernel, rfl, by decide +kernel, by decide +kernel⟩
  refine fn_mkD F S (fun ds O R Xr ⟨s, h, _⟩ => (by rw [h]; rfl)) fun f cdv A outer s H E hr Z ds O R Xr ⟨t, h1, ht, h4⟩ tk => ?_
  subst h1
  refine sx_one (s1_ret (ex_all rfl B (ex_map (j := 1) (own := [("state", 1)]) rfl S.nd (blkOk_by (by kernel_rfl)) rfl (fun _ _ => Or.inl rfl) (.inr fun _ _ => rfl) rfl (ix_range1 (B _ (by decide)) (ex_size (i := 0) c rfl ⟨_, rfl, by omega, by have := ht.n2; omega, fun _ _ _ _ => trivial, fun d => .bl (decide ((rchN t.size t.ops (unI d)).length = t.size)), ?_, fun s2 H2 C2 cl2 fp2 j d L cc hm hd hj => ?_, ?_⟩)))))
  · rw [Int.toNat_natCast, range_len]
    have := ht.n2
    omega
  · rw [Int.toNat_natCast] at hj
    obtain ⟨hjn, rfl⟩ := range_at hj
    refine ex_eqI (ex_len B (ex_fnD (dv2 := [.non]) (dD := [.non]) I (by decide) hr (fun f fd F => F.binds1 2 0 (by simp) rfl fun _ _ _ _ _ _ _ us its hl hi => match us, its, hl, hi with | [_, _], [_], _, _ => ⟨_, rfl, rfl⟩) (fun _ => .cons .non .nil) tkd0 (ea_cons (ex_var (i := 0) rfl (ea_cons (ex_var (i := 1) rfl (ea_nil ⟨t, j, none, rfl, ht, hjn, ⟨nofun⟩, ?_⟩)))))))
    refine ⟨_, .inr (.inl rfl), ex_size (i := 0) c rfl ⟨_, _, rfl, rfl, rfl, ?_⟩⟩
    show D.bl (decide (((((rchN t.size (opsOf t (List.range t.offs.length)) j).map dI).length : Nat) : Int) = (t.size : Int))) = D.bl (decide ((rchN t.size t.ops (unI (dI j))).length = t.size))
    rw [List.length_map, unI_d, opsOf_all]
    congr 1
    exact decide_eq_decide.mpr (by omega)
  · rw [Int.toNat_natCast, range_dI, List.map_map]
    refine ⟨(List.range t.size).map fun i => decide ((rchN t.size t.ops i).length = t.size), .inl ?_, ?_⟩
    · rw [List.map_map]
      congr 1
    · rw [List.all_map]
      exact h4
end
end K76

set_option Elab.async false
set_option linter.all false
set_option autoImplicit false
set_option maxRecDepth 100000
set_option maxHeartbeats 2000000
/-! k76, part K: homes, lone offices. -/
namespace K76
open PySem PySem.Spec L2 PD
open PyProof.Rows hiding St
section
variable {P : Program} {w : World} {K : PySem.W.Frag} {mg : Str → Option Value} {base : Heap}
def kvT (j : Nat) : Key × D := (.inl (j : Int), .bl true)
def dReach (l : List Nat) : D := .dct (l.map kvT)
theorem dval_T (j : Nat) : ∀ l : List Nat, (dval (l.map kvT) (.inl (j : Int))).isSome = decide (j ∈ l)
  | [] => rfl
  | k :: l => by
    by_cases z : k = j
    · subst z
      simp [dval, kvT]
    · have e1 : dval ((k :: l).map kvT) (.inl (j : Int)) = dval (l.map kvT) (.inl (j : Int)) := by
        unfold dval
        rw [List.map_cons, List.find?_cons_of_neg]
        show ¬ decide ((Sum.inl (k : Int) : Key) = .inl (j : Int)) = true
        intro hd
        have h1 : (k : Int) = (j : Int) := Sum.inl.inj (of_decide_eq_true hd)
        exact z (by omega)
      rw [e1, dval_T j l]
      exact decide_eq_decide.mpr (by rw [List.mem_cons]; exact ⟨.inr, fun h => h.resolve_left fun e => z e.symm⟩)
theorem dputs_T {l : List Nat} (h : l.Nodup) : dputs (l.map kvT) = l.map kvT := by
  apply dputs_nodup
  rw [List.map_map, List.Nodup, List.pairwise_map]
  exact h.imp fun {a b} hne e => hne (by have : (a : Int) = (b : Int) := Sum.inl.inj e; omega)
def P_reach_tables (C : Addr) : DP := fun ds O R _ => ∃ (s : Sto) (q : Option (List Nat)), ds = [dSto C s, dOs q] ∧ s.Ok ∧ AskOk s q ∧ R (.lst ((List.range s.size).map fun i => dReach (rchN s.size (opsOf s (askD s q)) i))) O
theorem ok_reach_tables {C : Addr} (F : Df K mg "reach_tables" (top 38) [] []) (B : Bare mg) (c : StC K C) (I : Ok P w K mg base 8 "reachable" (top 34) [.non] [] ["store", "state", "offices"] (P_reachable C)) : Ok P w K mg base 9 "reach_tables" (top 38) [] [] ["store", "offices"] (P_reach_tables C) := by
  have S : FnScope ["store", "offices", "state", "goal"] ["store", "offices"] (defScope (top 38)) := ⟨rfl, rfl, rfl, by decide +kernel, rfl, by decide +kernel, by decide +kernel⟩
  refine fn_mkD F S (fun ds O R Xr ⟨s, q, h, _⟩ => (by rw [h]; rfl)) fun f cdv A outer s H E hr Z ds O R Xr ⟨t, q, h1, ht, hq, h4⟩ tk => ?_
  subst h1
  refine sx_one (s1_ret (ex_map (j := 2) (own := [("state", 2)]) rfl S.nd (blkOk_by (by kernel_rfl)) rfl (fun _ _ => Or.inl rfl) (.inr fun _ _ => rfl) rfl (ix_range1 (B _ (by decide)) (ex_size (i := 0) c rfl ⟨_, rfl, by omega, by have := ht.n2; omega, fun _ _ _ _ => trivial, fun d => dReach (rchN t.size (opsOf t (askD t q)) (unI d)), ?_, fun s2 H2 C2 cl2 fp2 j d L cc hm hd hj => ?_, ?_⟩))))
  · rw [Int.toNat_natCast, range_len]
    have := ht.n2
    omega
  · rw [Int.toNat_natCast] at hj
    obtain ⟨hjn, rfl⟩ := range_at hj
    have hn2 := ht.n2
    have hl := rchN_len (n := t.size) (os := opsOf t (askD t q)) (i := j)
    have e0 : ((rchN t.size (opsOf t (askD t q)) j).map dI).flatMap (fun d => [kvT (unI d)]) = (rchN t.size (opsOf t (askD t q)) j).map kvT := by
      rw [List.flatMap_map]
      generalize rchN t.size (opsOf t (askD t q)) j = l
      induction l with
      | nil => rfl
      | cons a l ih => rw [List.flatMap_cons, ih]; rfl
    refine ex_frz (R := fun e O4 => O4 = (L, cc) :: O ∧ e = dReach (rchN t.size (opsOf t (askD t q)) (unI (dI j)))) (ex_dcO (own := [("goal", 3)]) rfl S.nd (blkOk_by (by kernel_rfl)) (ix_tup (ex_fnD (dv2 := []) (dD := []) I (by decide) hr (fun f fd F => F.binds1 3 1 (by simp) rfl fun _ _ _ _ _ _ _ us its hl hi => match us, its, hl, hi with | [_, _, _], [_], _, _ => ⟨_, rfl, rfl⟩) (fun _ => .nil) tkd0 (ea_cons (ex_var (i := 0) rfl (ea_cons (ex_var (i := 2) rfl (ea_cons (ex_var (i := 1) rfl (ea_nil ⟨t, j, q, rfl, ht, hjn, hq, _, rfl, ?_⟩)))))))))) 
    refine ⟨fun _ _ _ _ => trivial, fun d => [kvT (unI d)], ?_, fun s3 H3 C3 cl3 fp3 => ?_, fun p hp hd2 => ⟨p, _, _, rfl, hp, .refl _, rfl, ?_⟩⟩
    · rw [e0, List.length_map]; omega
    · intro k d L3 c3 hm3 hd3 hk
      obtain ⟨g, hg, rfl⟩ := Option.map_eq_some_iff.mp (by rw [List.getElem?_map] at hk; exact hk)
      refine gx_name (i := 3) ⟨rfl, ts_nil ⟨rfl, fun _ => ?_, nofun⟩⟩ S.nd
      exact axk_put rfl (Fewer.set rfl (Fewer.refl _)) fun D4 c4 hm4 hd4 => ex_var (i := 3) rfl (ex_bl ⟨rfl, .inl (g : Int), rfl, rfl⟩)
    · rw [e0, dputs_T rchN_nd]
      rfl
  · rw [Int.toNat_natCast, range_dI, List.map_map]
    exact h4
/-! joint homes -/
def Mut (os : List Op) (a b : Nat) : Prop := Rch os a b ∧ Rch os b a
theorem Mut.symm {os : List Op} {a b : Nat} (h : Mut os a b) : Mut os b a := ⟨h.2, h.1⟩
theorem Mut.trans {os : List Op} {a b c : Nat} (h : Mut os a b) (g : Mut os b c) : Mut os a c := ⟨h.1.trans g.1, g.2.trans h.2⟩
structure Hom (os : List Op) (k : Nat) (ns : List Int) : Prop where
  len : ns.length = k
  eq : ∀ a b x y, ns[a]? = some x → ns[b]? = some y → (x = y ↔ Mut os a b)
  ge : ∀ x ∈ ns, 0 ≤ x
  z : 0 < k → ns[0]? = some 0
def P_joint_homes (C : Addr) : DP := fun ds O R _ => ∃ (s : Sto) (ns : List Nat), ds = [dSto C s, .tup (ns.map dI)] ∧ s.Ok ∧ AskOk s (some ns) ∧ ∀ vs : List Int, Hom (opsOf s ns) s.size vs → R (.tup (vs.map .int)) O
theorem Hom.snoc {os : List Op} {k : Nat} {ns : List Int} (h : Hom os k ns) {v : Int} (hv : 0 ≤ v) (h0 : k = 0 → v = 0) (he : ∀ a x, ns[a]? = some x → (x = v ↔ Mut os a k)) : Hom os (k + 1) (ns ++ [v]) := by
  have hl := h.len
  have at1 : ∀ a x, (ns ++ [v])[a]? = some x → (ns[a]? = some x ∧ a < k) ∨ (a = k ∧ x = v) := by
    intro a x hx
    by_cases z : a < ns.length
    · rw [List.getElem?_append_left z] at hx
      exact .inl ⟨hx, by omega⟩
    · rw [List.getElem?_append_right (by omega)] at hx
      have : a - ns.length = 0 := by
        have := (List.getElem?_eq_some_iff.mp hx).1
        simpa using this
      rw [this] at hx
      have hx : v = x := by simpa using hx
      exact .inr ⟨by omega, hx.symm⟩
  refine ⟨by rw [List.length_append, hl]; rfl, ?_, ?_, ?_⟩
  · intro a b x y hx hy
    rcases at1 a x hx with ⟨h1, h2⟩ | ⟨h1, h2⟩ <;> rcases at1 b y hy with ⟨g1, g2⟩ | ⟨g1, g2⟩
    · exact h.eq a b x y h1 g1
    · subst g1 g2; exact he a x h1
    · subst h1 h2
      have := he b y g1
      exact ⟨fun e => (this.mp e.symm).symm, fun m => (this.mpr m.symm).symm⟩
    · subst h1 h2 g1 g2; exact ⟨fun _ => ⟨.here, .here⟩, fun _ => rfl⟩
  · intro x hx
    rcases List.mem_append.mp hx with hx | hx
    · exact h.ge x hx
    · have : x = v := by simpa using hx
      omega
  · intro _
    by_cases z : k = 0
    · have : ns = [] := List.length_eq_zero_iff.mp (by omega)
      rw [this, h0 z]; rfl
    · rw [List.getElem?_append_left (by omega)]
      exact h.z (by omega)
open Classical in
noncomputable def knownL (os : List Op) (k : Nat) : List Nat := (List.range k).filter fun a => decide (Mut os k a)
open Classical in
theorem knownL_mem {os : List Op} {k a : Nat} : a ∈ knownL os k ↔ a < k ∧ Mut os k a := by
  unfold knownL
  rw [List.mem_filter, List.mem_range, decide_eq_true_iff]
theorem rchN_dec {n : Nat} {os : List Op} {i j : Nat} (h : j < n) : decide (j ∈ rchN n os i) = rchB os i j := by
  cases z : rchB os i j with
  | true => exact decide_eq_true (rchN_mem.mpr ⟨h, rchB_iff.mp z⟩)
  | false =>
    apply decide_eq_false
    intro hm
    have := rchB_iff.mpr (rchN_mem.mp hm).2
    rw [z] at this
    cases this
open Classical in
theorem mut_dec {os : List Op} {a b : Nat} : decide (Mut os a b) = (rchB os a b && rchB os b a) := by
  unfold rchB Mut
  rw [Bool.decide_and]
theorem ok_joint_homes {C : Addr} (F : Df K mg "joint_homes" (top 39) [] []) (B : Bare mg) (c : StC K C) (I : Ok P w K mg base 9 "reach_tables" (top 38) [] [] ["store", "offices"] (P_reach_tables C)) : Ok P w K mg base 10 "joint_homes" (top 39) [] [] ["store", "offices"] (P_joint_homes C) := by
  have S : FnScope ["store", "offices", "reach", "numbers", "state", "known", "low"] ["store", "offices"] (defScope (top 39)) := ⟨rfl, rfl, rfl, by decide +kernel, rfl, by decide +kernel, by decide +kernel⟩
  refine fn_mkD F S (fun ds O R Xr ⟨s, q, h, _⟩ => (by rw [h]; rfl)) fun f cdv A outer s H E hr Z ds O R Xr ⟨t, ns, h1, ht, hq, h4⟩ tk => ?_
  subst h1
  have hn2 := ht.n2
  have hRl : ∀ i, i < t.size → atI ((List.range t.size).map fun i => dReach (rchN t.size (opsOf t ns) i)) (i : Int) = some (dReach (rchN t.size (opsOf t ns) i)) := fun i hi => by
    apply PD.atI_nat
    rw [List.getElem?_map, List.getElem?_range hi]
    rfl
  refine sx_cons (s1_asg (ex_tup (ea_cons (ex_fn I (by decide) hr (fun _ _ _ _ _ _ us hl => match us, hl with | [_, _], _ => rfl) tkd0 (ea_cons (ex_var (i := 0) rfl (ea_cons (ex_var (i := 1) rfl (ea_nil ⟨t, some ns, rfl, ht, hq, ea_cons (ex_lstO (ea_nil ⟨by decide, fun pn hm hd => ea_nil ⟨by show 2 ≤ 1000000; decide, ?_⟩⟩))⟩)))))))))
  refine gx_tup rfl (gxs_cons (gx_name (i := 2) (gxs_cons (gx_name (i := 3) (gxs_nil ?_) S.nd)) S.nd))
  refine sx_cons (s1_for (passes_of rfl) rfl (ix_range1 (B _ (by decide)) (ex_size (i := 0) c rfl ⟨_, rfl, by omega, by omega, ?_⟩)))
  rw [Int.toNat_natCast]
  refine ⟨fun k ρ' O' => ∃ (vs : List Int) (x y : Option D), ρ' = [some (dSto C t), some (.tup (ns.map dI)), some (.lst ((List.range t.size).map fun i => dReach (rchN t.size (opsOf t ns) i))), some (.raw (.ref pn)), x, y, none] ∧ O' = (pn, .lst (vs.map .int)) :: O ∧ Hom (opsOf t ns) k vs, ⟨[], none, none, rfl, rfl, rfl, nofun, nofun, nofun⟩, fun _ _ _ _ => trivial, ?_, ?_⟩
  · rintro k d ρ' O' hk ⟨vs, x, y, rfl, rfl, hom⟩
    obtain ⟨hkn, rfl⟩ := range_at hk
    have hvl := hom.len
    refine gx_name (i := 4) ?_ S.nd
    have key : ((List.range k).map dI).flatMap (fun d => if (rchB (opsOf t ns) k (unI d) && rchB (opsOf t ns) (unI d) k) = true then [d] else []) = (knownL (opsOf t ns) k).map dI := by
      rw [List.flatMap_map]
      unfold knownL
      rw [← flat_if]
      refine flat_congr fun a _ => ?_
      rw [mut_dec, unI_d]
    refine sx_cons (s1_setLc (i := 5) (own := [("low", 6)]) rfl S.nd (blkOk_by (by kernel_rfl)) (ix_range1 (B _ (by decide)) (ex_var (i := 4) rfl ⟨_, rfl, by omega, by omega, fun _ _ _ _ => trivial, fun d => if (rchB (opsOf t ns) k (unI d) && rchB (opsOf t ns) (unI d) k) = true then [d] else [], ?_, fun s2 H2 C2 cl2 fp2 j d L cc hm2 hd2 hj => ?_, ?_⟩)))
    · rw [Int.toNat_natCast, range_dI, key, List.length_map]
      have h1 : (knownL (opsOf t ns) k).length ≤ (List.range k).length := List.length_filter_le _ _
      rw [List.length_range] at h1
      omega
    · rw [Int.toNat_natCast] at hj
      obtain ⟨hjk, rfl⟩ := range_at hj
      refine gx_name (i := 6) ⟨rfl, Fewer.set rfl (Fewer.refl _), ts_one (et_and (et_din (hu_of hr) (ex_var (i := 6) rfl (ex_idx (ex_var (i := 2) rfl (ex_var (i := 4) rfl ⟨_, (k : Int), _, .inl .fr, rfl, hRl k hkn, _, .inl (j : Int), .fr, rfl, ?_⟩))))))⟩ S.nd
      rw [dval_T, rchN_dec (by omega)]
      refine ⟨fun hb => ⟨rfl, nofun, fun _ => ?_⟩, fun hb => ew_and1 (et_din (hu_of hr) (ex_var (i := 4) rfl (ex_idx (ex_var (i := 2) rfl (ex_var (i := 6) rfl ⟨_, (j : Int), _, .inl .fr, rfl, hRl j (by omega), _, .inl (k : Int), .fr, rfl, ?_⟩)))))⟩
      · show (if (rchB (opsOf t ns) k (unI (dI j)) && rchB (opsOf t ns) (unI (dI j)) k) = true then [dI j] else []) = []
        rw [unI_d, hb]
        rfl
      · rw [dval_T, rchN_dec (by omega)]
        refine ⟨rfl, fun hb2 L2 c2 hm3 hd3 => ex_var (i := 6) rfl ⟨rfl, ?_⟩, fun hb2 => ?_⟩
        · show (if (rchB (opsOf t ns) k (unI (dI j)) && rchB (opsOf t ns) (unI (dI j)) k) = true then [dI j] else []) = [dI j]
          rw [unI_d, hb, hb2]
          rfl
        · show (if (rchB (opsOf t ns) k (unI (dI j)) && rchB (opsOf t ns) (unI (dI j)) k) = true then [dI j] else []) = []
          rw [unI_d, hb, hb2]
          rfl
    rw [Int.toNat_natCast, range_dI, key]
    have fin : ∀ v : Int, 0 ≤ v → (k = 0 → v = 0) → (∀ a x, vs[a]? = some x → (x = v ↔ Mut (opsOf t ns) a k)) → ∃ (vs2 : List Int) (x y : Option D), [some (dSto C t), some (.tup (ns.map dI)), some (.lst ((List.range t.size).map fun i => dReach (rchN t.size (opsOf t ns) i))), some (.raw (.ref pn)), some (dI k), some (.lst ((knownL (opsOf t ns) k).map dI)), none] = [some (dSto C t), some (.tup (ns.map dI)), some (.lst ((List.range t.size).map fun i => dReach (rchN t.size (opsOf t ns) i))), some (.raw (.ref pn)), x, y, none] ∧ setO ((pn, OC.lst (vs.map D.int)) :: O) pn (.lst (vs.map D.int ++ [D.int v])) = (pn, OC.lst (vs2.map .int)) :: O ∧ Hom (opsOf t ns) (k + 1) vs2 := fun v h1 h2 h3 => by
      refine ⟨vs ++ [v], _, _, rfl, ?_, hom.snoc h1 h2 h3⟩
      rw [setO_hd hd, List.map_append]
      rfl
    refine sx_one (s1_expr (ex_append (ex_var (i := 3) rfl ⟨pn, _, rfl, look_hd, ex_if (et_cmp (op_neD hr.units) (ex_var (i := 5) rfl (ex_lst (ea_nil ⟨by decide, ?_⟩))))⟩)))
    refine bt_neD (p1 := .list (((knownL (opsOf t ns) k).map fun n : Nat => (n : Int)).map .int)) (p2 := .list (([] : List Int).map .int)) (by rw [dI_int, py_lints]) rfl (shp_lints _) (shp_lints _) ?_
    rw [eqv_lints]
    refine ⟨fun hb => ?_, fun hb => ?_⟩
    · cases hkn0 : knownL (opsOf t ns) k with
      | nil => rw [hkn0] at hb; cases hb
      | cons a l =>
        rw [hkn0] at fin
        obtain ⟨ha, hmut⟩ := knownL_mem.mp (by rw [hkn0]; exact List.mem_cons_self : a ∈ knownL (opsOf t ns) k)
        have hva : vs[a]? = some (vs[a]'(by omega)) := List.getElem?_eq_getElem (by omega)
        refine ex_idx (ex_var (i := 3) rfl (ex_idx (ex_var (i := 5) rfl (ex_int ⟨_, 0, dI a, .inl .fr, rfl, PD.atI_nat (i := 0) rfl, ⟨vs.map .int, (a : Int), .int (vs[a]'(by omega)), .inl (.ow look_hd), rfl, PD.atI_nat (by rw [List.getElem?_map, hva]; rfl), ?_⟩⟩))))
        refine ⟨_, look_hd, by rw [List.length_map]; omega, fin _ (hom.ge _ (List.getElem_mem _)) (fun z => by omega) fun b x hx => ?_⟩
        rw [hom.eq b a x _ hx hva]
        exact ⟨fun m => m.trans hmut.symm, fun m => m.trans hmut⟩
    · have hnil : knownL (opsOf t ns) k = [] := by
        have : decide ((knownL (opsOf t ns) k).map (fun n : Nat => (n : Int)) = []) = true := by simpa using hb
        exact List.map_eq_nil_iff.mp (of_decide_eq_true this)
      refine ex_add (ex_max rfl B (ex_bin op_cat (ex_lst (ea_cons (ex_neg (ex_int ⟨1, rfl, ea_nil ⟨by decide, ex_var (i := 3) rfl (bd_cat .fr (.ow look_hd) ?_ ?_)⟩⟩))))))
      · rw [List.length_map]
        show 1 + vs.length ≤ _
        omega
      refine ⟨(-1) :: vs, .inl rfl, by simp, fun m hm1 hm2 => ex_int ⟨m, 1, rfl, rfl, _, look_hd, by rw [List.length_map]; omega, fin _ ?_ ?_ ?_⟩⟩
      · have := hm2 (-1) List.mem_cons_self
        omega
      · intro z
        have : vs = [] := List.length_eq_zero_iff.mp (by omega)
        rw [this] at hm1
        have : m = -1 := by simpa using hm1
        omega
      · intro a x hx
        have hxm : x ≤ m := hm2 x (List.mem_cons_of_mem _ (List.mem_of_getElem? hx))
        have ha : a < k := by have := (List.getElem?_eq_some_iff.mp hx).1; omega
        constructor
        · intro e; omega
        · intro m1
          have : a ∈ knownL (opsOf t ns) k := knownL_mem.mpr ⟨ha, m1.symm⟩
          rw [hnil] at this
          cases this
  · rintro ρ' O' ⟨vs, x, y, rfl, rfl, hom⟩
    rw [range_len] at hom
    exact sx_one (s1_ret (ex_drop (ex_tuple B (ex_var (i := 3) rfl ⟨_, .ow look_hd, O, List.sublist_cons_self _ _, h4 vs hom⟩))))
end
end K76

set_option Elab.async false
set_option linter.all false
set_option autoImplicit false
set_option maxRecDepth 100000
set_option maxHeartbeats 2000000
/-! k76, part L: lone offices; the refusals; shares of a cell. -/
namespace K76
open PySem PySem.Spec L2 PD
open PyProof.Rows hiding St
theorem opsOf_one (s : Sto) (o : Nat) : opsOf s [o] = s.offs.getD o [] := by
  unfold opsOf
  simp
open Classical in
noncomputable def loneB (s : Sto) (o : Nat) : Bool := decide (∀ i j, i < s.size → j < s.size → Rch (s.offs.getD o []) i j)
open Classical in
theorem loneB_iff {s : Sto} {o : Nat} : loneB s o = true ↔ ∀ i j, i < s.size → j < s.size → Rch (s.offs.getD o []) i j := by
  unfold loneB
  exact decide_eq_true_iff
noncomputable def loneL (s : Sto) : List Nat := (List.range s.offs.length).filter (loneB s)
theorem loneL_mem {s : Sto} {o : Nat} : o ∈ loneL s ↔ o < s.offs.length ∧ ∀ i j, i < s.size → j < s.size → Rch (s.offs.getD o []) i j := by
  unfold loneL
  rw [List.mem_filter, List.mem_range, loneB_iff]
theorem hom_max {s : Sto} (h : s.Ok) {o : Nat} {vs : List Int} (hm : Hom (s.offs.getD o []) s.size vs) {m : Int} (h1 : m ∈ vs) (h2 : ∀ y ∈ vs, y ≤ m) : decide (m = 0) = loneB s o := by
  have hz := hm.z (by have := h.n1; omega)
  have hge := hm.ge
  have e1 : decide (m = 0) = true ↔ loneB s o = true := by
    rw [loneB_iff, decide_eq_true_iff]
    constructor
    · intro e i j hi hj
      have hl := hm.len
      have a1 : vs[i]? = some vs[i] := List.getElem?_eq_getElem (by omega)
      have a2 : vs[j]? = some vs[j] := List.getElem?_eq_getElem (by omega)
      refine ((hm.eq i j _ _ a1 a2).mp ?_).1
      have b1 := h2 _ (List.getElem_mem (by omega : i < vs.length))
      have b2 := h2 _ (List.getElem_mem (by omega : j < vs.length))
      have b3 := hge _ (List.getElem_mem (by omega : i < vs.length))
      have b4 := hge _ (List.getElem_mem (by omega : j < vs.length))
      omega
    · intro hall
      obtain ⟨i, hi, e⟩ := List.mem_iff_getElem.mp h1
      have hl := hm.len
      have a1 : vs[i]? = some m := by rw [List.getElem?_eq_getElem hi, e]
      exact (hm.eq i 0 m 0 a1 hz).mpr ⟨hall _ _ (by omega) (by have := h.n1; omega), hall _ _ (by have := h.n1; omega) (by omega)⟩
  cases a : decide (m = 0) <;> cases b : loneB s o
  · rfl
  · rw [e1.mpr b] at a; cases a
  · rw [e1.mp a] at b; cases b
  · rfl
section
variable {P : Program} {w : World} {K : PySem.W.Frag} {mg : Str → Option Value} {base : Heap}
def P_homes (C : Addr) : DP := fun ds O R _ => ∃ (s : Sto) (o : Nat), ds = [dSto C s, dI o] ∧ s.Ok ∧ o < s.offs.length ∧ ∀ vs : List Int, Hom (s.offs.getD o []) s.size vs → R (.tup (vs.map .int)) O
theorem ask_one {s : Sto} {o : Nat} (h : o < s.offs.length) : AskOk s (some [o]) := ⟨fun ns e => by
  cases e
  exact ⟨fun n hn => by
    have : n = o := by simpa using hn
    omega, List.pairwise_singleton _ _⟩⟩
theorem ok_homes {C : Addr} (F : Df K mg "homes" (top 40) [] []) (I : Ok P w K mg base 10 "joint_homes" (top 39) [] [] ["store", "offices"] (P_joint_homes C)) : Ok P w K mg base 11 "homes" (top 40) [] [] ["store", "office"] (P_homes C) := by
  have S : FnScope ["store", "office"] ["store", "office"] (defScope (top 40)) := ⟨rfl, rfl, rfl, by decide +kernel, rfl, by decide +kernel, by decide +kernel⟩
  refine fn_mkD F S (fun ds O R Xr ⟨s, o, h, _⟩ => (by rw [h]; rfl)) fun f cdv A outer s H E hr Z ds O R Xr ⟨t, o, h1, ht, ho, h4⟩ tk => ?_
  subst h1
  refine sx_one (s1_ret (ex_fn I (by decide) hr (fun _ _ _ _ _ _ us hl => match us, hl with | [_, _], _ => rfl) tkd0 (ea_cons (ex_var (i := 0) rfl (ea_cons (ex_tup (ea_cons (ex_var (i := 1) rfl (ea_nil ⟨by show 1 ≤ 1000000; decide, ea_nil ⟨t, [o], rfl, ht, ask_one ho, fun vs hv => ?_⟩⟩))))))))) 
  rw [opsOf_one] at hv
  exact h4 vs hv
def P_lone (C : Addr) : DP := fun ds O R _ => ∃ s : Sto, ds = [dSto C s] ∧ s.Ok ∧ R (.tup ((loneL s).map dI)) O
theorem ok_lone_offices {C : Addr} (F : Df K mg "lone_offices" (top 60) [] []) (B : Bare mg) (c : StC K C) (I : Ok P w K mg base 11 "homes" (top 40) [] [] ["store", "office"] (P_homes C)) : Ok P w K mg base 12 "lone_offices" (top 60) [] [] ["store"] (P_lone C) := by
  have S : FnScope ["store", "office"] ["store"] (defScope (top 60)) := ⟨rfl, rfl, rfl, by decide +kernel, rfl, by decide +kernel, by decide +kernel⟩
  refine fn_mkD F S (fun ds O R Xr ⟨s, h, _⟩ => (by rw [h]; rfl)) fun f cdv A outer s H E hr Z ds O R Xr ⟨t, h1, ht, h4⟩ tk => ?_
  subst h1
  have ho2 := ht.o2
  have hn1 := ht.n1
  have key : ((List.range t.offs.length).map dI).flatMap (fun d => if loneB t (unI d) = true then [d] else []) = (loneL t).map dI := by
    rw [List.flatMap_map]
    unfold loneL
    rw [← flat_if]
    refine flat_congr fun o _ => ?_
    rw [unI_d]
  refine sx_one (s1_ret (ex_tuple B (ex_lc (own := [("office", 1)]) rfl S.nd (blkOk_by (by kernel_rfl)) (ix_range1 (B _ (by decide)) (ex_len B (ex_offs (i := 0) c rfl ⟨_, .inr (.inl rfl), _, rfl, by omega, by rw [List.length_map]; omega, fun _ _ _ _ => trivial, fun d => if loneB t (unI d) = true then [d] else [], ?_, fun s2 H2 C2 cl2 fp2 j d L cc hm hd hj => ?_, ?_⟩))))))
  · rw [List.length_map, Int.toNat_natCast, range_dI, key, List.length_map]
    have h1 := List.length_filter_le (loneB t) (List.range t.offs.length)
    rw [List.length_range] at h1
    unfold loneL
    omega
  · rw [List.length_map, Int.toNat_natCast] at hj
    obtain ⟨hjn, rfl⟩ := range_at hj
    refine gx_name (i := 1) ⟨rfl, Fewer.set rfl (Fewer.refl _), ts_one (et_eqI (ex_maxT rfl (hu_of hr) B (ex_fn I (by decide) hr (fun _ _ _ _ _ _ us hl => match us, hl with | [_, _], _ => rfl) tkd0 (ea_cons (ex_var (i := 0) rfl (ea_cons (ex_var (i := 1) rfl (ea_nil ⟨t, j, rfl, ht, hjn, fun vs hv => ⟨vs, rfl, by rw [hv.len]; omega, fun m m1 m2 => ex_int ⟨m, 0, rfl, rfl, rfl, ?_⟩⟩⟩))))))))⟩ S.nd
    rw [hom_max ht hv m1 m2]
    refine ⟨fun hb L2 c2 hm2 hd2 => ex_var (i := 1) rfl ⟨rfl, ?_⟩, fun hb => ?_⟩
    · show (if loneB t (unI (dI j)) = true then [dI j] else []) = _
      rw [unI_d, if_pos hb]
    · show (if loneB t (unI (dI j)) = true then [dI j] else []) = _
      rw [unI_d, if_neg (by rw [hb]; exact Bool.false_ne_true)]
  · rw [List.length_map, Int.toNat_natCast, range_dI, key]
    exact ⟨_, .inl rfl, h4⟩
/-! refusals -/
/-- the classes of what is raised -/
structure Rfs (P : Program) (K : PySem.W.Frag) (mg : Str → Option Value) (Cr Cn : Addr) : Prop where
  r : ∃ fI, PySem.SUX.SuTxt P K mg Cr fI "Refused.__init__" "refused"
  n : ∃ fI, PySem.SUX.SuTxt P K mg Cn fI "InvalidNumber.__init__" "invalid number"
  gr : mg "Refused" = some (.ref Cr)
  gn : mg "InvalidNumber" = some (.ref Cn)
def P_need_unseen (C Cr : Addr) : DP := fun ds O R Xr => ∃ s : Sto, ds = [dSto C s] ∧ s.Ok ∧ (haveClash s = true → Xr Cr (.str "seen") O) ∧ (haveClash s = false → revB s = false → Xr Cr (.str "oneway") O) ∧ (haveClash s = false → revB s = true → R .non O)
theorem ok_need_unseen {C Cr Cn : Addr} (F : Df K mg "need_unseen_reversible" (top 42) [] []) (N : Rfs P K mg Cr Cn) (I1 : Ok P w K mg base 5 "have_clash" (top 26) [] [] ["store"] (P_bool C haveClash)) (I2 : Ok P w K mg base 9 "is_reversible" (top 41) [] [] ["store"] (P_boolN C revB)) :
    Ok P w K mg base 10 "need_unseen_reversible" (top 42) [] [] ["store"] (P_need_unseen C Cr) := by
  obtain ⟨fI, T⟩ := N.r
  have S : FnScope ["store"] ["store"] (defScope (top 42)) := ⟨rfl, rfl, rfl, by decide +kernel, rfl, by decide +kernel, by decide +kernel⟩
  refine fn_mkD F S (fun ds O R Xr ⟨s, h, _⟩ => (by rw [h]; rfl)) fun f cdv A outer s H E hr Z ds O R Xr ⟨t, h1, ht, h4, h5, h6⟩ tk => ?_
  subst h1
  refine sx_cons (s1_if (et_ex (ex_fn I1 (by decide) hr (fun _ _ _ _ _ _ us hl => match us, hl with | [_], _ => rfl) tkd0 (ea_cons (ex_var (i := 0) rfl (ea_nil ⟨t, rfl, ht, _, rfl, fun hb => ?_, fun hb => sx_nil ?_⟩))))))
  · exact sx_one (s1_raise rfl T N.gr hr tk (ex_str (h4 hb)))
  · refine sx_one (s1_if (et_not (et_ex (ex_fn I2 (by decide) hr (fun _ _ _ _ _ _ us hl => match us, hl with | [_], _ => rfl) tkd0 (ea_cons (ex_var (i := 0) rfl (ea_nil ⟨t, rfl, ht, _, rfl, fun hc => ?_, fun hc => sx_nil ?_⟩)))))))
    · exact sx_one (s1_raise rfl T N.gr hr tk (ex_str (h5 hb (by simpa using hc))))
    · exact h6 hb (by simpa using hc)
def P_need_base (C Cn : Addr) : DP := fun ds O R Xr => ∃ (s : Sto) (d : D), ds = [dSto C s, d] ∧ Ty d ∧ (isB (s.size : Int) d = true → R .non O) ∧ (isB (s.size : Int) d = false → Xr Cn (.str "base") O)
theorem ok_need_base {C Cr Cn : Addr} (F : Df K mg "need_base" (top 50) [] []) (c : StC K C) (N : Rfs P K mg Cr Cn) (I : Ok P w K mg base 4 "is_below" (top 12) [] [] ["value", "bound"] P_is_below) : Ok P w K mg base 5 "need_base" (top 50) [] [] ["store", "base"] (P_need_base C Cn) := by
  obtain ⟨fI, T⟩ := N.n
  have S : FnScope ["store", "base"] ["store", "base"] (defScope (top 50)) := ⟨rfl, rfl, rfl, by decide +kernel, rfl, by decide +kernel, by decide +kernel⟩
  refine fn_mkD F S (fun ds O R Xr ⟨s, d, h, _⟩ => (by rw [h]; rfl)) fun f cdv A outer s H E hr Z ds O R Xr ⟨t, d, h1, hd, h4, h5⟩ tk => ?_
  subst h1
  refine sx_one (s1_if (et_not (et_ex (ex_fn I (by decide) hr (fun _ _ _ _ _ _ us hl => match us, hl with | [_, _], _ => rfl) tkd0 (ea_cons (ex_var (i := 1) rfl (ea_cons (ex_size (i := 0) c rfl (ea_nil ⟨_, _, rfl, hd, _, rfl, fun hb => ?_, fun hb => sx_nil ?_⟩)))))))))
  · exact sx_one (s1_raise rfl T N.gn hr tk (ex_str (h5 (by simpa using hb))))
  · exact h4 (by simpa using hb)
def P_need_group (C : Addr) : DP := fun ds O R _ => ∃ (s : Sto) (o b : Nat), ds = [dSto C s, dI o, dI b] ∧ s.Ok ∧ o < s.offs.length ∧ b < s.size ∧ haveClash s = false ∧ revB s = true ∧ R .non O
theorem ok_need_group {C Cr : Addr} (F : Df K mg "need_group" (top 45) [] []) (c : StC K C) (I1 : Ok P w K mg base 5 "need_office" (top 29) [] [] ["store", "office"] (P_need_office C)) (I2 : Ok P w K mg base 4 "is_below" (top 12) [] [] ["value", "bound"] P_is_below)
    (I3 : Ok P w K mg base 10 "need_unseen_reversible" (top 42) [] [] ["store"] (P_need_unseen C Cr)) : Ok P w K mg base 11 "need_group" (top 45) [] [] ["store", "office", "base"] (P_need_group C) := by
  have S : FnScope ["store", "office", "base"] ["store", "office", "base"] (defScope (top 45)) := ⟨rfl, rfl, rfl, by decide +kernel, rfl, by decide +kernel, by decide +kernel⟩
  refine fn_mkD F S (fun ds O R Xr ⟨s, o, b, h, _⟩ => (by rw [h]; rfl)) fun f cdv A outer s H E hr Z ds O R Xr ⟨t, o, b, h1, ht, ho, hb, hc, hv, h4⟩ tk => ?_
  subst h1
  refine sx_cons (s1_expr (ex_fn I1 (by decide) hr (fun _ _ _ _ _ _ us hl => match us, hl with | [_, _], _ => rfl) tkd0 (ea_cons (ex_var (i := 0) rfl (ea_cons (ex_var (i := 1) rfl (ea_nil ⟨t, o, rfl, ho, ?_⟩)))))))
  refine sx_cons (s1_if (et_not (et_ex (ex_fn I2 (by decide) hr (fun _ _ _ _ _ _ us hl => match us, hl with | [_, _], _ => rfl) tkd0 (ea_cons (ex_var (i := 2) rfl (ea_cons (ex_size (i := 0) c rfl (ea_nil ⟨_, _, rfl, ty_int, _, rfl, ?_⟩)))))))))
  rw [isB_nat hb]
  refine ⟨nofun, fun _ => sx_nil (sx_one (s1_expr (ex_fn I3 (by decide) hr (fun _ _ _ _ _ _ us hl => match us, hl with | [_], _ => rfl) (tkd0.imp fun _ _ _ z => z) (ea_cons (ex_var (i := 0) rfl (ea_nil ⟨t, rfl, ht, fun z => ?_, fun _ z => ?_, fun _ _ => h4⟩))))))⟩
  · rw [hc] at z; cases z
  · rw [hv] at z; cases z
/-! shares -/
def shD (n b : Nat) : List Nat := b :: (List.range n).filter fun j => !decide (j = b)
def P_shares (C : Addr) : DP := fun ds O R _ => ∃ (s : Sto) (o b : Nat), ds = [dSto C s, dI o, dI b] ∧ s.Ok ∧ o < s.offs.length ∧ b < s.size ∧ (∀ j, j < s.size → Rch (opsOf s [o]) b j) ∧ (∀ j, j < s.size → Rch (opsOf s (othersD s.offs.length [o])) b j) ∧ R (.tup ((shD s.size b).map dI)) O
theorem rchN_full {n : Nat} {os : List Op} {i : Nat} (h : ∀ j, j < n → Rch os i j) : rchN n os i = List.range n := by
  unfold rchN
  exact List.filter_eq_self.mpr fun j hj => rchB_iff.mpr (h j (List.mem_range.mp hj))
theorem ask_others {s : Sto} (ns : List Nat) : AskOk s (some (othersD s.offs.length ns)) := ⟨fun ms e => by
  cases e
  unfold othersD
  exact ⟨fun n hn => List.mem_range.mp (List.mem_filter.mp hn).1, List.Pairwise.filter _ List.pairwise_lt_range⟩⟩
theorem ok_shares_of_cell {C : Addr} (F : Df K mg "shares_of_cell" (top 46) [] []) (B : Bare mg) (I1 : Ok P w K mg base 8 "reachable" (top 34) [.non] [] ["store", "state", "offices"] (P_reachable C)) (I2 : Ok P w K mg base 2 "other_offices" (top 37) [] [] ["store", "offices"] (P_other_offices C)) :
    Ok P w K mg base 9 "shares_of_cell" (top 46) [] [] ["store", "office", "base"] (P_shares C) := by
  have S : FnScope ["store", "office", "base", "own", "rest", "state"] ["store", "office", "base"] (defScope (top 46)) := ⟨rfl, rfl, rfl, by decide +kernel, rfl, by decide +kernel, by decide +kernel⟩
  refine fn_mkD F S (fun ds O R Xr ⟨s, o, b, h, _⟩ => (by rw [h]; rfl)) fun f cdv A outer s H E hr Z ds O R Xr ⟨t, o, b, h1, ht, ho, hb, ha1, ha2, h4⟩ tk => ?_
  subst h1
  have hn2 := ht.n2
  refine sx_cons (s1_set (i := 3) S.nd (ex_fnD (dv2 := []) (dD := []) I1 (by decide) hr (fun f fd F => F.binds1 3 1 (by simp) rfl fun _ _ _ _ _ _ _ us its hl hi => match us, its, hl, hi with | [_, _, _], [_], _, _ => ⟨_, rfl, rfl⟩) (fun _ => .nil) tkd0 (ea_cons (ex_var (i := 0) rfl (ea_cons (ex_var (i := 2) rfl (ea_cons (ex_tup (ea_cons (ex_var (i := 1) rfl (ea_nil ⟨by show 1 ≤ 1000000; decide, ea_nil ⟨t, b, some [o], rfl, ht, hb, ask_one ho, ?_⟩⟩)))))))))))
  refine sx_cons (s1_set (i := 4) S.nd (ex_fnD (dv2 := []) (dD := []) I1 (by decide) hr (fun f fd F => F.binds1 3 1 (by simp) rfl fun _ _ _ _ _ _ _ us its hl hi => match us, its, hl, hi with | [_, _, _], [_], _, _ => ⟨_, rfl, rfl⟩) (fun _ => .nil) tkd0 (ea_cons (ex_var (i := 0) rfl (ea_cons (ex_var (i := 2) rfl (ea_cons (ex_fn I2 (by decide) hr (fun _ _ _ _ _ _ us hl => match us, hl with | [_, _], _ => rfl) tkd0 (ea_cons (ex_var (i := 0) rfl (ea_cons (ex_tup (ea_cons (ex_var (i := 1) rfl (ea_nil ⟨by show 1 ≤ 1000000; decide, ea_nil ⟨t, [o], rfl, ht, ea_nil ⟨t, b, some (othersD t.offs.length [o]), rfl, ht, hb, ask_others _, ?_⟩⟩⟩)))))))))))))))
  show SX _ _ _ ((List.set _ 3 (some (.tup ((rchN t.size (opsOf t [o]) b).map dI)))).set 4 (some (.tup ((rchN t.size (opsOf t (othersD t.offs.length [o])) b).map dI)))) _ _
  rw [rchN_full ha1, rchN_full ha2]
  have key : ((List.range t.size).map dI).flatMap (fun d => if (!decide (unI d = b)) = true then [d] else []) = ((List.range t.size).filter fun j => !decide (j = b)).map dI := by
    rw [List.flatMap_map, ← flat_if]
    refine flat_congr fun o _ => ?_
    rw [unI_d]
  have hfl : ((List.range t.size).filter fun j => !decide (j = b)).length ≤ t.size := by
    have h1 := List.length_filter_le (fun j => !decide (j = b)) (List.range t.size)
    rwa [List.length_range] at h1
  refine sx_one (s1_ret (ex_bin op_catA (ex_tup (ea_cons (ex_var (i := 2) rfl (ea_nil ⟨by show 1 ≤ 1000000; decide, ex_tuple B (ex_lc (own := [("state", 5)]) rfl S.nd (blkOk_by (by kernel_rfl)) (ix_tup (ex_var (i := 3) rfl ⟨_, rfl, fun _ _ _ _ => trivial, fun d => if (!decide (unI d = b)) = true then [d] else [], ?_, fun s2 H2 C2 cl2 fp2 j d L cc hm hd hj => ?_, ?_⟩)))⟩))))))
  · rw [key, List.length_map]; omega
  · obtain ⟨x, hx, rfl⟩ := Option.map_eq_some_iff.mp (by rw [List.getElem?_map] at hj; exact hj)
    have hxn : x < t.size := List.mem_range.mp (List.mem_of_getElem? hx)
    refine gx_name (i := 5) ⟨rfl, Fewer.set rfl (Fewer.refl _), ts_one (et_and (et_neI (ex_var (i := 5) rfl (ex_var (i := 2) rfl ⟨(x : Int), (b : Int), rfl, rfl, ?_⟩))))⟩ S.nd
    have e1 : decide ((x : Int) = (b : Int)) = decide (x = b) := decide_eq_decide.mpr (by omega)
    have e2 : (!decide (x = b)) = !decide ((x : Int) = (b : Int)) := by rw [e1]
    refine ⟨fun hb2 => ⟨rfl, nofun, fun _ => ?_⟩, fun hb2 => ew_and1 (et_cmp op_in_seq (ex_var (i := 5) rfl (ex_var (i := 4) rfl (bt_inI (ns := (List.range t.size).map fun n : Nat => (n : Int)) (.inr (.inl (by rw [dI_int]))) ?_))))⟩
    · show (if (!decide (unI (dI x) = b)) = true then [dI x] else []) = []
      rw [unI_d, e2.trans hb2]
      rfl
    · rw [mem_dI, decide_eq_true (List.mem_range.mpr hxn)]
      refine ⟨rfl, fun _ L2 c2 hm2 hd2 => ex_var (i := 5) rfl ⟨rfl, ?_⟩, nofun⟩
      show (if (!decide (unI (dI x) = b)) = true then [dI x] else []) = [dI x]
      rw [unI_d, e2.trans hb2]
      rfl
  · rw [key]
    exact ⟨_, .inl rfl, bd_catT (by rw [List.length_map]; show 1 + _ ≤ _; omega) h4⟩
end
end K76

set_option Elab.async false
set_option linter.all false
set_option autoImplicit false
set_option maxRecDepth 100000
set_option maxHeartbeats 2000000
/-! k76, part M: images by runs. -/
namespace K76
open PySem PySem.Spec L2 PD
open PyProof.Rows hiding St
/-! searches by keys alone -/
def kz (ks : List Nat) : List (Nat × Int) := ks.map fun x => (x, (0 : Int))
theorem keys_kz (ks : List Nat) : keys (kz ks) = ks := by
  unfold keys kz
  rw [List.map_map]
  exact List.map_id ks
theorem kz_snoc (ks : List Nat) (e : Nat) : kz (ks ++ [e]) = kz ks ++ [(e, 0)] := by
  unfold kz
  rw [List.map_append]
  rfl
abbrev BK (n : Nat) (os : List Op) (i : Nat) (ks : List Nat) (k : Nat) : Prop := BF n os i (kz ks) k
theorem BK.push {n : Nat} {os : List Op} {i : Nat} {ks : List Nat} {k : Nat} (h : BK n os i ks k) {e : Nat} (h1 : e ∉ ks) (h2 : e < n) (h3 : Rch os i e) : BK n os i (ks ++ [e]) k := by
  unfold BK
  rw [kz_snoc]
  exact BF.push h (by rw [keys_kz]; exact h1) h2 h3
theorem BK.one {n : Nat} {os : List Op} {i : Nat} (hi : i < n) : BK n os i [i] 0 := by
  refine ⟨by rw [keys_kz]; simp, ?_, by rw [keys_kz]; simp, ?_, nofun, Nat.zero_le _⟩
  · rw [keys_kz]
    intro x hx
    have : x = i := by simpa using hx
    omega
  · rw [keys_kz]
    intro x hx
    have : x = i := by simpa using hx
    rw [this]; exact .here
theorem BK.len' {n : Nat} {os : List Op} {i : Nat} {ks : List Nat} {k : Nat} (h : BK n os i ks k) : ks.length ≤ n := by
  have := BF.len h
  unfold kz at this
  rwa [List.length_map] at this
theorem BK.le' {n : Nat} {os : List Op} {i : Nat} {ks : List Nat} {k : Nat} (h : BK n os i ks k) : k ≤ ks.length := by
  have := BF.le h
  unfold kz at this
  rwa [List.length_map] at this
theorem BK.lt' {n : Nat} {os : List Op} {i : Nat} {ks : List Nat} {k : Nat} (h : BK n os i ks k) {x : Nat} (hx : x ∈ ks) : x < n := BF.lt h x (by rw [keys_kz]; exact hx)
theorem BK.rc' {n : Nat} {os : List Op} {i : Nat} {ks : List Nat} {k : Nat} (h : BK n os i ks k) {x : Nat} (hx : x ∈ ks) : Rch os i x := BF.rc h x (by rw [keys_kz]; exact hx)
theorem BK.next {n : Nat} {os : List Op} {i : Nat} {ks : List Nat} {k : Nat} (h : BK n os i ks k) {x : Nat} (hx : ks[k]? = some x) (hc : ∀ o ∈ os, o.E x ∈ ks) : BK n os i ks (k + 1) := by
  refine ⟨h.nd, h.lt, h.st, h.rc, ?_, ?_⟩
  · rw [keys_kz]
    intro j hj y hy o ho
    by_cases e : j = k
    · subst e
      rw [hx] at hy
      cases hy
      exact hc o ho
    · have := h.cl j (by omega) y (by rw [keys_kz]; exact hy) o ho
      rwa [keys_kz] at this
  · have := (List.getElem?_eq_some_iff.mp hx).1
    unfold kz
    rw [List.length_map]
    omega
theorem BK.all' {n : Nat} {os : List Op} {i : Nat} {ks : List Nat} {k : Nat} (h : BK n os i ks k) (e : k = ks.length) (x : Nat) : x ∈ ks ↔ Rch os i x := by
  have := BF.all h (by unfold kz; rw [List.length_map]; exact e) x
  rwa [keys_kz] at this
/-! rows of states by states -/
def kvI (p : Nat × List Nat) : Key × D := (.inl (p.1 : Int), .tup (p.2.map dI))
def ks2 (L : List (Nat × List Nat)) : List Nat := L.map (·.1)
theorem dval_I (e : Nat) : ∀ L : List (Nat × List Nat), (dval (L.map kvI) (.inl (e : Int)) = none ∧ e ∉ ks2 L) ∨ ∃ r, dval (L.map kvI) (.inl (e : Int)) = some (.tup (r.map dI)) ∧ (e, r) ∈ L
  | [] => .inl ⟨rfl, by simp [ks2]⟩
  | p :: L => by
    by_cases z : p.1 = e
    · exact .inr ⟨p.2, by simp [dval, kvI, z], by subst z; exact List.mem_cons_self⟩
    · have e1 : dval ((p :: L).map kvI) (.inl (e : Int)) = dval (L.map kvI) (.inl (e : Int)) := by
        unfold dval
        rw [List.map_cons, List.find?_cons_of_neg]
        show ¬ decide ((Sum.inl (p.1 : Int) : Key) = .inl (e : Int)) = true
        intro hd
        have h1 : (p.1 : Int) = (e : Int) := Sum.inl.inj (of_decide_eq_true hd)
        exact z (by omega)
      rw [e1]
      rcases dval_I e L with ⟨a, b⟩ | ⟨y, a, b⟩
      · exact .inl ⟨a, by simp only [ks2, List.map_cons, List.mem_cons]; rintro (h | h); exact z h.symm; exact b h⟩
      · exact .inr ⟨y, a, List.mem_cons_of_mem _ b⟩
theorem dput_I {L : List (Nat × List Nat)} {e : Nat} {r : List Nat} (h : e ∉ ks2 L) : dput (L.map kvI) (.inl (e : Int)) (.tup (r.map dI)) = (L ++ [(e, r)]).map kvI := by
  rw [dput_new]
  · rw [List.map_append]; rfl
  · intro hm
    rw [List.map_map] at hm
    obtain ⟨p, hp, e1⟩ := List.mem_map.mp hm
    have e2 : (Sum.inl (p.1 : Int) : Key) = .inl (e : Int) := e1
    have e3 : (p.1 : Int) = (e : Int) := Sum.inl.inj e2
    exact h (List.mem_map.mpr ⟨p, hp, by omega⟩)
theorem in_ks2 {L : List (Nat × List Nat)} {e : Nat} (h : e ∈ ks2 L) : ∃ r, dval (L.map kvI) (.inl (e : Int)) = some (.tup (r.map dI)) ∧ (e, r) ∈ L := by
  rcases dval_I e L with ⟨a, b⟩ | h2
  · exact absurd h b
  · exact h2
/-- rows of m states below n -/
def RowsOk (n m : Nat) (L : List (Nat × List Nat)) : Prop := ∀ p ∈ L, p.2.length = m ∧ ∀ x ∈ p.2, x < n
section
variable {P : Program} {w : World} {K : PySem.W.Frag} {mg : Str → Option Value} {base : Heap}
def P_images (C : Addr) : DP := fun ds O R _ => ∃ (s : Sto) (o b : Nat) (sh : List Nat), ds = [dSto C s, dI o, .tup ((b :: sh).map dI)] ∧ s.Ok ∧ o < s.offs.length ∧ (∀ x ∈ b :: sh, x < s.size) ∧ sh.length ≤ 1000 ∧
  ∀ L : List (Nat × List Nat), RowsOk s.size (sh.length + 1) L → (∀ j, Rch (opsOf s [o]) b j → j ∈ ks2 L) → R (.dct (L.map kvI)) O
theorem ok_images_by_runs {C : Addr} (F : Df K mg "images_by_runs" (top 47) [] []) (B : Bare mg) (c : StC K C) : Ok P w K mg base 2 "images_by_runs" (top 47) [] [] ["store", "office", "shares"] (P_images C) := by
  have S : FnScope ["store", "office", "shares", "images", "rows", "at", "here", "operation", "ends", "goal", "state"] ["store", "office", "shares"] (defScope (top 47)) := ⟨rfl, rfl, rfl, by decide +kernel, rfl, by decide +kernel, by decide +kernel⟩
  refine fn_mkD F S (fun ds O R Xr ⟨s, o, b, sh, h, _⟩ => (by rw [h]; rfl)) fun f cdv A outer s H E hr Z ds O R Xr ⟨t, o, b, sh, h1, ht, ho, hb, hl, h4⟩ tk => ?_
  subst h1
  have hn2 := ht.n2
  have hok : ∀ p ∈ opsOf t [o], p.Ok t.size := fun p hp => opsOf_ok ht hp
  refine sx_cons (s1_par3 (i := 3) (j := 4) (l := 5) rfl S.nd (by decide) (by decide) (by decide) (ea_cons (ex_disp1 fun pf hm hd => ex_idx (ex_var (i := 2) rfl (ex_int ⟨_, 0, dI b, .inr (.inl rfl), rfl, PD.atI_nat (i := 0) rfl, ex_var (i := 2) rfl ⟨.inl (b : Int), rfl, look_hd, ?_⟩⟩)))))
  rw [setO_hd hd]
  refine ea_cons (ex_lstO (ea_cons (ex_idx (ex_var (i := 2) rfl (ex_int ⟨_, 0, dI b, .inr (.inl rfl), rfl, PD.atI_nat (i := 0) rfl, ea_nil ⟨by show 1 ≤ 1000000; decide, fun pq hm2 hd2 => ?_⟩⟩)))))
  refine ea_cons (ex_int (ea_nil ⟨_, _, _, rfl, ?_⟩))
  have hne : pf ≠ pq := fun z => hd2 (by rw [z]; exact List.mem_map.mpr ⟨_, List.mem_cons_self, rfl⟩)
  have hdq : pq ∉ O.map (·.1) := fun z => hd2 (by rw [List.map_cons]; exact List.mem_cons_of_mem _ z)
  let ow : List (Nat × List Nat) → Own := fun L => (pq, .lst ((ks2 L).map dI)) :: (pf, .dct (L.map kvI)) :: O
  let W : Nat → Slots → Own → Prop := fun m ρ' O' => ∃ (L : List (Nat × List Nat)) (k : Nat) (x y z v : Option D), ρ' = [some (dSto C t), some (dI o), some (.tup ((b :: sh).map dI)), some (.raw (.ref pf)), some (.raw (.ref pq)), some (dI k), x, y, z, v, none] ∧ O' = ow L ∧ BK t.size (opsOf t [o]) b (ks2 L) k ∧ RowsOk t.size (sh.length + 1) L ∧ m = t.size - k
  refine sx_cons (s1_while (passes_of rfl) W t.size ⟨[(b, b :: sh)], 0, none, none, none, none, rfl, rfl, BK.one (hb b List.mem_cons_self), ?_, rfl⟩ ?_)
  · intro p hp
    have : p = (b, b :: sh) := by simpa using hp
    subst this
    exact ⟨rfl, hb⟩
  rintro m ρ' O' ⟨L, k, x, y, z, v, rfl, rfl, bk, rok, rfl⟩
  have hlq : ((ks2 L).map dI).length = (ks2 L).length := List.length_map ..
  refine et_lt (ex_var (i := 5) rfl (ex_len B (ex_var (i := 4) rfl ⟨(ks2 L).map dI, .inl (.ow look_hd), (k : Int), _, rfl, rfl, fun hlt => ?_, fun hge => ?_⟩)))
  · have hk : k < (ks2 L).length := by
      have := of_decide_eq_true hlt
      rw [hlq] at this
      omega
    obtain ⟨r0, hr0⟩ : ∃ r, (ks2 L)[k]? = some r := ⟨_, List.getElem?_eq_getElem hk⟩
    have hmem : r0 ∈ ks2 L := List.mem_of_getElem? hr0
    have hr0n : r0 < t.size := bk.lt' hmem
    obtain ⟨row, hrow1, hrow2⟩ := in_ks2 hmem
    obtain ⟨hrl, hrb⟩ := rok _ hrow2
    have atq : ∀ L' : List (Nat × List Nat), (ks2 L')[k]? = some r0 → atI ((ks2 L').map dI) (k : Int) = some (dI r0) := fun L' h => PD.atI_nat (by rw [List.getElem?_map, h]; rfl)
    refine sx_cons (s1_set (i := 6) S.nd (ex_dget (hu_of hr) (ex_var (i := 3) rfl (ex_idx (ex_var (i := 4) rfl (ex_var (i := 5) rfl ⟨_, (k : Int), dI r0, .inl (.ow look_hd), rfl, atq L hr0, L.map kvI, .inl (r0 : Int), _, .ow (look_2 hne), rfl, hrow1, ?_⟩))))))
    refine sx_cons (s1_for (passes_of rfl) rfl (ix_tup (ex_idx (ex_offs (i := 0) c rfl (ex_var (i := 1) rfl ⟨_, (o : Int), _, .inr (.inl rfl), rfl, off_at ho, _, rfl, ?_⟩)))))
    rw [← opsOf_one]
    refine ⟨fun j ρ' O' => ∃ (L' : List (Nat × List Nat)) (y z v : Option D), ρ' = [some (dSto C t), some (dI o), some (.tup ((b :: sh).map dI)), some (.raw (.ref pf)), some (.raw (.ref pq)), some (dI k), some (.tup (row.map dI)), y, z, v, none] ∧ O' = ow L' ∧ BK t.size (opsOf t [o]) b (ks2 L') k ∧ RowsOk t.size (sh.length + 1) L' ∧ (ks2 L')[k]? = some r0 ∧ ∀ j', j' < j → ∀ p, (opsOf t [o])[j']? = some p → p.E r0 ∈ ks2 L', ⟨L, y, z, v, rfl, rfl, bk, rok, hr0, nofun⟩, fun _ _ _ _ => trivial, ?_, ?_⟩
    · rintro j d ρ' O' hj ⟨L', y, z, v, rfl, rfl, bk', rok', hk', hcl⟩
      obtain ⟨p, hp, rfl⟩ : ∃ p, (opsOf t [o])[j]? = some p ∧ d = dOp p := by
        rw [List.getElem?_map] at hj
        obtain ⟨p, a, e⟩ := Option.map_eq_some_iff.mp hj
        exact ⟨p, a, e.symm⟩
      have hpm := List.mem_of_getElem? hp
      have hpo := hok p hpm
      have hin' : r0 ∈ ks2 L' := List.mem_of_getElem? hk'
      refine gx_name (i := 7) ?_ S.nd
      refine sx_cons (s1_set (i := 8) S.nd (ex_idx (ex_var (i := 7) rfl (ex_int ⟨_, 1, _, .inr (.inl rfl), rfl, (by rfl : atI _ (1 : Int) = some (.tup (p.ends.map dI))), ?_⟩))))
      refine sx_cons (s1_set (i := 9) S.nd (ex_idx (ex_var (i := 8) rfl (ex_idx (ex_var (i := 4) rfl (ex_var (i := 5) rfl ⟨_, (k : Int), dI r0, .inl (.ow look_hd), rfl, atq L' hk', _, (r0 : Int), _, .inr (.inl rfl), rfl, at_ends hpo hr0n, ?_⟩))))))
      have hlen := bk'.len'
      refine sx_one (s1_if (et_dnotin (hu_of hr) (ex_var (i := 9) rfl (ex_var (i := 3) rfl ⟨L'.map kvI, .inl (p.E r0 : Int), .ow (look_2 hne), rfl, fun hnew => ?_, fun hold => ?_⟩))))
      · have hn : p.E r0 ∉ ks2 L' := by
          rcases dval_I (p.E r0) L' with ⟨a, b⟩ | ⟨z, a, b⟩
          · exact b
          · rw [a] at hnew; cases hnew
        have hl2 : L'.length ≤ 1000 := by
          have : (ks2 L').length = L'.length := List.length_map ..
          omega
        refine sx_cons (s1_dput (hu_of hr) (ex_tuple B (ex_map (j := 10) (own := [("state", 10)]) rfl S.nd (blkOk_by (by kernel_rfl)) rfl (fun _ _ => Or.inl rfl) (.inr fun _ _ => rfl) rfl (ix_tup (ex_var (i := 6) rfl ⟨_, rfl, fun _ _ _ _ => trivial, fun d => dI (p.E (unI d)), ?_, fun s2 H2 C2 cl2 fp2 q d Lp cp hmp hdp hq => ?_, ?_⟩)))))
        · rw [List.length_map, hrl]; omega
        · obtain ⟨u, hu, rfl⟩ := Option.map_eq_some_iff.mp (by rw [List.getElem?_map] at hq; exact hq)
          have hun := hrb u (List.mem_of_getElem? hu)
          refine ex_idx (ex_var (i := 8) rfl (ex_var (i := 10) rfl ⟨_, (u : Int), _, .inr (.inl rfl), rfl, at_ends hpo hun, rfl, ?_⟩))
          show dI (p.E u) = dI (p.E (unI (dI u)))
          rw [unI_d]
        · refine ⟨_, .inl rfl, ex_var (i := 3) rfl (ex_var (i := 9) rfl ⟨pf, L'.map kvI, .inl (p.E r0 : Int), rfl, look_2 hne, rfl, by rw [List.length_map]; omega, ?_⟩)⟩
          have erow : (row.map dI).map (fun d => dI (p.E (unI d))) = (row.map p.E).map dI := by
            rw [List.map_map, List.map_map]
            refine List.map_congr_left fun u _ => ?_
            show dI (p.E (unI (dI u))) = dI (p.E u)
            rw [unI_d]
          rw [erow, dput_I hn]
          show SX _ _ _ _ (setO ((pq, OC.lst ((ks2 L').map dI)) :: (pf, OC.dct (L'.map kvI)) :: O) pf (.dct ((L' ++ [(p.E r0, row.map p.E)]).map kvI))) _
          rw [setO_2 hne hd]
          refine sx_one (s1_expr (ex_append (ex_var (i := 4) rfl ⟨pq, _, rfl, look_hd, ex_var (i := 9) rfl ⟨_, look_hd, by rw [List.length_map]; omega, ?_⟩⟩)))
          rw [setO_hd (by rw [List.map_cons]; intro hx; rcases List.mem_cons.mp hx with hx | hx; exact hne hx.symm; exact hdq hx)]
          have ek : ks2 (L' ++ [(p.E r0, row.map p.E)]) = ks2 L' ++ [p.E r0] := by simp [ks2]
          refine ⟨L' ++ [(p.E r0, row.map p.E)], _, _, _, rfl, ?_, ?_, ?_, ?_, ?_⟩
          · show _ = (pq, OC.lst ((ks2 (L' ++ [(p.E r0, row.map p.E)])).map dI)) :: _
            rw [ek, List.map_append (f := dI)]
            rfl
          · rw [ek]
            exact bk'.push hn (hpo.lt hr0n) (.go (bk'.rc' hin') hpm)
          · intro q hq
            rcases List.mem_append.mp hq with hq | hq
            · exact rok' q hq
            · have : q = (p.E r0, row.map p.E) := by simpa using hq
              subst this
              refine ⟨by rw [List.length_map]; exact hrl, fun u hu => ?_⟩
              obtain ⟨u', hu', rfl⟩ := List.mem_map.mp hu
              exact hpo.lt (hrb u' hu')
          · rw [ek, List.getElem?_append_left (List.getElem?_eq_some_iff.mp hk').1]
            exact hk'
          · intro j' hj' o' ho'
            rw [ek]
            by_cases e : j' = j
            · subst e
              rw [hp] at ho'
              cases ho'
              exact List.mem_append_right _ (by simp)
            · exact List.mem_append_left _ (hcl j' (by omega) o' ho')
      · refine sx_nil ⟨L', _, _, _, rfl, rfl, bk', rok', hk', ?_⟩
        have hn : p.E r0 ∈ ks2 L' := by
          rcases dval_I (p.E r0) L' with ⟨a, b⟩ | ⟨z, a, b⟩
          · rw [a] at hold; cases hold
          · exact List.mem_map.mpr ⟨_, b, rfl⟩
        intro j' hj' o' ho'
        by_cases e : j' = j
        · subst e
          rw [hp] at ho'
          cases ho'
          exact hn
        · exact hcl j' (by omega) o' ho'
    · rintro ρ' O' ⟨L', y, z, v, rfl, rfl, bk', rok', hk', hcl⟩
      have hlen := bk'.len'
      have hkl := (List.getElem?_eq_some_iff.mp hk').1
      refine sx_one (s1_augI S.nd ip_add (i := 5) (ex_int ⟨(k : Int), 1, rfl, rfl, ?_⟩) rfl)
      refine ⟨t.size - (k + 1), by omega, L', k + 1, _, _, _, _, rfl, rfl, bk'.next hk' ?_, rok', rfl⟩
      intro p hp
      obtain ⟨j', hj', ej⟩ := List.mem_iff_getElem.mp hp
      exact hcl j' (by rw [List.length_map]; exact hj') p (by rw [List.getElem?_eq_getElem hj', ej])
  · have hk : k = (ks2 L).length := by
      have := of_decide_eq_false hge
      rw [hlq] at this
      have := bk.le'
      omega
    refine sx_one (s1_ret (ex_drop (ex_frz (ex_var (i := 3) rfl ⟨pf, .dct (L.map kvI), (pq, .lst ((ks2 L).map dI)) :: O, rfl, hm, .swap _ _ _, O, List.sublist_cons_self _ _, ?_⟩))))
    exact h4 L rok fun j hj => (bk.all' hk j).mpr hj
end
end K76

set_option Elab.async false
set_option linter.all false
set_option autoImplicit false
set_option maxRecDepth 100000
set_option maxHeartbeats 2000000
/-! k76, part N: Shared, shared_group. -/
namespace K76
open PySem PySem.Spec L2 PD
open PyProof.Rows hiding St
/-! places -/
def plc : Nat → List Nat → List (Key × D)
  | _, [] => []
  | i, x :: xs => (.inl (x : Int), dI i) :: plc (i + 1) xs
def gP : D → List (Key × D)
  | .tup [.int i, .int x] => [(.inl x, .int i)]
  | _ => []
theorem enum_plc : ∀ (xs : List Nat) (k : Nat), ((xs.map dI).mapIdx fun i d => D.tup [.int ((k + i : Nat) : Int), d]).flatMap gP = plc k xs
  | [], _ => rfl
  | x :: xs, k => by
    rw [List.map_cons, List.mapIdx_cons, List.flatMap_cons]
    unfold plc
    show (Sum.inl (x : Int), D.int ((k + 0 : Nat) : Int)) :: _ = _
    rw [← enum_plc xs (k + 1)]
    have e : (fun (i : Nat) (d : D) => D.tup [D.int ((k + (i + 1) : Nat) : Int), d]) = fun i d => D.tup [D.int ((k + 1 + i : Nat) : Int), d] := by
      funext i d
      rw [show k + 1 + i = k + (i + 1) by omega]
    rw [e]
    rfl
theorem enum_plc0 (xs : List Nat) : (enumD (xs.map dI)).flatMap gP = plc 0 xs := by
  have := enum_plc xs 0
  simp only [Nat.zero_add] at this
  exact this
theorem plc_keys : ∀ (xs : List Nat) (k : Nat), (plc k xs).map (·.1) = xs.map fun x : Nat => (Sum.inl (x : Int) : Key)
  | [], _ => rfl
  | x :: xs, k => by
    unfold plc
    rw [List.map_cons, List.map_cons, plc_keys xs (k + 1)]
theorem plc_len (xs : List Nat) (k : Nat) : (plc k xs).length = xs.length := by
  have := congrArg List.length (plc_keys xs k)
  simpa using this
theorem plc_dputs {xs : List Nat} (h : xs.Nodup) : dputs (plc 0 xs) = plc 0 xs := by
  apply dputs_nodup
  rw [plc_keys, List.Nodup, List.pairwise_map]
  exact h.imp fun {a b} hne e => hne (by have : (a : Int) = (b : Int) := Sum.inl.inj e; omega)
theorem dval_plc (x : Nat) : ∀ (xs : List Nat) (k : Nat), x ∈ xs → dval (plc k xs) (.inl (x : Int)) = some (dI (k + xs.idxOf x))
  | [], _, h => by cases h
  | y :: xs, k, h => by
    unfold plc
    by_cases z : y = x
    · subst z
      simp [dval, List.idxOf_cons]
    · have e1 : dval ((Sum.inl (y : Int), dI k) :: plc (k + 1) xs) (.inl (x : Int)) = dval (plc (k + 1) xs) (.inl (x : Int)) := by
        unfold dval
        rw [List.find?_cons_of_neg]
        show ¬ decide ((Sum.inl (y : Int) : Key) = .inl (x : Int)) = true
        intro hd
        have h1 : (y : Int) = (x : Int) := Sum.inl.inj (of_decide_eq_true hd)
        exact z (by omega)
      rw [e1, dval_plc x xs (k + 1) ((List.mem_cons.mp h).resolve_left fun e => z e.symm)]
      rw [List.idxOf_cons, beq_false_of_ne z]
      show some (dI (k + 1 + xs.idxOf x)) = some (dI (k + (xs.idxOf x + 1)))
      rw [show k + 1 + xs.idxOf x = k + (xs.idxOf x + 1) by omega]
theorem shD_mem {n b x : Nat} (hb : b < n) : x ∈ shD n b ↔ x < n := by
  unfold shD
  rw [List.mem_cons, List.mem_filter, List.mem_range]
  constructor
  · rintro (rfl | ⟨h, _⟩)
    · exact hb
    · exact h
  · intro h
    by_cases z : x = b
    · exact .inl z
    · exact .inr ⟨h, by simpa using z⟩
theorem shD_nd {n b : Nat} : (shD n b).Nodup := by
  unfold shD
  rw [List.nodup_cons]
  refine ⟨fun h => ?_, List.nodup_range.filter _⟩
  have := (List.mem_filter.mp h).2
  simp at this
theorem shD_len {n b : Nat} (hb : b < n) : (shD n b).length ≤ n := nd_lt shD_nd fun x hx => (shD_mem hb).mp hx
section
variable {P : Program} {w : World} {K : PySem.W.Frag} {mg : Str → Option Value} {base : Heap}
/-- the class Shared -/
structure ShC (K : PySem.W.Frag) (C : Addr) : Prop where
  c : Cls K C
  a1 : NoAttr K C "table"
  a2 : NoAttr K C "shares"
def P_shared_init (C : Addr) : DP := fun ds O R _ => ∃ (p : Addr) (d1 d2 : D) (O' : Own), ds = [.raw (.ref p), d1, d2] ∧ O = (p, .obj C []) :: O' ∧ p ∉ O'.map (·.1) ∧ R .non ((p, .obj C [("table", d1), ("shares", d2)]) :: O')
theorem ok_shared_init {C : Addr} (F : Ci K mg "Shared" "Shared.__init__" C (mem (top 44) 0)) (c : ShC K C) : MkOk P w K mg base 1 "Shared" C ["self", "table", "shares"] (P_shared_init C) := by
  have S : FnScope ["self", "table", "shares"] ["self", "table", "shares"] (defScope (mem (top 44) 0)) := ⟨rfl, rfl, rfl, by decide +kernel, rfl, by decide +kernel, by decide +kernel⟩
  refine fn_mkI F S (fun ds O R Xr ⟨p, d1, d2, O', h, _⟩ => (by rw [h]; rfl)) (fun _ _ _ _ _ _ us hl => match us, hl with | [_, _, _], _ => rfl) fun f cdv A outer s H E hr Z ds O R Xr ⟨p, d1, d2, O', h1, h2, hp, h4⟩ tk => ?_
  subst h1 h2
  refine sx_cons (s1_fld c.c c.a1 (ex_var (i := 1) rfl (ex_var (i := 0) rfl ⟨p, [], rfl, look_hd, by decide, rfl, ?_⟩)))
  rw [setO_hd hp]
  refine sx_one (s1_fld c.c c.a2 (ex_var (i := 2) rfl (ex_var (i := 0) rfl ⟨p, [("table", d1)], rfl, look_hd, by show 1 ≤ 900; decide, rfl, ?_⟩)))
  rw [setO_hd hp]
  exact h4
def P_group (C CS : Addr) : DP := fun ds O R _ => ∃ (s : Sto) (o b : Nat), ds = [dSto C s, dI o, dI b] ∧ s.Ok ∧ o < s.offs.length ∧ b < s.size ∧ haveClash s = false ∧ revB s = true ∧ (∀ j, j < s.size → Rch (opsOf s [o]) b j) ∧ (∀ j, j < s.size → Rch (opsOf s (othersD s.offs.length [o])) b j) ∧
  ∀ d1 : D, R (.obj CS [("table", d1), ("shares", .tup ((shD s.size b).map dI))]) O
theorem ok_shared_group {C CS : Addr} (F : Df K mg "shared_group" (top 48) [] [("office", .int 0), ("base", .int 0)]) (B : Bare mg) (c : StC K C)
    (I1 : Ok P w K mg base 11 "need_group" (top 45) [] [] ["store", "office", "base"] (P_need_group C)) (I2 : Ok P w K mg base 9 "shares_of_cell" (top 46) [] [] ["store", "office", "base"] (P_shares C))
    (I3 : Ok P w K mg base 2 "images_by_runs" (top 47) [] [] ["store", "office", "shares"] (P_images C)) (I4 : MkOk P w K mg base 1 "Shared" CS ["self", "table", "shares"] (P_shared_init CS)) :
    Ok P w K mg base 12 "shared_group" (top 48) [] [("office", .int 0), ("base", .int 0)] ["store", "office", "base"] (P_group C CS) := by
  have S : FnScope ["store", "office", "base", "shares", "places", "images", "table", "at", "state", "share"] ["store", "office", "base"] (defScope (top 48)) := ⟨rfl, rfl, rfl, by decide +kernel, rfl, by decide +kernel, by decide +kernel⟩
  refine fn_mkD F S (fun ds O R Xr ⟨s, o, b, h, _⟩ => (by rw [h]; rfl)) fun f cdv A outer s H E hr Z ds O R Xr ⟨t, o, b, h1, ht, ho, hb, hc, hv, ha1, ha2, h4⟩ tk => ?_
  subst h1
  have hn2 := ht.n2
  have hsl := shD_len hb
  refine sx_cons (s1_expr (ex_fn I1 (by decide) hr (fun _ _ _ _ _ _ us hl => match us, hl with | [_, _, _], _ => rfl) tkd0 (ea_cons (ex_var (i := 0) rfl (ea_cons (ex_var (i := 1) rfl (ea_cons (ex_var (i := 2) rfl (ea_nil ⟨t, o, b, rfl, ht, ho, hb, hc, hv, ?_⟩)))))))))
  refine sx_cons (s1_set (i := 3) S.nd (ex_fn I2 (by decide) hr (fun _ _ _ _ _ _ us hl => match us, hl with | [_, _, _], _ => rfl) tkd0 (ea_cons (ex_var (i := 0) rfl (ea_cons (ex_var (i := 1) rfl (ea_cons (ex_var (i := 2) rfl (ea_nil ⟨t, o, b, rfl, ht, ho, hb, ha1, ha2, ?_⟩)))))))))
  refine sx_cons (s1_set (i := 4) S.nd (ex_frz (ex_dcO (own := [("at", 7), ("state", 8)]) rfl S.nd (blkOk_by (by kernel_rfl)) (ix_enumT (B _ (by decide)) (ex_var (i := 3) rfl ⟨_, rfl, fun _ _ _ _ => trivial, gP, ?_, fun s3 H3 C3 cl3 fp3 => ?_, fun p hp hd2 => ⟨p, _, _, rfl, hp, .refl _, ?_⟩⟩)))))
  · rw [enum_plc0, plc_len]; omega
  · intro k d L3 c3 hm3 hd3 hk
    obtain ⟨d1, hd1, rfl⟩ := enumD_at hk
    obtain ⟨x, hx, rfl⟩ := Option.map_eq_some_iff.mp (by rw [List.getElem?_map] at hd1; exact hd1)
    refine gx_tup rfl (gxs_cons (gx_name (i := 7) (gxs_cons (gx_name (i := 8) (gxs_nil ⟨rfl, ts_nil ⟨rfl, fun _ => ?_, nofun⟩⟩) S.nd)) S.nd))
    exact axk_put rfl (Fewer.set rfl (Fewer.set rfl (Fewer.refl _))) fun D4 c4 hm4 hd4 => ex_var (i := 8) rfl (ex_var (i := 7) rfl ⟨rfl, .inl (x : Int), rfl, rfl⟩)
  rw [enum_plc0, plc_dputs shD_nd]
  refine sx_cons (s1_set (i := 5) S.nd (ex_fn I3 (by decide) hr (fun _ _ _ _ _ _ us hl => match us, hl with | [_, _, _], _ => rfl) tkd0 (ea_cons (ex_var (i := 0) rfl (ea_cons (ex_var (i := 1) rfl (ea_cons (ex_var (i := 3) rfl (ea_nil ⟨t, o, b, (List.range t.size).filter fun j => !decide (j = b), rfl, ht, ho, fun x hx => (shD_mem hb).mp hx, ?_, fun L rok hall => ?_⟩)))))))))
  · have : ((List.range t.size).filter fun j => !decide (j = b)).length + 1 ≤ t.size := hsl
    omega
  have hrow : ∀ x, x < t.size → ∃ r : List Nat, dval (L.map kvI) (.inl (x : Int)) = some (.tup (r.map dI)) ∧ r.length ≤ 1000 ∧ ∀ y ∈ r, y < t.size := fun x hx => by
    obtain ⟨r, h1, h2⟩ := in_ks2 (hall x (ha1 x hx))
    obtain ⟨h3, h5⟩ := rok _ h2
    refine ⟨r, h1, ?_, h5⟩
    have : ((List.range t.size).filter fun j => !decide (j = b)).length + 1 ≤ t.size := hsl
    have h3 : r.length = ((List.range t.size).filter fun j => !decide (j = b)).length + 1 := h3
    omega
  let fT : D → D := fun d => match dval (L.map kvI) (.inl (unI d : Int)) with
    | some (.tup ds) => .tup (ds.map fun e => (dval (plc 0 (shD t.size b)) (.inl (unI e : Int))).getD .non)
    | _ => .non
  refine sx_cons (s1_setLc (i := 6) (own := [("share", 9)]) rfl S.nd (blkOk_by (by kernel_rfl)) (ix_tup (ex_var (i := 3) rfl ⟨_, rfl, fun _ _ _ _ => trivial, fun d => [fT d], ?_, fun s2 H2 C2 cl2 fp2 j d L1 cc hm hd hj => ?_, ?_⟩)))
  · rw [flat_map, List.length_map, List.length_map]; omega
  · obtain ⟨x, hx, rfl⟩ := Option.map_eq_some_iff.mp (by rw [List.getElem?_map] at hj; exact hj)
    have hxn : x < t.size := (shD_mem hb).mp (List.mem_of_getElem? hx)
    obtain ⟨r, hr1, hr2, hr3⟩ := hrow x hxn
    refine gx_name (i := 9) ⟨rfl, Fewer.set rfl (Fewer.refl _), ts_nil ⟨rfl, fun _ L2 c2 hm2 hd2 => ?_, nofun⟩⟩ S.nd
    refine ex_tuple B (ex_map (j := 8) (own := [("state", 8)]) rfl S.nd (blkOk_by (by kernel_rfl)) rfl (fun _ _ => Or.inl rfl) (.inr fun _ _ => rfl) rfl (ix_tup (ex_dget (hu_of hr) (ex_var (i := 5) rfl (ex_var (i := 9) rfl ⟨L.map kvI, .inl (x : Int), _, .fr, rfl, hr1, _, rfl, fun _ _ _ _ => trivial, fun e => (dval (plc 0 (shD t.size b)) (.inl (unI e : Int))).getD .non, ?_, fun s4 H4 C4 cl4 fp4 q d4 L4 c4 hm4 hd4 hq => ?_, _, .inl rfl, rfl, ?_⟩)))))
    · rw [List.length_map]; omega
    · obtain ⟨y, hy, rfl⟩ := Option.map_eq_some_iff.mp (by rw [List.getElem?_map] at hq; exact hq)
      have hyn := hr3 y (List.mem_of_getElem? hy)
      have hdv := dval_plc y (shD t.size b) 0 ((shD_mem hb).mpr hyn)
      refine ex_dget (hu_of hr) (ex_var (i := 4) rfl (ex_var (i := 8) rfl ⟨plc 0 (shD t.size b), .inl (y : Int), _, .fr, rfl, hdv, rfl, ?_⟩))
      show _ = (dval (plc 0 (shD t.size b)) (.inl (unI (dI y) : Int))).getD .non
      rw [unI_d, hdv]
      rfl
    · show [fT (dI x)] = _
      show [match dval (L.map kvI) (.inl (unI (dI x) : Int)) with
        | some (.tup ds) => D.tup (ds.map fun e => (dval (plc 0 (shD t.size b)) (.inl (unI e : Int))).getD .non)
        | _ => .non] = _
      rw [unI_d, hr1]
  refine sx_one (s1_ret (ex_frz (ex_mk I4 (by decide) hr tkd0 (ea_cons (ex_tuple B (ex_var (i := 6) rfl ⟨_, .inl rfl, ea_cons (ex_var (i := 3) rfl (ea_nil fun p hp hpO => ⟨p, _, _, O, rfl, rfl, hpO, rfl, p, _, O, rfl, hp, .refl _, h4 _⟩))⟩))))))
end
end K76

set_option Elab.async false
set_option linter.all false
set_option autoImplicit false
set_option maxRecDepth 100000
set_option maxHeartbeats 2000000
/-! k76, part O: multipliers. -/
namespace K76
open PySem PySem.Spec L2 PD
open PyProof.Rows hiding St
section
variable {P : Program} {w : World} {K : PySem.W.Frag} {mg : Str → Option Value} {base : Heap}
/-- the place of a state among the shares of a base -/
def plcOf (n b x : Nat) : Nat := (shD n b).idxOf x
def kvM (s : Sto) (b : Nat) (o : Op) : Key × D := (.inr o.name, dI (plcOf s.size b (o.E b)))
def P_mult (C Cr Cn : Addr) : DP := fun ds O R Xr => ∃ (s : Sto) (d : D), ds = [dSto C s, d] ∧ s.Ok ∧ Ty d ∧ (isB (s.size : Int) d = false → Xr Cn (.str "base") O) ∧ (isB (s.size : Int) d = true → (haveClash s = true → Xr Cr (.str "seen") O) ∧ (haveClash s = false → revB s = false → Xr Cr (.str "oneway") O) ∧
  (haveClash s = false → revB s = true → (loneL s).length < 2 → Xr Cr (.str "alone") O) ∧ (haveClash s = false → revB s = true → 2 ≤ (loneL s).length → ∀ b : Nat, d = dI b → ∀ p, p ∉ O.map (·.1) → R (.raw (.ref p)) ((p, .dct (s.ops.map (kvM s b))) :: O)))
theorem isB_inv {n : Nat} {d : D} (h : isB (n : Int) d = true) : ∃ b : Nat, d = dI b ∧ b < n := by
  cases d with
  | int i =>
    have h : (decide (0 ≤ i) && decide (i < (n : Int))) = true := h
    rw [Bool.and_eq_true] at h
    have h1 := of_decide_eq_true h.1
    have h2 := of_decide_eq_true h.2
    refine ⟨i.toNat, ?_, by omega⟩
    show D.int i = D.int (i.toNat : Int)
    congr 1
    omega
  | _ => cases h
theorem loneL_nd {s : Sto} : (loneL s).Nodup := List.nodup_range.filter _
theorem opsM_dputs {s : Sto} (h : s.Ok) (b : Nat) : dputs (s.ops.map (kvM s b)) = s.ops.map (kvM s b) := by
  apply dputs_nodup
  rw [List.map_map]
  have := h.nd
  have e : (s.ops.map ((fun x => x.1) ∘ kvM s b)) = (s.ops.map Op.name).map (Sum.inr : Str → Key) := by rw [List.map_map]; rfl
  rw [e]
  rw [List.Nodup, List.pairwise_map]
  exact this.imp fun h e => h (Sum.inr.inj e)
def gM (n b : Nat) : D → List (Key × D)
  | .tup [.str nm, o] => [(.inr nm, dI (plcOf n b ((unOp o).E b)))]
  | _ => []
theorem ok_multipliers {C CS Cr Cn : Addr} (F : Df K mg "multipliers" (top 61) [] [("base", .int 0)]) (B : Bare mg) (c : StC K C) (cs : ShC K CS) (N : Rfs P K mg Cr Cn)
    (I1 : Ok P w K mg base 5 "need_base" (top 50) [] [] ["store", "base"] (P_need_base C Cn)) (I2 : Ok P w K mg base 10 "need_unseen_reversible" (top 42) [] [] ["store"] (P_need_unseen C Cr))
    (I3 : Ok P w K mg base 12 "lone_offices" (top 60) [] [] ["store"] (P_lone C)) (I4 : Ok P w K mg base 12 "shared_group" (top 48) [] [("office", .int 0), ("base", .int 0)] ["store", "office", "base"] (P_group C CS))
    (I5 : Ok P w K mg base 2 "operation_table" (top 31) [] [] ["store"] (P_op_table C)) : Ok P w K mg base 13 "multipliers" (top 61) [] [("base", .int 0)] ["store", "base"] (P_mult C Cr Cn) := by
  obtain ⟨fI, T⟩ := N.r
  have S : FnScope ["store", "base", "lone", "shares", "places", "at", "state", "name", "operation"] ["store", "base"] (defScope (top 61)) := ⟨rfl, rfl, rfl, by decide +kernel, rfl, by decide +kernel, by decide +kernel⟩
  refine fn_mkD F S (fun ds O R Xr ⟨s, d, h, _⟩ => (by rw [h]; rfl)) fun f cdv A outer s H E hr Z ds O R Xr ⟨t, d, h1, ht, hd, h4, h5⟩ tk => ?_
  subst h1
  have hn2 := ht.n2
  refine sx_cons (s1_expr (ex_fn I1 (by decide) hr (fun _ _ _ _ _ _ us hl => match us, hl with | [_, _], _ => rfl) tk (ea_cons (ex_var (i := 0) rfl (ea_cons (ex_var (i := 1) rfl (ea_nil ⟨t, d, rfl, hd, fun hb => ?_, h4⟩)))))))
  obtain ⟨h6, h7, h8, h9⟩ := h5 hb
  obtain ⟨b, rfl, hbn⟩ := isB_inv hb
  refine sx_cons (s1_expr (ex_fn I2 (by decide) hr (fun _ _ _ _ _ _ us hl => match us, hl with | [_], _ => rfl) tk (ea_cons (ex_var (i := 0) rfl (ea_nil ⟨t, rfl, ht, h6, h7, fun hc hv => ?_⟩)))))
  refine sx_cons (s1_set (i := 2) S.nd (ex_fn I3 (by decide) hr (fun _ _ _ _ _ _ us hl => match us, hl with | [_], _ => rfl) tkd0 (ea_cons (ex_var (i := 0) rfl (ea_nil ⟨t, rfl, ht, ?_⟩)))))
  refine sx_cons (s1_if (et_lt (ex_len B (ex_var (i := 2) rfl ⟨_, .inr (.inl rfl), ex_int ⟨_, 2, rfl, rfl, fun hlt => ?_, fun hge => sx_nil ?_⟩⟩))))
  · have h := of_decide_eq_true hlt
    rw [List.length_map] at h
    exact sx_one (s1_raise rfl T N.gr hr tk (ex_str (h8 hc hv (by omega))))
  have h2 : 2 ≤ (loneL t).length := by
    have h := of_decide_eq_false hge
    rw [List.length_map] at h
    omega
  obtain ⟨o1, o2, l, hl⟩ : ∃ o1 o2 l, loneL t = o1 :: o2 :: l := by
    cases e : loneL t with
    | nil => rw [e] at h2; simp at h2
    | cons a l =>
      cases l with
      | nil => rw [e] at h2; simp at h2
      | cons b l => exact ⟨a, b, l, rfl⟩
  have hm1 := loneL_mem.mp (by rw [hl]; exact List.mem_cons_self : o1 ∈ loneL t)
  have hm2 := loneL_mem.mp (by rw [hl]; exact List.mem_cons_of_mem _ List.mem_cons_self : o2 ∈ loneL t)
  have hne : o1 ≠ o2 := by
    have := loneL_nd (s := t)
    rw [hl, List.nodup_cons] at this
    exact fun e => this.1 (by rw [e]; exact List.mem_cons_self)
  have ha1 : ∀ j, j < t.size → Rch (opsOf t [o1]) b j := fun j hj => by rw [opsOf_one]; exact hm1.2 b j hbn hj
  have ha2 : ∀ j, j < t.size → Rch (opsOf t (othersD t.offs.length [o1])) b j := fun j hj => by
    refine (hm2.2 b j hbn hj).mono fun p hp => ?_
    refine List.mem_flatMap.mpr ⟨o2, ?_, hp⟩
    unfold othersD
    refine List.mem_filter.mpr ⟨List.mem_range.mpr hm2.1, ?_⟩
    simpa using fun e => hne e.symm
  refine sx_cons (s1_set (i := 3) S.nd (ex_fld (f := "shares") cs.c cs.a2 (ex_fnKs (n := 1) (ks := ["office", "base"]) I4 (by decide) hr (fun _ _ _ _ _ _ us ws l1 l2 => match us, ws, l1, l2 with | [_], [_, _], _, _ => rfl) tkd0 (ea_cons (ex_var (i := 0) rfl (ea_nil (ek_cons (ex_idx (ex_var (i := 2) rfl (ex_int ⟨_, 0, dI o1, .inr (.inl rfl), rfl, by rw [hl]; exact PD.atI_nat (i := 0) rfl, ek_cons (ex_var (i := 1) rfl (ek_nil ⟨rfl, rfl, t, o1, b, rfl, ht, hm1.1, hbn, hc, hv, ha1, ha2, fun d1 => ⟨_, _, .inl rfl, rfl, ?_⟩⟩))⟩))))))))))
  have hsl := shD_len hbn
  refine sx_cons (s1_set (i := 4) S.nd (ex_frz (ex_dcO (own := [("at", 5), ("state", 6)]) rfl S.nd (blkOk_by (by kernel_rfl)) (ix_enumT (B _ (by decide)) (ex_var (i := 3) rfl ⟨_, rfl, fun _ _ _ _ => trivial, gP, ?_, fun s3 H3 C3 cl3 fp3 => ?_, fun p hp hd2 => ⟨p, _, _, rfl, hp, .refl _, ?_⟩⟩)))))
  · rw [enum_plc0, plc_len]; omega
  · intro k d L3 c3 hm3 hd3 hk
    obtain ⟨d1, hd1, rfl⟩ := enumD_at hk
    obtain ⟨x, hx, rfl⟩ := Option.map_eq_some_iff.mp (by rw [List.getElem?_map] at hd1; exact hd1)
    refine gx_tup rfl (gxs_cons (gx_name (i := 5) (gxs_cons (gx_name (i := 6) (gxs_nil ⟨rfl, ts_nil ⟨rfl, fun _ => ?_, nofun⟩⟩) S.nd)) S.nd))
    exact axk_put rfl (Fewer.set rfl (Fewer.set rfl (Fewer.refl _))) fun D4 c4 hm4 hd4 => ex_var (i := 6) rfl (ex_var (i := 5) rfl ⟨rfl, .inl (x : Int), rfl, rfl⟩)
  rw [enum_plc0, plc_dputs shD_nd]
  have key : (itemsD (t.ops.map kvOp)).flatMap (gM t.size b) = t.ops.map (kvM t b) := by
    unfold itemsD
    rw [List.map_map, List.flatMap_map]
    generalize t.ops = l
    induction l with
    | nil => rfl
    | cons o l ih =>
      rw [List.flatMap_cons, ih]
      show (Sum.inr o.name, dI (plcOf t.size b ((unOp (dOp o)).E b))) :: _ = _
      rw [unOp_d]
      rfl
  refine sx_one (s1_ret (ex_dcO (own := [("name", 7), ("operation", 8)]) rfl S.nd (blkOk_by (by kernel_rfl)) (ix_items (ex_fnN I5 (by decide) hr (fun _ _ _ _ _ _ us hl => match us, hl with | [_], _ => rfl) tkd0 (ea_cons (ex_var (i := 0) rfl (ea_nil ⟨t, rfl, ht, fun p hp hN => ⟨p, _, O, rfl, hN p (List.mem_cons_self ..) hp, .refl _, fun _ _ _ _ => trivial, gM t.size b, ?_, fun s3 H3 C3 cl3 fp3 => ?_, fun q hq hqd => ?_⟩⟩)))))))
  · rw [key, List.length_map]
    have := ht.few
    omega
  · intro k d L3 c3 hm3 hd3 hk
    unfold itemsD at hk
    rw [List.map_map, List.getElem?_map] at hk
    obtain ⟨o, ho, rfl⟩ := Option.map_eq_some_iff.mp hk
    have hom := List.mem_of_getElem? ho
    have hoo : o.Ok t.size := ht.op' hom
    refine gx_tup (ds := [.str o.name, dOp o]) rfl (gxs_cons (gx_name (i := 7) (gxs_cons (gx_name (i := 8) (gxs_nil ⟨rfl, ts_nil ⟨rfl, fun _ => ?_, nofun⟩⟩) S.nd)) S.nd))
    refine axk_put rfl (Fewer.set rfl (Fewer.set rfl (Fewer.refl _))) fun D4 c4 hm4 hd4 => ex_var (i := 7) rfl (ex_dget (hu_of hr) (ex_var (i := 4) rfl (ex_idx (ex_idx (ex_var (i := 8) rfl (ex_int ⟨_, 1, _, .inr (.inl rfl), rfl, (by rfl : atI _ (1 : Int) = some (.tup (o.ends.map dI))), ex_var (i := 1) rfl ⟨_, (b : Int), _, .inr (.inl rfl), rfl, at_ends hoo hbn, plc 0 (shD t.size b), .inl (o.E b : Int), _, .fr, rfl, dval_plc _ _ 0 ((shD_mem hbn).mpr (hoo.lt hbn)), rfl, .inr o.name, rfl, ?_⟩⟩))))))
    show [(Sum.inr o.name, dI (plcOf t.size b ((unOp (dOp o)).E b)))] = _
    rw [unOp_d, Nat.zero_add]
    rfl
  · rw [key, opsM_dputs ht]
    exact h9 hc hv h2 b rfl q hqd
end
end K76

set_option Elab.async false
set_option linter.all false
set_option autoImplicit false
set_option maxRecDepth 100000
set_option maxHeartbeats 2000000
/-! k76, part P: stores are made. -/
namespace K76
open PySem PySem.Spec L2 PD
open PyProof.Rows hiding St
section
variable {P : Program} {w : World} {K : PySem.W.Frag} {mg : Str → Option Value} {base : Heap}
theorem s1_drop {X : Cx} {Z : Zn} {ρ : Slots} {O : Own} {E : En} {st : Stmt} (h : S1 X Z st ρ O { E with nx := fun ρ' O' => ∃ O2 : Own, O2.Sublist O' ∧ E.nx ρ' O2 }) : S1 X Z st ρ O E := fun σ B H s =>
  EVS.mono (h σ B H s) (fun σ' H' ⟨B', ρ', O', s', e, O2, sub, q⟩ => ⟨B', ρ', O2, s'.drop sub, e, q⟩) (fun _ _ q => q) (fun _ _ q => q) (fun _ _ q => q)
theorem boot_tuple : bootBuiltins "tuple" = some (.type "tuple") := by decide +kernel
def P_is_operation : DP := fun ds O R _ => ∃ (o : Op) (n : Nat), ds = [dOp o, dI n] ∧ n ≤ 200 ∧ o.Ok n ∧ R (.bl true) O
theorem ok_is_operation (F : Df K mg "is_operation" (top 56) [] []) (B : Bare mg) (g : GI mg "MOST_ANSWER" 1000000000000) (I1 : Ok P w K mg base 4 "is_name" (top 14) [] [] ["value"] P_is_name) (I2 : Ok P w K mg base 5 "is_row" (top 15) [] [] ["value", "size", "bound"] P_is_row) :
    Ok P w K mg base 6 "is_operation" (top 56) [] [] ["value", "size"] P_is_operation := by
  obtain ⟨t, g⟩ := g
  have S : FnScope ["value", "size"] ["value", "size"] (defScope (top 56)) := ⟨rfl, rfl, rfl, by decide +kernel, rfl, by decide +kernel, by decide +kernel⟩
  refine fn_mkD F S (fun ds O R Xr ⟨o, n, h, _⟩ => (by rw [h]; rfl)) fun f cdv A outer s H E hr Z ds O R Xr ⟨o, n, h1, hn, ho, h4⟩ tk => ?_
  subst h1
  have hel := ho.el
  have hal := ho.al
  refine sx_cons (s1_if (et_or (et_not (et_ex (ex_isi B (by decide) boot_tuple (ex_var (i := 0) rfl ⟨"tuple", true, rfl, by decide +kernel, true, rfl, nofun, fun _ => ew_or (et_neI (ex_len B (ex_var (i := 0) rfl ⟨[.str o.name, .tup (o.ends.map dI), .tup (o.ans.map D.int)], .inr (.inl rfl), ex_int ⟨3, 3, rfl, rfl, nofun, fun _ => ew_or1 (et_not (et_ex ?_))⟩⟩)))⟩))))))
  refine ex_fn I1 (by decide) hr (fun _ _ _ _ _ _ us hl => match us, hl with | [_], _ => rfl) tkd0 (ea_cons (ex_idx (ex_var (i := 0) rfl (ex_int ⟨[.str o.name, .tup (o.ends.map dI), .tup (o.ans.map D.int)], 0, .str o.name, .inr (.inl rfl), rfl, PD.atI_nat (i := 0) rfl, ea_nil ⟨o.name, rfl, ho.nm, true, rfl, nofun, fun _ => sx_nil ?_⟩⟩))))
  refine sx_one (s1_ret (ex_and ?_))
  refine ex_fn I2 (by decide) hr (fun _ _ _ _ _ _ us hl => match us, hl with | [_, _, _], _ => rfl) tkd0 (ea_cons (ex_idx (ex_var (i := 0) rfl (ex_int ⟨[.str o.name, .tup (o.ends.map dI), .tup (o.ans.map D.int)], 1, .tup (o.ends.map dI), .inr (.inl rfl), rfl, PD.atI_nat (i := 1) rfl, ea_cons (ex_var (i := 1) rfl (ea_cons (ex_var (i := 1) rfl (ea_nil ⟨o.ends.map fun n : Nat => (n : Int), (n : Int), ?_, ?_, ?_, true, rfl, nofun, fun _ => ex_one ?_⟩))))⟩))))
  · rw [← dI_int, List.length_map, hel]; rfl
  · rw [List.length_map]; omega
  · intro z hz
    obtain ⟨e, he, rfl⟩ := List.mem_map.mp hz
    have := ho.eb e he
    omega
  refine ex_fn I2 (by decide) hr (fun _ _ _ _ _ _ us hl => match us, hl with | [_, _, _], _ => rfl) tkd0 (ea_cons (ex_idx (ex_var (i := 0) rfl (ex_int ⟨[.str o.name, .tup (o.ends.map dI), .tup (o.ans.map D.int)], 2, .tup (o.ans.map D.int), .inr (.inl rfl), rfl, PD.atI_nat (i := 2) rfl, ea_cons (ex_var (i := 1) rfl (ea_cons (ex_add (ex_glob (v := .int 1000000000000) g ⟨_, rfl⟩ (ex_int ⟨1000000000000, 1, rfl, rfl, ea_nil ⟨o.ans, 1000000000001, ?_, by omega, ?_, h4⟩⟩)))))⟩))))
  · rw [hal]; rfl
  · intro a ha
    have := ho.ab a ha
    omega
/-- the store's parts pass the checks -/
def P_check (C : Addr) : DP := fun ds O R _ => ∃ s : Sto, ds = [dI s.size, .tup (s.offs.map dOff)] ∧ s.Ok ∧ R .non O
def kN (o : Op) : Key := .inr o.name
theorem dval_none {kvs : List (Key × D)} {k : Key} (h : k ∉ kvs.map (·.1)) : dval kvs k = none := by
  unfold dval
  rw [List.find?_eq_none.mpr]
  · rfl
  · intro q hq z
    exact h (List.mem_map.mpr ⟨q, hq, of_decide_eq_true z⟩)
theorem take_flat {α : Type} (l : List (List α)) (i : Nat) : (l.take i).flatten.Sublist l.flatten := by
  have e : l.flatten = (l.take i).flatten ++ (l.drop i).flatten := by rw [← List.flatten_append, List.take_append_drop]
  rw [e]
  exact List.sublist_append_left _ _
theorem kN_fresh {s : Sto} (h : s.Ok) {i j : Nat} {f : List Op} {o : Op} (hf : s.offs[i]? = some f) (ho : f[j]? = some o) : kN o ∉ ((s.offs.take i).flatten ++ f.take j).map kN := by
  have e1 : (s.offs.take i).flatten ++ f.take j ++ [o] = (s.offs.take i).flatten ++ f.take (j + 1) := by
    rw [List.append_assoc, List.take_succ, ho]
    rfl
  have e2 : s.offs.take (i + 1) = s.offs.take i ++ [f] := by
    rw [List.take_succ, hf]
    rfl
  have sub : ((s.offs.take i).flatten ++ f.take (j + 1)).Sublist s.ops := by
    have h1 : ((s.offs.take i).flatten ++ f.take (j + 1)).Sublist ((s.offs.take (i + 1)).flatten) := by
      rw [e2, List.flatten_append]
      refine List.Sublist.append (.refl _) ?_
      simpa using List.take_sublist (j + 1) f
    exact h1.trans (take_flat _ _)
  have nd := h.nd.sublist (sub.map Op.name)
  rw [← e1, List.map_append, List.nodup_append] at nd
  intro hm
  obtain ⟨q, hq, e⟩ := List.mem_map.mp hm
  have e : q.name = o.name := Sum.inr.inj e
  exact nd.2.2 q.name (List.mem_map.mpr ⟨q, hq, rfl⟩) o.name (by simp) e
theorem ok_check_offices {C : Addr} (F : Df K mg "check_offices" (top 57) [] []) (B : Bare mg) (g1 : GI mg "MOST_STATES" 200) (g2 : GI mg "LEAST_OFFICES" 2) (g3 : GI mg "MOST_OFFICES" 8) (g4 : GI mg "MOST_OPERATIONS" 40)
    (I1 : Ok P w K mg base 4 "is_below" (top 12) [] [] ["value", "bound"] P_is_below) (I2 : Ok P w K mg base 6 "is_operation" (top 56) [] [] ["value", "size"] P_is_operation) : Ok P w K mg base 7 "check_offices" (top 57) [] [] ["size", "offices"] (P_check C) := by
  obtain ⟨t1, g1⟩ := g1
  obtain ⟨t2, g2⟩ := g2
  obtain ⟨t3, g3⟩ := g3
  obtain ⟨t4, g4⟩ := g4
  have S : FnScope ["size", "offices", "known", "at", "office", "operation"] ["size", "offices"] (defScope (top 57)) := ⟨rfl, rfl, rfl, by decide +kernel, rfl, by decide +kernel, by decide +kernel⟩
  refine fn_mkD F S (fun ds O R Xr ⟨s, h, _⟩ => (by rw [h]; rfl)) fun f cdv A outer s H E hr Z ds O R Xr ⟨t, h1, ht, h4⟩ tk => ?_
  subst h1
  have hn1 := ht.n1
  have hn2 := ht.n2
  have ho1 := ht.o1
  have ho2 := ht.o2
  have hfew := ht.few
  refine sx_cons (s1_if (et_or (et_not (et_ex (ex_fn I1 (by decide) hr (fun _ _ _ _ _ _ us hl => match us, hl with | [_, _], _ => rfl) tkd0 (ea_cons (ex_var (i := 0) rfl (ea_cons (ex_add (ex_glob (v := .int 200) g1 ⟨_, rfl⟩ (ex_int ⟨200, 1, rfl, rfl, ea_nil ⟨_, _, rfl, ty_int, _, rfl, ?_⟩⟩)))))))))))
  rw [show ((200 : Int) + 1) = ((201 : Nat) : Int) by decide, isB_nat (by omega : t.size < 201)]
  refine ⟨nofun, fun _ => ew_or (et_eqI (ex_var (i := 0) rfl (ex_int ⟨(t.size : Int), 0, rfl, rfl, fun hb => ?_, fun _ => ew_or1 (et_not (et_ex (ex_isi B (by decide) boot_tuple (ex_var (i := 1) rfl ⟨"tuple", true, rfl, by decide +kernel, true, rfl, nofun, fun _ => sx_nil ?_⟩))))⟩)))⟩
  · have := of_decide_eq_true hb
    omega
  refine sx_cons (s1_set (i := 2) S.nd (ex_dnew fun p hm hd => ?_))
  refine sx_cons (s1_for (passes_of rfl) rfl (ix_enumT (B _ (by decide)) (ex_var (i := 1) rfl ⟨_, rfl, ?_⟩)))
  refine ⟨fun i ρ' O' => ∃ (kvs : List (Key × D)) (x y z : Option D), ρ' = [some (dI t.size), some (.tup (t.offs.map dOff)), some (.raw (.ref p)), x, y, z] ∧ O' = (p, .dct kvs) :: O ∧ kvs.map (·.1) = (t.offs.take i).flatten.map kN, ⟨[], none, none, none, rfl, rfl, rfl⟩, fun _ _ _ _ => trivial, ?_, ?_⟩
  · rintro i d ρ' O' hi ⟨kvs, x, y, z, rfl, rfl, hk⟩
    obtain ⟨fd, hfd, rfl⟩ := enumD_at hi
    obtain ⟨f1, hf, rfl⟩ := Option.map_eq_some_iff.mp (by rw [List.getElem?_map] at hfd; exact hfd)
    refine gx_tup rfl (gxs_cons (gx_name (i := 3) (gxs_cons (gx_name (i := 4) (gxs_nil ?_) S.nd)) S.nd))
    refine sx_cons (s1_if (et_not (et_ex (ex_isi B (by decide) boot_tuple (ex_var (i := 4) rfl ⟨"tuple", true, rfl, by decide +kernel, true, rfl, nofun, fun _ => sx_nil ?_⟩)))))
    refine sx_one (s1_for (passes_of rfl) rfl (ix_tup (ex_var (i := 4) rfl ⟨_, rfl, ?_⟩)))
    refine ⟨fun j ρ' O' => ∃ (kvs : List (Key × D)) (z : Option D), ρ' = [some (dI t.size), some (.tup (t.offs.map dOff)), some (.raw (.ref p)), some (dI i), some (dOff f1), z] ∧ O' = (p, .dct kvs) :: O ∧ kvs.map (·.1) = ((t.offs.take i).flatten ++ f1.take j).map kN, ⟨kvs, z, rfl, rfl, by rw [List.take_zero, List.append_nil]; exact hk⟩, fun _ _ _ _ => trivial, ?_, ?_⟩
    · rintro j d ρ' O' hj ⟨kvs, z, rfl, rfl, hk⟩
      obtain ⟨o, ho, rfl⟩ := Option.map_eq_some_iff.mp (by rw [List.getElem?_map] at hj; exact hj)
      have hoo : o.Ok t.size := ht.op f1 (List.mem_of_getElem? hf) o (List.mem_of_getElem? ho)
      have fresh := kN_fresh ht hf ho
      rw [← hk] at fresh
      have hkl : kvs.length ≤ 1000000 := by
        have h1 := congrArg List.length hk
        rw [List.length_map, List.length_map, List.length_append] at h1
        have h2 : (t.offs.take i).flatten.length ≤ t.ops.length := (take_flat t.offs i).length_le
        have h3 : f1.length ≤ t.ops.length := (List.sublist_flatten_of_mem (List.mem_of_getElem? hf)).length_le
        have h5 : (f1.take j).length ≤ f1.length := (List.take_sublist j f1).length_le
        omega
      have at0 : atI [D.str o.name, .tup (o.ends.map dI), .tup (o.ans.map D.int)] (0 : Int) = some (.str o.name) := PD.atI_nat (i := 0) rfl
      refine gx_name (i := 5) ?_ S.nd
      refine sx_cons (s1_if (et_or (et_not (et_ex (ex_fn I2 (by decide) hr (fun _ _ _ _ _ _ us hl => match us, hl with | [_, _], _ => rfl) tkd0 (ea_cons (ex_var (i := 5) rfl (ea_cons (ex_var (i := 0) rfl (ea_nil ⟨o, t.size, rfl, hn2, hoo, true, rfl, nofun, fun _ => ew_or1 (et_din (hu_of hr) (ex_idx (ex_var (i := 5) rfl (ex_int ⟨_, 0, _, .inr (.inl rfl), rfl, at0, ex_var (i := 2) rfl ⟨kvs, kN o, .ow look_hd, rfl, ?_⟩⟩))))⟩))))))))))
      rw [dval_none fresh]
      refine ⟨nofun, fun _ => sx_nil ?_⟩
      refine sx_one (s1_dput (hu_of hr) (ex_var (i := 3) rfl (ex_var (i := 2) rfl (ex_idx (ex_var (i := 5) rfl (ex_int ⟨_, 0, _, .inr (.inl rfl), rfl, at0, p, kvs, kN o, rfl, look_hd, rfl, hkl, ?_⟩))))))
      rw [setO_hd hd, dput_new fresh]
      refine ⟨_, _, rfl, rfl, ?_⟩
      rw [List.map_append, hk, List.take_succ, ho]
      simp
    · rintro ρ' O' ⟨kvs, z, rfl, rfl, hk⟩
      refine ⟨kvs, _, _, _, rfl, rfl, ?_⟩
      rw [hk, List.length_map, List.take_length, List.take_succ, hf]
      simp
  · rintro ρ' O' ⟨kvs, x, y, z, rfl, rfl, hk⟩
    rw [enumD_len, List.length_map, List.take_length] at hk
    have hkl : kvs.length = t.ops.length := by
      have h1 := congrArg List.length hk
      rwa [List.length_map, List.length_map] at h1
    refine sx_one (s1_drop (s1_if (et_or (et_not (et_chainI (p := fun i j => decide (i ≤ j)) (p' := fun i j => decide (i ≤ j)) op_le op_le (ex_glob (v := .int 2) g2 ⟨_, rfl⟩ (ex_len B (ex_var (i := 1) rfl ⟨t.offs.map dOff, .inr (.inl rfl), 2, ((t.offs.map dOff).length : Int), rfl, rfl, fun hb => ?_, fun _ => ex_glob (v := .int 8) g3 ⟨_, rfl⟩ ⟨8, rfl, ?_⟩⟩))))))))
    · have := of_decide_eq_false hb
      rw [List.length_map] at this
      omega
    · have e : decide (((t.offs.map dOff).length : Int) ≤ 8) = true := decide_eq_true (by rw [List.length_map]; omega)
      rw [e]
      refine ⟨nofun, fun _ => ew_or1 (et_gt (ex_lenC B (ex_var (i := 2) rfl ⟨kvs, .ow look_hd, ex_glob (v := .int 40) g4 ⟨_, rfl⟩ ⟨(kvs.length : Int), 40, rfl, rfl, fun hb => ?_, fun _ => sx_nil ?_⟩⟩)))⟩
      · have := of_decide_eq_true hb
        have h40 : t.ops.length ≤ 40 := hfew
        omega
      · exact ⟨O, List.sublist_cons_self _ _, h4⟩
/-! Store's __init__ -/
def P_store_init (C : Addr) : DP := fun ds O R _ => ∃ (p : Addr) (s : Sto) (O' : Own), ds = [.raw (.ref p), dI s.size, .tup (s.offs.map dOff)] ∧ s.Ok ∧ O = (p, .obj C []) :: O' ∧ p ∉ O'.map (·.1) ∧ R .non ((p, .obj C [("size", dI s.size), ("offices", .tup (s.offs.map dOff))]) :: O')
theorem ok_store_init {C : Addr} (F : Ci K mg "Store" "Store.__init__" C (mem (top 58) 0)) (c : StC K C) (I : Ok P w K mg base 7 "check_offices" (top 57) [] [] ["size", "offices"] (P_check C)) : MkOk P w K mg base 8 "Store" C ["self", "size", "offices"] (P_store_init C) := by
  have S : FnScope ["self", "size", "offices"] ["self", "size", "offices"] (defScope (mem (top 58) 0)) := ⟨rfl, rfl, rfl, by decide +kernel, rfl, by decide +kernel, by decide +kernel⟩
  refine fn_mkI F S (fun ds O R Xr ⟨p, s, O', h, _⟩ => (by rw [h]; rfl)) (fun _ _ _ _ _ _ us hl => match us, hl with | [_, _, _], _ => rfl) fun f cdv A outer s H E hr Z ds O R Xr ⟨p, t, O', h1, ht, h2, hp, h4⟩ tk => ?_
  subst h1 h2
  refine sx_cons (s1_expr (ex_fn I (by decide) hr (fun _ _ _ _ _ _ us hl => match us, hl with | [_, _], _ => rfl) tkd0 (ea_cons (ex_var (i := 1) rfl (ea_cons (ex_var (i := 2) rfl (ea_nil ⟨t, rfl, ht, ?_⟩)))))))
  refine sx_cons (s1_fld c.c c.a1 (ex_var (i := 1) rfl (ex_var (i := 0) rfl ⟨p, [], rfl, look_hd, by decide, rfl, ?_⟩)))
  rw [setO_hd hp]
  refine sx_one (s1_fld c.c c.a2 (ex_var (i := 2) rfl (ex_var (i := 0) rfl ⟨p, [("size", dI t.size)], rfl, look_hd, by show 1 ≤ 900; decide, rfl, ?_⟩)))
  rw [setO_hd hp]
  exact h4
end
end K76

set_option Elab.async false
set_option linter.all false
set_option autoImplicit false
set_option maxRecDepth 100000
set_option maxHeartbeats 2000000
/-! k76, part Q: the law's draws. -/
namespace K76
open PySem PySem.Spec L2 PD
open PyProof.Rows hiding St
section
variable {P : Program} {w : World} {K : PySem.W.Frag} {mg : Str → Option Value} {base : Heap}
def StOk (st : Int) : Prop := 0 ≤ st ∧ st < 2147483647
def NsOk (ns : List Int) : Prop := ∀ n ∈ ns, 0 ≤ n
/-- a draw: any number below, the heap is another then -/
def P_draw : DP := fun ds O R _ => ∃ (p r : Addr) (ns : List Int) (st m : Int) (A O' : Own), ds = [.raw (.ref p), .int m] ∧ O = A ++ hpO p r ns st O' ∧ NsOk ns ∧ ns.length ≤ 1000 ∧ StOk st ∧ 1 ≤ m ∧ m < 1000000000 ∧
  ∀ (j : Int) (ns' : List Int) (st' : Int), 0 ≤ j → j < m → NsOk ns' → ns'.length ≤ 1000 → StOk st' → R (.int j) (A ++ hpO p r ns' st' O')
theorem int_last {ns : List Int} (h : ns ≠ []) : ∃ a l, ns = l ++ [a] := by
  induction ns with
  | nil => exact absurd rfl h
  | cons x ns ih =>
    cases ns with
    | nil => exact ⟨x, [], rfl⟩
    | cons y ns =>
      obtain ⟨a, l, e⟩ := ih (by simp)
      exact ⟨a, x :: l, by rw [e]; rfl⟩
theorem at_last {l : List D} {a : D} : atI (l ++ [a]) (-1 : Int) = some a := by
  unfold atI ixN
  have e : (-1 + ((l ++ [a]).length : Int)).toNat = l.length := by rw [List.length_append, List.length_singleton]; omega
  have h1 : (0 : Int) ≤ -1 + ((l ++ [a]).length : Int) := by rw [List.length_append, List.length_singleton]; omega
  have h2 : -1 + ((l ++ [a]).length : Int) < ((l ++ [a]).length : Int) := by omega
  simp
  rw [if_pos (by omega)]
  show (l ++ [a])[_]? = some a
  rw [show (-1 + ((l.length : Int) + 1)).toNat = l.length by omega]
  simp
theorem ok_law_draw (F : Df K mg "_law_draw" (top 64) [] []) (B : Bare mg) : Ok P w K mg base 1 "_law_draw" (top 64) [] [] ["_law_heap_here", "_law_many"] P_draw := by
  have S : FnScope ["_law_heap_here", "_law_many", "_law_rest"] ["_law_heap_here", "_law_many"] (defScope (top 64)) := ⟨rfl, rfl, rfl, by decide +kernel, rfl, by decide +kernel, by decide +kernel⟩
  refine fn_mkD F S (fun ds O R Xr ⟨p, r, ns, st, m, A, O', h, _⟩ => (by rw [h]; rfl)) fun f cdv A outer s H E hr Z ds O R Xr ⟨p, r, ns, st, m, A0, O', h1, h2, hn, hl, hst, hm1, hm2, h4⟩ tk => ?_
  subst h1 h2
  refine sx_nd fun nd => ?_
  have hp := hpA_of nd
  have at0 : ∀ (st : Int), atI [D.raw (.ref r), .int st] (0 : Int) = some (.raw (.ref r)) := fun st => PD.atI_nat (i := 0) rfl
  have at1 : ∀ (st : Int), atI [D.raw (.ref r), .int st] (1 : Int) = some (.int st) := fun st => PD.atI_nat (i := 1) rfl
  refine sx_cons (s1_while (passes_of rfl) (fun k ρ' O2 => ∃ ns2 : List Int, ρ' = [some (.raw (.ref p)), some (.int m), none] ∧ O2 = A0 ++ hpO p r ns2 st O' ∧ NsOk ns2 ∧ ns2.length ≤ 1000 ∧ k = ns2.length) ns.length ⟨ns, rfl, rfl, hn, hl, rfl⟩ ?_)
  rintro k ρ' O2 ⟨ns2, rfl, rfl, hn2, hl2, rfl⟩
  -- what follows the loop
  have key : SX (cxD P w K mg base ["_law_heap_here", "_law_many", "_law_rest"] "_law_draw" (top 64) f cdv A outer s H E) Z (defBody (top 64)).tail [some (.raw (.ref p)), some (.int m), none] (A0 ++ hpO p r ns2 st O') { nx := fun x O' => R D.non O', rt := R } := by
    refine sx_cons (s1_if (et_cmp (op_neD hr.units) (ex_idx (ex_var (i := 0) rfl (ex_int ⟨_, 0, _, .inl (.ow hp.look), rfl, at0 _, ex_lst (ea_nil ⟨by decide, bt_neO (p1 := .list (ns2.map .int)) (p2 := .list (([] : List Int).map .int)) (.inr ⟨r, _, _, rfl, hp.lookr, pys_ints _, rfl⟩) (.inl rfl) (shp_lints _) (shp_lints _) ?_⟩)⟩)))))
    rw [eqv_lints]
    refine ⟨fun hb => ?_, fun _ => sx_nil ?_⟩
    · have hne : ns2 ≠ [] := by simpa using hb
      obtain ⟨a, l, rfl⟩ := int_last hne
      have ha : 0 ≤ a := hn2 a (by simp)
      rw [List.length_append] at hl2
      refine sx_cons (s1_set (i := 2) S.nd (ex_pop (ex_idx (ex_var (i := 0) rfl (ex_int ⟨_, 0, _, .inl (.ow hp.look), rfl, at0 _, r, l.map .int, .int a, rfl, by rw [hp.lookr, List.map_append]; rfl, ?_⟩)))))
      rw [hp.setr]
      refine sx_cons (s1_expr (ex_append (ex_idx (ex_var (i := 0) rfl (ex_int ⟨_, 0, _, .inl (.ow hp.look), rfl, at0 _, r, l.map .int, rfl, hp.lookr, ex_fdiv (ex_var (i := 2) rfl (ex_var (i := 1) rfl ⟨a, m, rfl, rfl, ⟨by omega, by omega⟩, l.map .int, hp.lookr, by rw [List.length_map]; omega, ?_⟩))⟩)))))
      have e : l.map D.int ++ [D.int (a / m)] = (l ++ [a / m]).map D.int := by rw [List.map_append]; rfl
      rw [e, hp.setr]
      refine sx_one (s1_ret (ex_mod (ex_intC B (ex_var (i := 2) rfl ⟨a, rfl, ex_var (i := 1) rfl ⟨a, m, rfl, rfl, by omega, ?_⟩⟩))))
      refine h4 _ _ _ (Int.emod_nonneg _ (by omega)) (Int.emod_lt_of_pos _ (by omega)) ?_ ?_ hst
      · intro n hn'
        rcases List.mem_append.mp hn' with h | h
        · exact hn2 n (List.mem_append_left _ h)
        · have : n = a / m := by simpa using h
          rw [this]
          exact Int.ediv_nonneg ha (by omega)
      · rw [List.length_append]
        simpa using hl2
    · obtain ⟨hs1, hs2⟩ := hst
      refine sx_cons (s1_asg (ex_mod (ex_intC B (ex_add (ex_mul (ex_idx (ex_var (i := 0) rfl (ex_int ⟨_, 1, _, .inl (.ow hp.look), rfl, at1 _, ex_int ⟨st, 48271, rfl, rfl, .inr ⟨by decide, by decide⟩, ex_int ⟨_, 17, rfl, rfl, _, rfl, ex_int ⟨_, 2147483647, rfl, rfl, by decide, gx_setL (ex_var (i := 0) rfl (ex_int ⟨p, _, 1, 1, rfl, rfl, hp.look, rfl, ?_⟩))⟩⟩⟩⟩))))))))
      have e : ∀ x : Int, [D.raw (.ref r), .int st].set 1 (.int x) = [D.raw (.ref r), .int x] := fun x => rfl
      rw [e, hp.setp]
      have g1 : 0 ≤ (st * 48271 + 17) % 2147483647 := Int.emod_nonneg _ (by decide)
      have g2 : (st * 48271 + 17) % 2147483647 < 2147483647 := Int.emod_lt_of_pos _ (by decide)
      refine sx_one (s1_ret (ex_mod (ex_intC B (ex_fdiv (ex_idx (ex_var (i := 0) rfl (ex_int ⟨_, 1, _, .inl (.ow hp.look), rfl, at1 _, ex_int ⟨_, 64, rfl, rfl, ⟨by decide, by decide⟩, _, rfl, ex_var (i := 1) rfl ⟨_, m, rfl, rfl, by omega, ?_⟩⟩⟩)))))))
      exact h4 _ _ _ (Int.emod_nonneg _ (by omega)) (Int.emod_lt_of_pos _ (by omega)) hn2 hl2 ⟨g1, g2⟩
  refine et_and (et_cmp (op_neD hr.units) (ex_idx (ex_var (i := 0) rfl (ex_int ⟨_, 0, _, .inl (.ow hp.look), rfl, at0 _, ex_lst (ea_nil ⟨by decide, bt_neO (p1 := .list (ns2.map .int)) (p2 := .list (([] : List Int).map .int)) (.inr ⟨r, _, _, rfl, hp.lookr, pys_ints _, rfl⟩) (.inl rfl) (shp_lints _) (shp_lints _) ?_⟩)⟩))))
  rw [eqv_lints]
  refine ⟨fun _ => ⟨nofun, fun _ => key⟩, fun hb => ?_⟩
  have hne : ns2 ≠ [] := by simpa using hb
  obtain ⟨a, l, rfl⟩ := int_last hne
  have el : (l ++ [a]).map D.int = l.map D.int ++ [D.int a] := by rw [List.map_append]; rfl
  refine ew_and1 (et_eqI (ex_idx (ex_idx (ex_var (i := 0) rfl (ex_int ⟨_, 0, _, .inl (.ow hp.look), rfl, at0 _, ex_neg (ex_int ⟨1, rfl, l.map .int ++ [.int a], -1, _, .inl (.ow (by rw [hp.lookr, el])), rfl, at_last, ex_int ⟨a, 0, rfl, rfl, fun _ => ?_, fun _ => key⟩⟩)⟩)))))
  refine sx_one (s1_expr (ex_pop (ex_idx (ex_var (i := 0) rfl (ex_int ⟨_, 0, _, .inl (.ow hp.look), rfl, at0 _, r, l.map .int, .int a, rfl, by rw [hp.lookr, el], ?_⟩)))))
  rw [hp.setr]
  refine ⟨l.length, by rw [List.length_append]; exact Nat.lt_succ_self _, l, rfl, rfl, fun n hn' => hn2 n (List.mem_append_left _ hn'), ?_, rfl⟩
  rw [List.length_append] at hl2
  omega
end
end K76

set_option Elab.async false
set_option linter.all false
set_option autoImplicit false
set_option maxRecDepth 100000
set_option maxHeartbeats 2000000
/-! k76, part R: the law's picks; its heap. -/
namespace K76
open PySem PySem.Spec L2 PD
open PyProof.Rows hiding St
section
variable {P : Program} {w : World} {K : PySem.W.Frag} {mg : Str → Option Value} {base : Heap}
/-- any of some -/
def P_pick : DP := fun ds O R _ => ∃ (p r : Addr) (ns : List Int) (st : Int) (d : D) (es : List D) (A O' : Own), ds = [.raw (.ref p), d] ∧ O = A ++ hpO p r ns st O' ∧ NsOk ns ∧ ns.length ≤ 1000 ∧ StOk st ∧ (∀ ns st, SqAt (A ++ hpO p r ns st O') d es) ∧ 1 ≤ es.length ∧ es.length ≤ 1000000 ∧
  ∀ (x : D) (ns' : List Int) (st' : Int), x ∈ es → NsOk ns' → ns'.length ≤ 1000 → StOk st' → R x (A ++ hpO p r ns' st' O')
theorem ok_law_pick (F : Df K mg "_law_pick" (top 65) [] []) (B : Bare mg) (I : Ok P w K mg base 1 "_law_draw" (top 64) [] [] ["_law_heap_here", "_law_many"] P_draw) : Ok P w K mg base 2 "_law_pick" (top 65) [] [] ["_law_heap_here", "_law_some"] P_pick := by
  have S : FnScope ["_law_heap_here", "_law_some"] ["_law_heap_here", "_law_some"] (defScope (top 65)) := ⟨rfl, rfl, rfl, by decide +kernel, rfl, by decide +kernel, by decide +kernel⟩
  refine fn_mkD F S (fun ds O R Xr ⟨p, r, ns, st, d, es, A, O', h, _⟩ => (by rw [h]; rfl)) fun f cdv A outer s H E hr Z ds O R Xr ⟨p, r, ns, st, d, es, A0, O', h1, h2, hn, hl, hst, hs, he1, he2, h4⟩ tk => ?_
  subst h1 h2
  refine sx_one (s1_ret (ex_idx (ex_var (i := 1) rfl (ex_fn I (by decide) hr (fun _ _ _ _ _ _ us hl => match us, hl with | [_, _], _ => rfl) tkd0 (ea_cons (ex_var (i := 0) rfl (ea_cons (ex_len B (ex_var (i := 1) rfl ⟨es, hs _ _, ea_nil ⟨p, r, ns, st, (es.length : Int), A0, O', rfl, rfl, hn, hl, hst, by omega, by omega, fun j ns' st' j1 j2 g1 g2 g3 => ?_⟩⟩)))))))))
  have hj : j.toNat < es.length := by omega
  refine ⟨es, j, es[j.toNat], hs _ _, rfl, ?_, h4 _ _ _ (List.getElem_mem hj) g1 g2 g3⟩
  have := PD.atI_nat (ds := es) (i := j.toNat) (x := es[j.toNat]) (List.getElem?_eq_getElem hj)
  rwa [show ((j.toNat : Nat) : Int) = j by omega] at this
/-- the heap of a script -/
def P_law_heap : DP := fun ds O R _ => ∃ is : List Int, ds = [.scr (is.map .int), .int 0] ∧ is.length ≤ 1000 ∧ ∀ (p r : Addr) (ns : List Int) (st : Int), NsOk ns → ns.length ≤ 1000 → StOk st → R (.raw (.ref p)) (hpO p r ns st O)
theorem cut_map (f : Int → D) (is : List Int) (lo hi : Option Int) : ∃ js : List Int, PD.cutD (is.map f) lo hi = js.map f ∧ js.length ≤ is.length := by
  refine ⟨(is.drop (HT.sIx (is.map f).length 0 lo)).take (HT.sIx (is.map f).length (is.map f).length hi - HT.sIx (is.map f).length 0 lo), ?_, ?_⟩
  · unfold PD.cutD
    rw [List.map_take, List.map_drop]
  · rw [List.length_take, List.length_drop]
    omega
def absI (i : Int) : Int := if i < 0 then -i else i
def bigD : D → List D
  | .int i => if (10 : Int) ^ 18 ≤ i then [.int i] else []
  | _ => []
theorem big_map (js : List Int) : (js.map D.int).flatMap bigD = (js.filter fun i => decide ((10 : Int) ^ 18 ≤ i)).map D.int := by
  rw [List.flatMap_map, ← flat_if]
  refine flat_congr fun i _ => ?_
  show (if (10 : Int) ^ 18 ≤ i then [D.int i] else []) = if decide ((10 : Int) ^ 18 ≤ i) = true then [D.int i] else []
  by_cases z : (10 : Int) ^ 18 ≤ i
  · rw [if_pos z, if_pos (decide_eq_true z)]
  · rw [if_neg z, if_neg (by rw [decide_eq_false z]; exact Bool.false_ne_true)]
theorem ok_law_heap (F : Df K mg "_law_heap" (top 63) [] []) (B : Bare mg) : Ok P w K mg base 1 "_law_heap" (top 63) [] [] ["_law_script", "_law_base"] P_law_heap := by
  have S : FnScope ["_law_script", "_law_base", "_law_given", "_law_stir", "_law_cell"] ["_law_script", "_law_base"] (defScope (top 63)) := ⟨rfl, rfl, rfl, by decide +kernel, rfl, by decide +kernel, by decide +kernel⟩
  refine fn_mkD F S (fun ds O R Xr ⟨is, h, _⟩ => (by rw [h]; rfl)) fun f cdv A outer s H E hr Z ds O R Xr ⟨is, h1, hl, h4⟩ tk => ?_
  subst h1
  obtain ⟨js, hj1, hj2⟩ := cut_map .int is (some 0) (some 48)
  refine sx_cons (s1_setLc (i := 2) (own := [("_law_cell", 4)]) rfl S.nd (blkOk_by (by kernel_rfl)) (ix_lst (ex_slice sl_list (ex_var (i := 0) rfl (show EX _ _ _ _ _ _ from ex_var (i := 1) rfl ⟨0, rfl, (show EX _ _ _ _ _ _ from ex_int ⟨48, rfl, sl_L (.inr rfl) ⟨js.map .int, .inl (.inl (by rw [hj1])), fun _ _ _ _ => .inl (.inl (by rw [hj1])), fun d => match d with | .int i => [.int (absI i)] | _ => [], ?_, fun s2 H2 C2 cl2 fp2 j d L cc hm hd hi => ?_, ?_⟩⟩)⟩))))) 
  · have : ∀ l : List Int, ((l.map D.int).flatMap fun d => match d with | .int i => [D.int (absI i)] | _ => []).length = l.length := fun l => by
      induction l with
      | nil => rfl
      | cons a l ih => rw [List.map_cons, List.flatMap_cons, List.length_append, ih]; show 1 + l.length = l.length + 1; omega
    rw [this]; omega
  · obtain ⟨i, hi2, rfl⟩ := Option.map_eq_some_iff.mp (by rw [List.getElem?_map] at hi; exact hi)
    refine gx_name (i := 4) ⟨rfl, Fewer.set rfl (Fewer.refl _), ts_nil ⟨rfl, fun _ L2 c2 hm2 hd2 => ?_, nofun⟩⟩ S.nd
    exact ex_abs B (ex_var (i := 4) rfl ⟨i, rfl, rfl, rfl⟩)
  have eabs : ((js.map D.int).flatMap fun d => match d with | .int i => [D.int (absI i)] | _ => []) = (js.map absI).map .int := by
    rw [List.flatMap_map, List.map_map]
    generalize js = l
    induction l with
    | nil => rfl
    | cons a l ih => rw [List.flatMap_cons, ih]; rfl
  rw [eabs]
  have habs : ∀ n ∈ js.map absI, 0 ≤ n := fun n hn => by
    obtain ⟨i, _, rfl⟩ := List.mem_map.mp hn
    unfold absI
    split <;> omega
  have hl2 : (js.map absI).length ≤ 1000 := by rw [List.length_map]; omega
  generalize js.map absI = gs at habs hl2
  refine sx_cons (s1_set (i := 3) S.nd (ex_add (ex_int (ex_mul (ex_int (ex_var (i := 1) rfl ⟨41, 0, rfl, rfl, .inr ⟨by decide, by decide⟩, 7207, 0, rfl, rfl, ?_⟩))))))
  refine sx_cons (s1_for (passes_of rfl) rfl (ix_lst (ex_var (i := 2) rfl ⟨gs.map .int, .inl (.inl rfl), ?_⟩)))
  refine ⟨fun k ρ' O2 => ∃ (st : Int) (x : Option D), ρ' = [some (.scr (is.map .int)), some (.int 0), some (.lst (gs.map .int)), some (.int st), x] ∧ O2 = O ∧ StOk st, ⟨7207, none, rfl, rfl, by decide, by decide⟩, fun _ _ _ _ => .inl (.inl rfl), ?_, ?_⟩
  · rintro k d ρ' O2 hk ⟨st, x, rfl, rfl, hs1, hs2⟩
    obtain ⟨g, hg, rfl⟩ := Option.map_eq_some_iff.mp (by rw [List.getElem?_map] at hk; exact hk)
    refine gx_name (i := 4) ?_ S.nd
    refine sx_one (s1_set (i := 3) S.nd (ex_mod (ex_intC B (ex_add (ex_add (ex_mul (ex_var (i := 3) rfl (ex_int ⟨st, 48271, rfl, rfl, .inr ⟨by decide, by decide⟩, ex_mod (ex_intC B (ex_var (i := 4) rfl ⟨g, rfl, ex_int ⟨g, 2147483549, rfl, rfl, by decide, _, _, rfl, rfl, ex_int ⟨_, 29, rfl, rfl, _, rfl, ex_int ⟨_, 2147483647, rfl, rfl, by decide, ?_⟩⟩⟩⟩))⟩))))))))
    exact ⟨_, _, rfl, rfl, Int.emod_nonneg _ (by decide), Int.emod_lt_of_pos _ (by decide)⟩
  · rintro ρ' O2 ⟨st, x, rfl, rfl, hst⟩
    refine sx_one (s1_ret (ex_lstO (ea_cons (ex_revO (ex_lc (own := [("_law_cell", 4)]) rfl S.nd (blkOk_by (by kernel_rfl)) (ix_lst (ex_var (i := 2) rfl ⟨gs.map .int, .inl (.inl rfl), fun _ _ _ _ => .inl (.inl rfl), bigD, ?_, fun s2 H2 C2 cl2 fp2 j d L cc hm hd hi => ?_, ?_⟩)))))))
    · rw [big_map, List.length_map]
      have := List.length_filter_le (fun i => decide ((10 : Int) ^ 18 ≤ i)) gs
      omega
    · obtain ⟨i, hi2, rfl⟩ := Option.map_eq_some_iff.mp (by rw [List.getElem?_map] at hi; exact hi)
      refine gx_name (i := 4) ⟨rfl, Fewer.set rfl (Fewer.refl _), ts_one (et_ge (ex_var (i := 4) rfl (ex_pow (ex_int (ex_int ⟨10, 18, rfl, rfl, ⟨by decide, by decide, by decide⟩, i, _, rfl, rfl, rfl, fun hb L2 c2 hm2 hd2 => ex_var (i := 4) rfl ⟨rfl, ?_⟩, fun hb => ?_⟩)))))⟩ S.nd
      · exact if_pos (of_decide_eq_true hb)
      · exact if_neg (of_decide_eq_false hb)
    · rw [big_map]
      refine ⟨_, .inl rfl, fun r hr2 hrO => ea_cons (ex_var (i := 3) rfl (ea_nil ⟨by show 2 ≤ 1000000; decide, fun p hp hpO => ?_⟩))⟩
      rw [← List.map_reverse]
      refine h4 p r _ _ ?_ ?_ hst
      · intro n hn
        exact habs n (List.mem_filter.mp (List.mem_reverse.mp hn)).1
      · rw [List.length_reverse]
        have := List.length_filter_le (fun i => decide ((10 : Int) ^ 18 ≤ i)) gs
        omega
end
end K76

set_option Elab.async false
set_option linter.all false
set_option autoImplicit false
set_option maxRecDepth 100000
set_option maxHeartbeats 2000000
/-! k76, part S: the law's orders. -/
namespace K76
open PySem PySem.Spec L2 PD
open PyProof.Rows hiding St
section
variable {P : Program} {w : World} {K : PySem.W.Frag} {mg : Str → Option Value} {base : Heap}
/-- any order of the numbers below -/
def P_order : DP := fun ds O R _ => ∃ (p r : Addr) (ns : List Int) (st : Int) (m : Nat) (A O' : Own), ds = [.raw (.ref p), dI m] ∧ O = A ++ hpO p r ns st O' ∧ NsOk ns ∧ ns.length ≤ 1000 ∧ StOk st ∧ m ≤ 1000 ∧
  ∀ (l : List Nat) (ns' : List Int) (st' : Int), l.Perm (List.range m) → NsOk ns' → ns'.length ≤ 1000 → StOk st' → R (.lst (l.map dI)) (A ++ hpO p r ns' st' O')
theorem ok_law_order (F : Df K mg "_law_order" (top 66) [] []) (B : Bare mg) (I : Ok P w K mg base 1 "_law_draw" (top 64) [] [] ["_law_heap_here", "_law_many"] P_draw) : Ok P w K mg base 2 "_law_order" (top 66) [] [] ["_law_heap_here", "_law_many"] P_order := by
  have S : FnScope ["_law_heap_here", "_law_many", "_law_order_here", "_law_one"] ["_law_heap_here", "_law_many"] (defScope (top 66)) := ⟨rfl, rfl, rfl, by decide +kernel, rfl, by decide +kernel, by decide +kernel⟩
  refine fn_mkD F S (fun ds O R Xr ⟨p, r, ns, st, m, A, O', h, _⟩ => (by rw [h]; rfl)) fun f cdv A outer s H E hr Z ds O R Xr ⟨p, r, ns, st, m, A0, O', h1, h2, hn, hl, hst, hm, h4⟩ tk => ?_
  subst h1 h2
  refine sx_cons (s1_set (i := 2) S.nd (ex_lstO (ea_nil ⟨by decide, fun po hpM hpO' => ?_⟩)))
  have hpo : ∀ (ns : List Int) (st : Int), po ∉ (A0 ++ hpO p r ns st O').map (·.1) := fun ns' st' h => hpO' (by
    unfold hpO at h ⊢
    simpa using h)
  refine sx_cons (s1_for (passes_of rfl) rfl (ix_range1 (B _ (by decide)) (ex_var (i := 1) rfl ⟨_, rfl, by omega, by omega, ?_⟩)))
  rw [Int.toNat_natCast]
  refine ⟨fun k ρ' O2 => ∃ (l : List Nat) (ns2 : List Int) (st2 : Int) (x : Option D), ρ' = [some (.raw (.ref p)), some (dI m), some (.raw (.ref po)), x] ∧ O2 = (po, .lst (l.map dI)) :: (A0 ++ hpO p r ns2 st2 O') ∧ l.Perm (List.range k) ∧ NsOk ns2 ∧ ns2.length ≤ 1000 ∧ StOk st2, ⟨[], ns, st, none, rfl, rfl, .nil, hn, hl, hst⟩, fun _ _ _ _ => trivial, ?_, ?_⟩
  · rintro k d ρ' O2 hk ⟨l, ns2, st2, x, rfl, rfl, hp, hn2, hl2, hst2⟩
    obtain ⟨hkm, rfl⟩ := range_at hk
    have hll : l.length = k := by rw [hp.length_eq, List.length_range]
    refine gx_name (i := 3) ?_ S.nd
    refine sx_one (s1_expr (ex_insert (ex_var (i := 2) rfl ⟨po, _, rfl, look_hd, ex_fn I (by decide) hr (fun _ _ _ _ _ _ us hl => match us, hl with | [_, _], _ => rfl) tkd0 (ea_cons (ex_var (i := 0) rfl (ea_cons (ex_add (ex_len B (ex_var (i := 2) rfl ⟨l.map dI, .inl (.ow look_hd), ex_int ⟨_, 1, rfl, rfl, ea_nil ⟨p, r, ns2, st2, _, (po, .lst (l.map dI)) :: A0, O', rfl, rfl, hn2, hl2, hst2, by rw [List.length_map]; omega, by rw [List.length_map]; omega, fun j ns3 st3 j1 j2 g1 g2 g3 => ?_⟩⟩⟩))))))⟩)))
    refine ex_var (i := 3) rfl ⟨j, l.map dI, rfl, look_hd, by rw [List.length_map]; omega, j1, by rw [List.length_map] at j2; omega, ?_⟩
    have e : (l.map dI).take j.toNat ++ [dI k] ++ (l.map dI).drop j.toNat = (l.take j.toNat ++ [k] ++ l.drop j.toNat).map dI := by
      rw [List.map_append, List.map_append, List.map_take, List.map_drop]
      rfl
    rw [e]
    refine ⟨l.take j.toNat ++ [k] ++ l.drop j.toNat, ns3, st3, _, rfl, setO_hd (hpo ns3 st3), ?_, g1, g2, g3⟩
    have p1 : (l.take j.toNat ++ [k] ++ l.drop j.toNat).Perm (k :: l) := by
      rw [List.append_assoc]
      have h1 : (l.take j.toNat ++ ([k] ++ l.drop j.toNat)).Perm (([k] ++ l.drop j.toNat) ++ l.take j.toNat) := List.perm_append_comm
      refine h1.trans ?_
      show (k :: (l.drop j.toNat ++ l.take j.toNat)).Perm (k :: l)
      refine List.Perm.cons _ ?_
      have h2 : (l.drop j.toNat ++ l.take j.toNat).Perm (l.take j.toNat ++ l.drop j.toNat) := List.perm_append_comm
      rwa [List.take_append_drop] at h2
    refine p1.trans ?_
    rw [List.range_succ]
    exact (List.Perm.cons k hp).trans (by simpa using (List.perm_append_comm : ([k] ++ List.range k).Perm (List.range k ++ [k])))
  · rintro ρ' O2 ⟨l, ns2, st2, x, rfl, rfl, hp, hn2, hl2, hst2⟩
    rw [range_len] at hp
    exact sx_one (s1_ret (ex_frz (ex_var (i := 2) rfl ⟨po, .lst (l.map dI), _, rfl, hpM, .refl _, h4 l ns2 st2 hp hn2 hl2 hst2⟩)))
end
end K76

set_option Elab.async false
set_option linter.all false
set_option autoImplicit false
set_option maxRecDepth 100000
set_option maxHeartbeats 2000000
/-! k76, part T: the law's names. -/
namespace K76
open PySem PySem.Spec L2 PD
open PyProof.Rows hiding St
theorem letters_list : letters.cps.toList = (List.range 26).map fun i => 97 + i := by decide +kernel
theorem letters_len : letters.length = 26 := by decide +kernel
theorem letter_at {i : Int} (h0 : 0 ≤ i) (h1 : i < 26) : atI letters.cps.toList i = some (97 + i.toNat) := by
  rw [letters_list]
  have := PD.atI_nat (ds := (List.range 26).map fun i => 97 + i) (i := i.toNat) (x := 97 + i.toNat) (by rw [List.getElem?_map, List.getElem?_range (by omega)]; rfl)
  rwa [show ((i.toNat : Nat) : Int) = i by omega] at this
theorem in_letters {c : Nat} : c ∈ letters.cps.toList ↔ 97 ≤ c ∧ c < 123 := by
  rw [letters_list, List.mem_map]
  constructor
  · rintro ⟨i, hi, rfl⟩
    have := List.mem_range.mp hi
    omega
  · rintro ⟨h1, h2⟩
    exact ⟨c - 97, List.mem_range.mpr (by omega), by omega⟩
/-- a text by its signs -/
def mkS (l : List Nat) : Str := ⟨l.toArray⟩
theorem mkS_app (a b : List Nat) : mkS a ++ mkS b = mkS (a ++ b) := by
  show Str.mk (a.toArray ++ b.toArray) = Str.mk (a ++ b).toArray
  congr 1
  simp
theorem mkS_len (l : List Nat) : (mkS l).length = l.length := by
  show l.toArray.size = l.length
  simp
theorem mkS_one (c : Nat) : (⟨#[c]⟩ : Str) = mkS [c] := rfl
theorem mkS_inj {a b : List Nat} (h : mkS a = mkS b) : a = b := by
  have h1 : a.toArray = b.toArray := congrArg Str.cps h
  simpa using h1
def ltr (l : List Nat) : Prop := ∀ c ∈ l, 97 ≤ c ∧ c < 123
theorem mkS_ok {l : List Nat} (h : ltr l) (h1 : 1 ≤ l.length) (h2 : l.length ≤ 5) : NameOk (mkS l) :=
  ⟨by rw [mkS_len]; exact h1, by rw [mkS_len]; exact h2, fun c hc => in_letters.mpr (h c (by simpa [mkS] using hc))⟩
/-- the mark of the i-th name -/
def markI (first step : Int) (i : Nat) : Int := (first + step * (i : Int)) % 26
theorem mark_inj {first step : Int} (hs : step = 1 ∨ step = 3 ∨ step = 5 ∨ step = 7 ∨ step = 9 ∨ step = 11) {i j : Nat} (hi : i < 26) (hj : j < 26) (h : markI first step i = markI first step j) : i = j := by
  unfold markI at h
  rcases hs with rfl | rfl | rfl | rfl | rfl | rfl <;> omega
/-- the i-th name: its mark, a word -/
def nameI (front : Bool) (first step : Int) (i : Nat) (wd : List Nat) : Str := if front = true then mkS ((97 + (markI first step i).toNat) :: wd) else mkS (wd ++ [97 + (markI first step i).toNat])
theorem mark_rng (first step : Int) (i : Nat) : 0 ≤ markI first step i ∧ markI first step i < 26 := ⟨Int.emod_nonneg _ (by decide), Int.emod_lt_of_pos _ (by decide)⟩
theorem nameI_ok {front : Bool} {first step : Int} {i : Nat} {wd : List Nat} (h : ltr wd) (hl : wd.length ≤ 4) : NameOk (nameI front first step i wd) := by
  have := mark_rng first step i
  have hm : 97 ≤ 97 + (markI first step i).toNat ∧ 97 + (markI first step i).toNat < 123 := by omega
  unfold nameI
  split
  · refine mkS_ok (fun c hc => ?_) (by simp) (by simp; omega)
    rcases List.mem_cons.mp hc with e | hc
    · rw [e]; exact hm
    · exact h c hc
  · refine mkS_ok (fun c hc => ?_) (by simp) (by simp; omega)
    rcases List.mem_append.mp hc with hc | hc
    · exact h c hc
    · have e : c = 97 + (markI first step i).toNat := by simpa using hc
      rw [e]; exact hm
theorem nameI_inj {front : Bool} {first step : Int} (hs : step = 1 ∨ step = 3 ∨ step = 5 ∨ step = 7 ∨ step = 9 ∨ step = 11) {i j : Nat} (hi : i < 26) (hj : j < 26) {a b : List Nat} (h : nameI front first step i a = nameI front first step j b) : i = j := by
  have m1 := mark_rng first step i
  have m2 := mark_rng first step j
  refine mark_inj (first := first) hs hi hj ?_
  cases front with
  | true =>
    have h1 := mkS_inj (show mkS (_ :: a) = mkS (_ :: b) from h)
    have h2 := (List.cons.inj h1).1
    omega
  | false =>
    have h1 := mkS_inj (show mkS (a ++ [_]) = mkS (b ++ [_]) from h)
    have h2 := congrArg (fun l => l.getLast?) h1
    simp at h2
    omega
/-- names that the law may make -/
structure NmOk (l : List Str) : Prop where
  ok : ∀ z ∈ l, NameOk z
  nd : l.Nodup
section
variable {P : Program} {w : World} {K : PySem.W.Frag} {mg : Str → Option Value} {base : Heap}
def P_names : DP := fun ds O R _ => ∃ (p r : Addr) (ns : List Int) (st : Int) (m : Nat) (A O' : Own), ds = [.raw (.ref p), dI m] ∧ O = A ++ hpO p r ns st O' ∧ NsOk ns ∧ ns.length ≤ 1000 ∧ StOk st ∧ m ≤ 26 ∧
  ∀ (po : Addr) (l : List Str) (ns' : List Int) (st' : Int), po ∉ (A ++ hpO p r ns' st' O').map (·.1) → l.length = m → NmOk l → NsOk ns' → ns'.length ≤ 1000 → StOk st' → R (.raw (.ref po)) ((po, .lst (l.map .str)) :: (A ++ hpO p r ns' st' O'))
theorem ok_law_names (F : Df K mg "_law_names" (top 67) [] []) (B : Bare mg) (I1 : Ok P w K mg base 1 "_law_draw" (top 64) [] [] ["_law_heap_here", "_law_many"] P_draw) (I2 : Ok P w K mg base 2 "_law_pick" (top 65) [] [] ["_law_heap_here", "_law_some"] P_pick) : Ok P w K mg base 3 "_law_names" (top 67) [] [] ["_law_heap_here", "_law_many"] P_names := by
  have S : FnScope ["_law_heap_here", "_law_many", "_law_letters", "_law_found", "_law_is_front", "_law_first", "_law_step", "_law_at", "_law_mark", "_law_rest", "_law_word", "_law_turn"] ["_law_heap_here", "_law_many"] (defScope (top 67)) := ⟨rfl, rfl, rfl, by decide +kernel, rfl, by decide +kernel, by decide +kernel⟩
  refine fn_mkD F S (fun ds O R Xr ⟨p, r, ns, st, m, A, O', h, _⟩ => (by rw [h]; rfl)) fun f cdv A outer s H E hr Z ds O R Xr ⟨p, r, ns, st, m, A0, O', h1, h2, hn, hl, hst, hm, h4⟩ tk => ?_
  subst h1 h2
  refine sx_cons (s1_par2 (i := 2) (j := 3) rfl S.nd (by decide) (ea_cons (ex_str (ea_cons (ex_lstO (ea_nil ⟨by decide, fun po hpM hpO' => ea_nil ⟨_, _, rfl, ?_⟩⟩))))))
  have hpo : ∀ (ns : List Int) (st : Int), po ∉ (A0 ++ hpO p r ns st O').map (·.1) := fun ns' st' h => hpO' (by
    unfold hpO at h ⊢
    simpa using h)
  refine sx_cons (s1_par3 (i := 4) (j := 5) (l := 6) rfl S.nd (by decide) (by decide) (by decide) (ea_cons (ex_eqI (ex_fn I1 (by decide) hr (fun _ _ _ _ _ _ us hl => match us, hl with | [_, _], _ => rfl) tkd0 (ea_cons (ex_var (i := 0) rfl (ea_cons (ex_int (ea_nil ⟨p, r, ns, st, 2, (po, .lst []) :: A0, O', rfl, rfl, hn, hl, hst, by decide, by decide, fun j1 ns1 st1 a1 a2 n1 l1 t1 => ex_int ⟨j1, 0, rfl, rfl, ?_⟩⟩)))))))))
  refine ea_cons (ex_fn I1 (by decide) hr (fun _ _ _ _ _ _ us hl => match us, hl with | [_, _], _ => rfl) tkd0 (ea_cons (ex_var (i := 0) rfl (ea_cons (ex_int (ea_nil ⟨p, r, ns1, st1, 26, (po, .lst []) :: A0, O', rfl, rfl, n1, l1, t1, by decide, by decide, fun fi ns2 st2 b1 b2 n2 l2 t2 => ?_⟩))))))
  refine ea_cons (ex_fn I2 (by decide) hr (fun _ _ _ _ _ _ us hl => match us, hl with | [_, _], _ => rfl) tkd0 (ea_cons (ex_var (i := 0) rfl (ea_cons (ex_lst (ea_cons (ex_int (ea_cons (ex_int (ea_cons (ex_int (ea_cons (ex_int (ea_cons (ex_int (ea_cons (ex_int (ea_nil ⟨by show 6 ≤ 1000000; decide, ea_nil ⟨p, r, ns2, st2, _, [.int 1, .int 3, .int 5, .int 7, .int 9, .int 11], (po, .lst []) :: A0, O', rfl, rfl, n2, l2, t2, fun _ _ => .inl .fr, by decide, by decide, fun x ns3 st3 hx n3 l3 t3 => ea_nil ⟨_, _, _, rfl, ?_⟩⟩⟩))))))))))))))))))
  obtain ⟨sp, rfl, hs⟩ : ∃ sp : Int, x = .int sp ∧ (sp = 1 ∨ sp = 3 ∨ sp = 5 ∨ sp = 7 ∨ sp = 9 ∨ sp = 11) := by
    simp only [List.mem_cons, List.not_mem_nil, or_false] at hx
    rcases hx with h | h | h | h | h | h
    all_goals exact ⟨_, h, by decide⟩
  let fr : Bool := decide (j1 = 0)
  refine sx_cons (s1_for (passes_of rfl) rfl (ix_range1 (B _ (by decide)) (ex_var (i := 1) rfl ⟨_, rfl, by omega, by omega, ?_⟩)))
  rw [Int.toNat_natCast]
  refine ⟨fun k ρ' O2 => ∃ (ws : List (List Nat)) (ns4 : List Int) (st4 : Int) (x1 x2 x3 x4 x5 : Option D), ρ' = [some (.raw (.ref p)), some (dI m), some (.str letters), some (.raw (.ref po)), some (.bl fr), some (.int fi), some (.int sp), x1, x2, x3, x4, x5] ∧ O2 = (po, .lst ((ws.mapIdx fun i wd => nameI fr fi sp i wd).map .str)) :: (A0 ++ hpO p r ns4 st4 O') ∧ ws.length = k ∧ (∀ wd ∈ ws, ltr wd ∧ wd.length ≤ 4) ∧ NsOk ns4 ∧ ns4.length ≤ 1000 ∧ StOk st4,
    ⟨[], ns3, st3, none, none, none, none, none, rfl, rfl, rfl, nofun, n3, l3, t3⟩, fun _ _ _ _ => trivial, ?_, ?_⟩
  · rintro k d ρ' O2 hk ⟨ws, ns4, st4, x1, x2, x3, x4, x5, rfl, rfl, hw, hok, n4, l4, t4⟩
    obtain ⟨hkm, rfl⟩ := range_at hk
    obtain ⟨mk1, mk2⟩ := mark_rng fi sp k
    have hspb : sp < 2 ^ 64 := by omega
    have hspa : -(2 ^ 64) < sp := by omega
    refine gx_name (i := 7) ?_ S.nd
    refine sx_cons (s1_par3 (i := 8) (j := 9) (l := 10) rfl S.nd (by decide) (by decide) (by decide) (ea_cons (ex_ix ix_seq (ex_var (i := 2) rfl (ex_mod (ex_intC B (ex_add (ex_var (i := 5) rfl (ex_mul (ex_var (i := 6) rfl (ex_var (i := 7) rfl ⟨sp, (k : Int), rfl, rfl, .inl ⟨hspa, hspb⟩, fi, _, rfl, rfl, _, rfl, ex_int ⟨_, 26, rfl, rfl, by decide, bd_ixS (by rw [letters_len]; decide) (letter_at mk1 mk2) ?_⟩⟩)))))))))))
    refine ea_cons (ex_fn I1 (by decide) hr (fun _ _ _ _ _ _ us hl => match us, hl with | [_, _], _ => rfl) tkd0 (ea_cons (ex_var (i := 0) rfl (ea_cons (ex_int (ea_nil ⟨p, r, ns4, st4, 2284880, (po, _) :: A0, O', rfl, rfl, n4, l4, t4, by decide, by decide, fun rs ns5 st5 c1 c2 n5 l5 t5 => ea_cons (ex_str (ea_nil ⟨_, _, _, rfl, ?_⟩))⟩))))))
    let nm : List Str := ws.mapIdx fun i wd => nameI fr fi sp i wd
    let Ob : Own := (po, .lst (nm.map .str)) :: (A0 ++ hpO p r ns5 st5 O')
    refine sx_cons (s1_for (passes_of rfl) rfl (ix_range1 (B _ (by decide)) (ex_mod (ex_intC B (ex_var (i := 9) rfl ⟨rs, rfl, ex_int ⟨rs, 5, rfl, rfl, by decide, _, rfl, ?_, ?_, ?_⟩⟩)))))
    · have := Int.emod_nonneg rs (show (5 : Int) ≠ 0 by decide)
      omega
    · have := Int.emod_lt_of_pos rs (show (0 : Int) < 5 by decide)
      omega
    have h5 : (rs % 5).toNat ≤ 4 := by
      have := Int.emod_lt_of_pos rs (show (0 : Int) < 5 by decide)
      omega
    refine ⟨fun j ρ' O2 => ∃ (wd : List Nat) (rt : Int) (x : Option D), ρ' = [some (.raw (.ref p)), some (dI m), some (.str letters), some (.raw (.ref po)), some (.bl fr), some (.int fi), some (.int sp), some (dI k), some (.str ⟨#[97 + (markI fi sp k).toNat]⟩), some (.int rt), some (.str (mkS wd)), x] ∧ O2 = Ob ∧ ltr wd ∧ wd.length = j ∧ 0 ≤ rt, ⟨[], rs, x5, rfl, rfl, nofun, rfl, c1⟩, fun _ _ _ _ => trivial, ?_, ?_⟩
    · rintro j d ρ' O2 hj ⟨wd, rt, x, rfl, rfl, hwd, hwl, hrt⟩
      obtain ⟨hj5, rfl⟩ := range_at hj
      refine gx_name (i := 11) ?_ S.nd
      have tail : ∀ rt' : Int, 0 ≤ rt' → SX (cxD P w K mg base ["_law_heap_here", "_law_many", "_law_letters", "_law_found", "_law_is_front", "_law_first", "_law_step", "_law_at", "_law_mark", "_law_rest", "_law_word", "_law_turn"] "_law_names" (top 67) f cdv A outer s H E) Z
          (match (match (defBody (top 67)).getD 2 (.Pass ⟨0, 0, 0, 0⟩) with | .For _ _ b _ _ => b.getD 1 (.Pass ⟨0, 0, 0, 0⟩) | x => x) with | .For _ _ b _ _ => b.tail | _ => []) [some (.raw (.ref p)), some (dI m), some (.str letters), some (.raw (.ref po)), some (.bl fr), some (.int fi), some (.int sp), some (dI k), some (.str ⟨#[97 + (markI fi sp k).toNat]⟩), some (.int rt'), some (.str (mkS wd)), some (dI j)] Ob
          { nx := fun ρ' O2 => ∃ (wd : List Nat) (rt : Int) (x : Option D), ρ' = [some (.raw (.ref p)), some (dI m), some (.str letters), some (.raw (.ref po)), some (.bl fr), some (.int fi), some (.int sp), some (dI k), some (.str ⟨#[97 + (markI fi sp k).toNat]⟩), some (.int rt), some (.str (mkS wd)), x] ∧ O2 = Ob ∧ ltr wd ∧ wd.length = j + 1 ∧ 0 ≤ rt, rt := fun _ _ => False } := fun rt' hrt' => by
        have r1 := Int.emod_nonneg rt' (show (26 : Int) ≠ 0 by decide)
        have r2 := Int.emod_lt_of_pos rt' (show (0 : Int) < 26 by decide)
        refine sx_one (s1_set (i := 10) S.nd (ex_bin op_add_str (ex_var (i := 10) rfl (ex_ix ix_seq (ex_var (i := 2) rfl (ex_mod (ex_intC B (ex_var (i := 9) rfl ⟨rt', rfl, ex_int ⟨rt', 26, rfl, rfl, by decide, bd_ixS (by rw [letters_len]; decide) (letter_at r1 r2) (bd_addS ?_ ?_)⟩⟩))))))))
        · rw [mkS_one, mkS_len, mkS_len]
          show wd.length + 1 ≤ 1000000
          omega
        · refine ⟨wd ++ [97 + (rt' % 26).toNat], rt', some (dI j), by rw [← mkS_app]; rfl, rfl, ?_, by rw [List.length_append, hwl]; rfl, hrt'⟩
          intro c hc
          rcases List.mem_append.mp hc with hc | hc
          · exact hwd c hc
          · have e : c = 97 + (rt' % 26).toNat := by simpa using hc
            omega
      refine sx_cons (s1_set (i := 9) S.nd (ex_if (et_eqI (ex_var (i := 11) rfl (ex_int ⟨(j : Int), 0, rfl, rfl, fun _ => ex_fdiv (ex_var (i := 9) rfl (ex_int ⟨rt, 5, rfl, rfl, ⟨by decide, by decide⟩, ?_⟩)), fun _ => ex_fdiv (ex_var (i := 9) rfl (ex_int ⟨rt, 26, rfl, rfl, ⟨by decide, by decide⟩, ?_⟩))⟩)))))
      · exact (tail (rt / 5) (Int.ediv_nonneg hrt (by decide))).mono (fun _ _ z => z) (fun _ _ z => z.elim) (fun _ _ z => z.elim) (fun _ _ z => z.elim)
      · exact (tail (rt / 26) (Int.ediv_nonneg hrt (by decide))).mono (fun _ _ z => z) (fun _ _ z => z.elim) (fun _ _ z => z.elim) (fun _ _ z => z.elim)
    · rintro ρ' O2 ⟨wd, rt, x, rfl, rfl, hwd, hwl, hrt⟩
      rw [range_len] at hwl
      have hnl : nm.length = k := by show (ws.mapIdx _).length = k; rw [List.length_mapIdx]; exact hw
      have fin : setO Ob po (.lst (nm.map .str ++ [D.str (nameI fr fi sp k wd)])) = (po, OC.lst (((ws ++ [wd]).mapIdx fun i wd => nameI fr fi sp i wd).map .str)) :: (A0 ++ hpO p r ns5 st5 O') := by
        rw [setO_hd (hpo _ _), List.mapIdx_append]
        simp [nm, hw]
      have hal : ∀ q ∈ ws ++ [wd], ltr q ∧ q.length ≤ 4 := fun q hq => by
        rcases List.mem_append.mp hq with hq | hq
        · exact hok q hq
        · have e : q = wd := by simpa using hq
          rw [e]
          exact ⟨hwd, by omega⟩
      refine sx_one (s1_expr (ex_append (ex_var (i := 3) rfl ⟨po, _, rfl, look_hd, ex_if (et_ex (ex_var (i := 4) rfl ⟨fr, rfl, fun hf => ex_bin op_add_str (ex_var (i := 8) rfl (ex_var (i := 10) rfl (bd_addS ?_ ⟨_, look_hd, by rw [List.length_map]; omega, ?_⟩))), fun hf => ex_bin op_add_str (ex_var (i := 10) rfl (ex_var (i := 8) rfl (bd_addS ?_ ⟨_, look_hd, by rw [List.length_map]; omega, ?_⟩)))⟩))⟩)))
      · rw [mkS_one, mkS_len, mkS_len]; show 1 + wd.length ≤ _; omega
      · have e : (⟨#[97 + (markI fi sp k).toNat]⟩ : Str) ++ mkS wd = nameI fr fi sp k wd := by unfold nameI; rw [if_pos hf, mkS_one, mkS_app]; rfl
        rw [e]
        exact ⟨ws ++ [wd], ns5, st5, _, _, _, _, _, rfl, fin, by rw [List.length_append, hw]; rfl, hal, n5, l5, t5⟩
      · rw [mkS_one, mkS_len, mkS_len]; show wd.length + 1 ≤ _; omega
      · have e : mkS wd ++ (⟨#[97 + (markI fi sp k).toNat]⟩ : Str) = nameI fr fi sp k wd := by unfold nameI; rw [hf, mkS_one, mkS_app]; rfl
        rw [e]
        exact ⟨ws ++ [wd], ns5, st5, _, _, _, _, _, rfl, fin, by rw [List.length_append, hw]; rfl, hal, n5, l5, t5⟩
  · rintro ρ' O2 ⟨ws, ns4, st4, x1, x2, x3, x4, x5, rfl, rfl, hw, hok, n4, l4, t4⟩
    rw [range_len] at hw
    refine sx_one (s1_ret (ex_var (i := 3) rfl (h4 po _ ns4 st4 (hpo _ _) ?_ ⟨?_, ?_⟩ n4 l4 t4)))
    · rw [List.length_mapIdx]; exact hw
    · intro z hz
      obtain ⟨i, hi, rfl⟩ := List.mem_mapIdx.mp hz
      obtain ⟨h1, h2⟩ := hok _ (List.getElem_mem hi)
      exact nameI_ok h1 h2
    · rw [List.Nodup, List.pairwise_iff_getElem]
      intro i j hi hj hij e
      rw [List.getElem_mapIdx, List.getElem_mapIdx] at e
      rw [List.length_mapIdx] at hi hj
      have := nameI_inj hs (by omega) (by omega) e
      omega
end
end K76

set_option Elab.async false
set_option linter.all false
set_option pp.maxSteps 40
set_option autoImplicit false
set_option maxRecDepth 100000
set_option maxHeartbeats 2000000
/-! k76, part U: the law's tables. -/
namespace K76
open PySem PySem.Spec L2 PD
open PyProof.Rows hiding St
def IdR (a : Nat) (rs : List Nat) : Prop := ∀ c x, rs[c]? = some x → (a = 0 → x = c) ∧ (c = 0 → x = a)
/-- a square of numbers below n, its first row and column as they are -/
structure TbOk (n : Nat) (rows : List (List Nat)) : Prop where
  l : rows.length = n
  id : ∀ a row, rows[a]? = some row → IdR a row
  r : ∀ row ∈ rows, row.length = n ∧ ∀ x ∈ row, x < n
def dRow (r : List Nat) : D := .lst (r.map dI)
theorem tab_id0 {wh k j : Int} (h1 : 0 < wh) (h2 : 0 < k) (h3 : 0 ≤ j) (h4 : j < wh * k) : (((0 : Nat) : Int) % wh + 1 * (j % wh) + 0) % wh + wh * ((((0 : Nat) : Int) / wh + j / wh) % k) = j := by
  have e0 : ((0 : Nat) : Int) = 0 := rfl
  rw [e0, Int.zero_emod, Int.zero_ediv, Int.zero_add, Int.one_mul, Int.add_zero, Int.zero_add, Int.emod_emod, Int.emod_eq_of_lt (Int.ediv_nonneg h3 (by omega)) (Int.ediv_lt_of_lt_mul h1 (by rw [Int.mul_comm]; exact h4))]
  have := Int.emod_add_mul_ediv j wh
  exact this
theorem tab_id1 {wh k i tn : Int} (h1 : 0 < wh) (h2 : 0 < k) (h3 : 0 ≤ i) (h4 : i < wh * k) : (i % wh + tn * (((0 : Nat) : Int) % wh) + 0) % wh + wh * ((i / wh + ((0 : Nat) : Int) / wh) % k) = i := by
  have e0 : ((0 : Nat) : Int) = 0 := rfl
  rw [e0, Int.zero_emod, Int.zero_ediv, Int.mul_zero, Int.add_zero, Int.add_zero, Int.add_zero, Int.emod_emod, Int.emod_eq_of_lt (Int.ediv_nonneg h3 (by omega)) (Int.ediv_lt_of_lt_mul h1 (by rw [Int.mul_comm]; exact h4))]
  have := Int.emod_add_mul_ediv i wh
  exact this
section
variable {P : Program} {w : World} {K : PySem.W.Frag} {mg : Str → Option Value} {base : Heap}
def P_table : DP := fun ds O R _ => ∃ (wh k sg ex : Int), ds = [.tup [.int wh, .int k, .int sg, .int ex]] ∧ 1 ≤ wh ∧ wh ≤ 10 ∧ 1 ≤ k ∧ k ≤ 10 ∧ -10 ≤ sg ∧ sg ≤ 10 ∧ ∀ rows : List (List Nat), TbOk (wh * k).toNat rows → R (.lst (rows.map dRow)) O
theorem ok_law_table (F : Df K mg "_law_table" (top 72) [] []) (B : Bare mg) : Ok P w K mg base 1 "_law_table" (top 72) [] [] ["_law_kind"] P_table := by
  have S : FnScope ["_law_kind", "_law_wheel", "_law_kinds", "_law_sign", "_law_extra", "_law_rows", "_law_one", "_law_turn", "_law_row", "_law_two", "_law_more", "_law_place", "_law_part"] ["_law_kind"] (defScope (top 72)) := ⟨rfl, rfl, rfl, by decide +kernel, rfl, by decide +kernel, by decide +kernel⟩
  refine fn_mkD F S (fun ds O R Xr ⟨wh, k, sg, ex, h, _⟩ => (by rw [h]; rfl)) fun f cdv A outer s H E hr Z ds O R Xr ⟨wh, k, sg, ex, h1, w1, w2, k1, k2, s1, s2, h4⟩ tk => ?_
  subst h1
  have hn0 : 0 ≤ wh * k := Int.mul_nonneg (by omega) (by omega)
  have hn1 : wh * k ≤ 10 * k := Int.mul_le_mul_of_nonneg_right w2 (by omega)
  have cm : CMul wh k := .inl ⟨by omega, by omega⟩
  refine sx_cons (s1_asg (ex_var (i := 0) rfl (gx_tup rfl (gxs_cons (gx_name (i := 1) (gxs_cons (gx_name (i := 2) (gxs_cons (gx_name (i := 3) (gxs_cons (gx_name (i := 4) (gxs_nil ?_) S.nd)) S.nd)) S.nd)) S.nd)))))
  refine sx_cons (s1_set (i := 5) S.nd (ex_lstO (ea_nil ⟨by decide, fun pz hzM hzO => ?_⟩)))
  refine sx_cons (s1_for (passes_of rfl) rfl (ix_range1 (B _ (by decide)) (ex_mul (ex_var (i := 1) rfl (ex_var (i := 2) rfl ⟨wh, k, rfl, rfl, cm, _, rfl, by omega, by omega, ?_⟩)))))
  refine ⟨fun i ρ' O2 => ∃ (rows : List (List Nat)) (x1 x2 x3 x4 x5 x6 x7 : Option D), ρ' = [some (.tup [.int wh, .int k, .int sg, .int ex]), some (.int wh), some (.int k), some (.int sg), some (.int ex), some (.raw (.ref pz)), x1, x2, x3, x4, x5, x6, x7] ∧ O2 = (pz, .lst (rows.map dRow)) :: O ∧ rows.length = i ∧ (∀ a row, rows[a]? = some row → IdR a row) ∧ ∀ row ∈ rows, row.length = (wh * k).toNat ∧ ∀ x ∈ row, x < (wh * k).toNat,
    ⟨[], none, none, none, none, none, none, none, rfl, rfl, rfl, nofun, nofun⟩, fun _ _ _ _ => trivial, ?_, ?_⟩
  · rintro i d ρ' O2 hi ⟨rows, x1, x2, x3, x4, x5, x6, x7, rfl, rfl, hrl, hid, hrows⟩
    obtain ⟨him, rfl⟩ := range_at hi
    refine gx_name (i := 6) ?_ S.nd
    have w0 : wh ≠ 0 := by omega
    have k0 : k ≠ 0 := by omega
    refine sx_cons (s1_par2 (i := 7) (j := 8) rfl S.nd (by decide) (ea_cons (EX.mono (R := fun d O1 => (∃ tn : Int, d = .int tn ∧ ((i : Int) < wh → tn = 1)) ∧ O1 = (pz, .lst (rows.map dRow)) :: O) (ex_if (et_ge (ex_var (i := 6) rfl (ex_var (i := 1) rfl ⟨(i : Int), wh, rfl, rfl, fun hb => ex_var (i := 3) rfl ⟨⟨_, rfl, fun hl => absurd hl (by have := of_decide_eq_true hb; omega)⟩, rfl⟩, fun _ => ex_int ⟨⟨_, rfl, fun _ => rfl⟩, rfl⟩⟩)))) ?_)))
    rintro d O1 ⟨⟨tn, rfl, htn⟩, rfl⟩
    refine ea_cons (ex_lstO (ea_nil ⟨by decide, fun pr hrM hrO => ea_nil ⟨.int tn, _, rfl, ?_⟩⟩))
    refine sx_cons (s1_for (passes_of rfl) rfl (ix_range1 (B _ (by decide)) (ex_mul (ex_var (i := 1) rfl (ex_var (i := 2) rfl ⟨wh, k, rfl, rfl, cm, _, rfl, by omega, by omega, ?_⟩)))))
    refine ⟨fun j ρ' O2 => ∃ (rs : List Nat) (y2 y3 y4 y5 : Option D), ρ' = [some (.tup [.int wh, .int k, .int sg, .int ex]), some (.int wh), some (.int k), some (.int sg), some (.int ex), some (.raw (.ref pz)), some (dI i), some (.int tn), some (.raw (.ref pr)), y2, y3, y4, y5] ∧ O2 = (pr, .lst (rs.map dI)) :: (pz, .lst (rows.map dRow)) :: O ∧ rs.length = j ∧ IdR i rs ∧ ∀ x ∈ rs, x < (wh * k).toNat,
      ⟨[], x4, x5, x6, x7, rfl, rfl, rfl, nofun, nofun⟩, fun _ _ _ _ => trivial, ?_, ?_⟩
    · rintro j d ρ' O2 hj ⟨rs, y2, y3, y4, y5, rfl, rfl, hrs, hri, hrb⟩
      obtain ⟨hjm, rfl⟩ := range_at hj
      have q0 := Int.emod_nonneg (j : Int) w0
      have q1 := Int.emod_lt_of_pos (j : Int) (show 0 < wh by omega)
      refine gx_name (i := 9) ?_ S.nd
      refine sx_cons (s1_set (i := 10) S.nd (EX.mono (R := fun d O1 => (∃ mo : Int, d = .int mo ∧ ((i : Int) < wh ∨ (j : Int) < wh → mo = 0)) ∧ O1 = (pr, .lst (rs.map dI)) :: (pz, .lst (rows.map dRow)) :: O) (ex_if (et_and (et_ge (ex_var (i := 6) rfl (ex_var (i := 1) rfl ⟨(i : Int), wh, rfl, rfl, fun _ => ⟨nofun, fun _ => ex_int ⟨⟨_, rfl, fun _ => rfl⟩, rfl⟩⟩, fun h1 => ew_and1 (et_ge (ex_var (i := 9) rfl (ex_var (i := 1) rfl ⟨(j : Int), wh, rfl, rfl, fun h2 => ex_var (i := 4) rfl ⟨⟨_, rfl, fun h => absurd h (by have := of_decide_eq_true h1; have := of_decide_eq_true h2; omega)⟩, rfl⟩, fun _ => ex_int ⟨⟨_, rfl, fun _ => rfl⟩, rfl⟩⟩)))⟩))))) ?_))
      rintro d O1 ⟨⟨mo, rfl, hmo⟩, rfl⟩
      refine sx_cons (s1_par2 (i := 11) (j := 12) rfl S.nd (by decide) (ea_cons (ex_mod (ex_intC B (ex_add (ex_add (ex_mod (ex_var (i := 6) rfl (ex_var (i := 1) rfl ⟨(i : Int), wh, rfl, rfl, by omega, ex_mul (ex_var (i := 7) rfl (ex_mod (ex_var (i := 9) rfl (ex_var (i := 1) rfl ⟨(j : Int), wh, rfl, rfl, by omega, _, _, rfl, rfl, .inr ⟨by omega, by omega⟩, _, _, rfl, rfl, ex_var (i := 10) rfl ⟨_, _, rfl, rfl, _, rfl, ex_var (i := 1) rfl ⟨_, wh, rfl, rfl, by omega, ?_⟩⟩⟩))))⟩)))))))))
      refine ea_cons (ex_mod (ex_intC B (ex_add (ex_fdiv (ex_var (i := 6) rfl (ex_var (i := 1) rfl ⟨(i : Int), wh, rfl, rfl, ⟨by omega, by omega⟩, ex_fdiv (ex_var (i := 9) rfl (ex_var (i := 1) rfl ⟨(j : Int), wh, rfl, rfl, ⟨by omega, by omega⟩, _, _, rfl, rfl, _, rfl, ex_var (i := 2) rfl ⟨_, k, rfl, rfl, by omega, ea_nil ⟨_, _, rfl, ?_⟩⟩⟩))⟩))))))
      have p0 := Int.emod_nonneg ((i : Int) % wh + tn * ((j : Int) % wh) + mo) w0
      have p1 := Int.emod_lt_of_pos ((i : Int) % wh + tn * ((j : Int) % wh) + mo) (show 0 < wh by omega)
      have c0 := Int.emod_nonneg ((i : Int) / wh + (j : Int) / wh) k0
      have c1 := Int.emod_lt_of_pos ((i : Int) / wh + (j : Int) / wh) (show 0 < k by omega)
      have hjn : (j : Int) < wh * k := by omega
      have hin : (i : Int) < wh * k := by omega
      have id0 : i = 0 → ((i : Int) % wh + tn * ((j : Int) % wh) + mo) % wh + wh * (((i : Int) / wh + (j : Int) / wh) % k) = (j : Int) := fun h => by
        rw [hmo (.inl (by omega)), htn (by omega), h]
        exact tab_id0 (by omega) (by omega) (by omega) hjn
      have id1 : j = 0 → ((i : Int) % wh + tn * ((j : Int) % wh) + mo) % wh + wh * (((i : Int) / wh + (j : Int) / wh) % k) = (i : Int) := fun h => by
        rw [hmo (.inr (by omega)), h]
        exact tab_id1 (by omega) (by omega) (by omega) hin
      generalize ((i : Int) % wh + tn * ((j : Int) % wh) + mo) % wh = pl at p0 p1 id0 id1
      generalize ((i : Int) / wh + (j : Int) / wh) % k = pt at c0 c1 id0 id1
      have m1 : wh * pt ≤ wh * (k - 1) := Int.mul_le_mul_of_nonneg_left (by omega) (by omega)
      have m2 : 0 ≤ wh * pt := Int.mul_nonneg (by omega) c0
      have m3 : wh * (k - 1) = wh * k - wh := by rw [Int.mul_sub, Int.mul_one]
      refine sx_one (s1_expr (ex_append (ex_var (i := 8) rfl ⟨pr, rs.map dI, rfl, look_hd, ex_add (ex_var (i := 11) rfl (ex_mul (ex_var (i := 1) rfl (ex_var (i := 12) rfl ⟨wh, pt, rfl, rfl, .inl ⟨by omega, by omega⟩, pl, wh * pt, rfl, rfl, rs.map dI, look_hd, by rw [List.length_map]; omega, ?_⟩))))⟩)))
      rw [setO_hd hrO]
      refine ⟨rs ++ [(pl + wh * pt).toNat], _, _, _, _, rfl, ?_, by rw [List.length_append, hrs]; rfl, ?_, ?_⟩
      · rw [List.map_append]
        have e : D.int (pl + wh * pt) = dI (pl + wh * pt).toNat := by show D.int _ = D.int _; congr 1; omega
        rw [e]
        rfl
      · intro c x hx
        by_cases z : c < rs.length
        · rw [List.getElem?_append_left z] at hx
          exact hri c x hx
        · rw [List.getElem?_append_right (by omega)] at hx
          have hc : c - rs.length = 0 := by
            have := (List.getElem?_eq_some_iff.mp hx).1
            rw [List.length_singleton] at this
            omega
          rw [hc] at hx
          have ex : x = (pl + wh * pt).toNat := (Option.some.inj hx).symm
          exact ⟨fun h => by have := id0 h; omega, fun h => by have := id1 (by omega); omega⟩
      · intro x hx
        rcases List.mem_append.mp hx with h | h
        · exact hrb x h
        · have e : x = (pl + wh * pt).toNat := by simpa using h
          omega
    · rintro ρ' O2 ⟨rs, y2, y3, y4, y5, rfl, rfl, hrs, hri, hrb⟩
      rw [range_len] at hrs
      refine sx_one (s1_expr (ex_append (ex_var (i := 5) rfl ⟨pz, rows.map dRow, rfl, ?_, ex_frz (ex_var (i := 8) rfl ⟨pr, .lst (rs.map dI), (pz, .lst (rows.map dRow)) :: O, rfl, hrM, .refl _, rows.map dRow, look_hd, ?_, ?_⟩)⟩)))
      · exact look_2 fun e => hrO (by rw [← e]; exact List.mem_map.mpr ⟨_, List.mem_cons_self, rfl⟩)
      · rw [List.length_map]; omega
      · rw [setO_hd hzO]
        refine ⟨rows ++ [rs], _, _, _, _, _, _, _, rfl, ?_, by rw [List.length_append, hrl]; rfl, ?_, ?_⟩
        · rw [List.map_append]; rfl
        · intro a row hx
          by_cases z : a < rows.length
          · rw [List.getElem?_append_left z] at hx
            exact hid a row hx
          · rw [List.getElem?_append_right (by omega)] at hx
            have hc : a - rows.length = 0 := by
              have := (List.getElem?_eq_some_iff.mp hx).1
              rw [List.length_singleton] at this
              omega
            rw [hc] at hx
            have e1 : rs = row := Option.some.inj hx
            have e2 : a = i := by omega
            rw [← e1, e2]
            exact hri
        · intro row hrow
          rcases List.mem_append.mp hrow with h | h
          · exact hrows row h
          · have e : row = rs := by simpa using h
            rw [e]; exact ⟨hrs, hrb⟩
  · rintro ρ' O2 ⟨rows, x1, x2, x3, x4, x5, x6, x7, rfl, rfl, hrl, hid, hrows⟩
    rw [range_len] at hrl
    exact sx_one (s1_ret (ex_frz (ex_var (i := 5) rfl ⟨pz, .lst (rows.map dRow), O, rfl, hzM, .refl _, h4 rows ⟨hrl, hid, hrows⟩⟩)))
end
end K76

set_option Elab.async false
set_option linter.all false
set_option autoImplicit false
set_option maxRecDepth 100000
set_option maxHeartbeats 2000000
/-! k76, part V: the law's own reach. -/
namespace K76
open PySem PySem.Spec L2 PD
open PyProof.Rows hiding St
section
variable {P : Program} {w : World} {K : PySem.W.Frag} {mg : Str → Option Value} {base : Heap}
/-- runs by states: a text tuple for each state that is reached -/
def kvR (p : Nat × List Str) : Key × D := (.inl (p.1 : Int), .tup (p.2.map .str))
def ks3 (L : List (Nat × List Str)) : List Nat := L.map (·.1)
theorem dval_R (e : Nat) : ∀ L : List (Nat × List Str), (dval (L.map kvR) (.inl (e : Int)) = none ∧ e ∉ ks3 L) ∨ ∃ r, dval (L.map kvR) (.inl (e : Int)) = some (.tup (r.map .str)) ∧ (e, r) ∈ L
  | [] => .inl ⟨rfl, by simp [ks3]⟩
  | p :: L => by
    by_cases z : p.1 = e
    · exact .inr ⟨p.2, by simp [dval, kvR, z], by subst z; exact List.mem_cons_self⟩
    · have e1 : dval ((p :: L).map kvR) (.inl (e : Int)) = dval (L.map kvR) (.inl (e : Int)) := by
        unfold dval
        rw [List.map_cons, List.find?_cons_of_neg]
        show ¬ decide ((Sum.inl (p.1 : Int) : Key) = .inl (e : Int)) = true
        intro hd
        have h1 : (p.1 : Int) = (e : Int) := Sum.inl.inj (of_decide_eq_true hd)
        exact z (by omega)
      rw [e1]
      rcases dval_R e L with ⟨a, b⟩ | ⟨y, a, b⟩
      · exact .inl ⟨a, by simp only [ks3, List.map_cons, List.mem_cons]; rintro (h | h); exact z h.symm; exact b h⟩
      · exact .inr ⟨y, a, List.mem_cons_of_mem _ b⟩
theorem dput_R {L : List (Nat × List Str)} {e : Nat} {r : List Str} (h : e ∉ ks3 L) : dput (L.map kvR) (.inl (e : Int)) (.tup (r.map .str)) = (L ++ [(e, r)]).map kvR := by
  rw [dput_new]
  · rw [List.map_append]; rfl
  · intro hm
    rw [List.map_map] at hm
    obtain ⟨p, hp, e1⟩ := List.mem_map.mp hm
    have e2 : (Sum.inl (p.1 : Int) : Key) = .inl (e : Int) := e1
    have e3 : (p.1 : Int) = (e : Int) := Sum.inl.inj e2
    exact h (List.mem_map.mpr ⟨p, hp, by omega⟩)
def dOffs (offs : List (List Op)) : List D := offs.map dOff
/-- the operations of some offices of a list -/
def opsAt (offs : List (List Op)) (ns : List Nat) : List Op := ns.flatMap fun n => offs.getD n []
def P_law_reach : DP := fun ds O R _ => ∃ (d1 d2 : D) (offs : List (List Op)) (ns : List Nat) (b n : Nat), ds = [d1, d2, dI b] ∧ LsAt O d1 (dOffs offs) ∧ LsAt O d2 (ns.map dI) ∧ n ≤ 200 ∧ b < n ∧ (∀ f ∈ offs, ∀ o ∈ f, o.Ok n) ∧ (∀ k ∈ ns, k < offs.length) ∧
  ∀ kvs : List (Key × D), kvs.length = (rchN n (opsAt offs ns) b).length → R (.dct kvs) O
theorem bk_count {n : Nat} {os : List Op} {b : Nat} {ks : List Nat} {k : Nat} (h : BK n os b ks k) (e : k = ks.length) (hb : ∀ o ∈ os, o.Ok n) (hbn : b < n) : ks.length = (rchN n os b).length := by
  have nd : ks.Nodup := by have := h.nd; rwa [keys_kz] at this
  have p : ks.Perm (rchN n os b) := by
    refine (List.perm_ext_iff_of_nodup nd rchN_nd).mpr fun x => ?_
    rw [h.all' e, rchN_mem]
    exact ⟨fun r => ⟨r.lt hb hbn, r⟩, fun r => r.2⟩
  exact p.length_eq
theorem opsAt_ok {offs : List (List Op)} {n : Nat} (h : ∀ f ∈ offs, ∀ o ∈ f, o.Ok n) {ns : List Nat} {o : Op} (ho : o ∈ opsAt offs ns) : o.Ok n := by
  obtain ⟨m, hm, h1⟩ := List.mem_flatMap.mp ho
  rw [List.getD_eq_getElem?_getD] at h1
  by_cases z : m < offs.length
  · rw [List.getElem?_eq_getElem z] at h1
    exact h _ (List.getElem_mem z) _ h1
  · rw [List.getElem?_eq_none (by omega)] at h1
    cases h1
theorem ls_cons {O : Own} {d : D} {ds : List D} {q : Addr} {c : OC} (h : LsAt O d ds) (hq : q ∉ O.map (·.1)) : LsAt ((q, c) :: O) d ds := by
  rcases h with h | ⟨p, h1, h2⟩
  · exact .inl h
  · refine .inr ⟨p, h1, ?_⟩
    have hm : p ∈ O.map (·.1) := List.mem_map.mpr ⟨_, mem_addrs h2, rfl⟩
    rw [List.lookup_cons]
    have : (p == q) = false := by
      by_cases z : p = q
      · exact absurd (z ▸ hm) hq
      · simpa using z
    rw [this]
    exact h2
theorem off_at2 {offs : List (List Op)} {k : Nat} (h : k < offs.length) : atI (dOffs offs) (k : Int) = some (dOff (offs.getD k [])) := by
  apply PD.atI_nat
  unfold dOffs
  rw [List.getElem?_map, List.getD_eq_getElem?_getD, List.getElem?_eq_getElem h]
  rfl
theorem in_ks3 {L : List (Nat × List Str)} {e : Nat} (h : e ∈ ks3 L) : ∃ r, dval (L.map kvR) (.inl (e : Int)) = some (.tup (r.map .str)) ∧ (e, r) ∈ L := by
  rcases dval_R e L with ⟨a, b⟩ | h2
  · exact absurd h b
  · exact h2
theorem ok_law_reach (F : Df K mg "_law_reach" (top 68) [] []) (B : Bare mg) : Ok P w K mg base 1 "_law_reach" (top 68) [] [] ["_law_offices", "_law_numbers", "_law_base"] P_law_reach := by
  have S : FnScope ["_law_offices", "_law_numbers", "_law_base", "_law_runs", "_law_rows", "_law_at", "_law_number", "_law_name", "_law_ends", "_law_answers"] ["_law_offices", "_law_numbers", "_law_base"] (defScope (top 68)) := ⟨rfl, rfl, rfl, by decide +kernel, rfl, by decide +kernel, by decide +kernel⟩
  refine fn_mkD F S (fun ds O R Xr ⟨d1, d2, offs, ns, b, n, h, _⟩ => (by rw [h]; rfl)) fun f cdv A outer s H E hr Z ds O R Xr ⟨d1, d2, offs, ns, b, n, h1, hd1, hd2, hn, hb, hok, hns, h4⟩ tk => ?_
  subst h1
  have hko : ∀ p ∈ opsAt offs ns, p.Ok n := fun p hp => opsAt_ok hok hp
  refine sx_cons (s1_par3 (i := 3) (j := 4) (l := 5) rfl S.nd (by decide) (by decide) (by decide) (ea_cons (ex_disp1 fun pf hm hd => ex_var (i := 2) rfl (ex_tup (ea_nil ⟨by decide, .inl (b : Int), rfl, look_hd, ?_⟩)))))
  rw [setO_hd hd]
  refine ea_cons (ex_lstO (ea_cons (ex_var (i := 2) rfl (ea_nil ⟨by show 1 ≤ 1000000; decide, fun pq hm2 hd2' => ?_⟩))))
  refine ea_cons (ex_int (ea_nil ⟨_, _, _, rfl, ?_⟩))
  have hne : pf ≠ pq := fun z => hd2' (by rw [z]; exact List.mem_map.mpr ⟨_, List.mem_cons_self, rfl⟩)
  have hdq : pq ∉ O.map (·.1) := fun z => hd2' (by rw [List.map_cons]; exact List.mem_cons_of_mem _ z)
  let ow : List (Nat × List Str) → Own := fun L => (pq, .lst ((ks3 L).map dI)) :: (pf, .dct (L.map kvR)) :: O
  have hq2 : ∀ c : OC, pq ∉ ((pf, c) :: O : Own).map (·.1) := fun c hx => by
    rcases List.mem_cons.mp hx with hx | hx
    · exact hne hx.symm
    · exact hdq hx
  have lo : ∀ L, LsAt (ow L) d1 (dOffs offs) := fun L => ls_cons (ls_cons hd1 hd) (hq2 _)
  have ln : ∀ L, LsAt (ow L) d2 (ns.map dI) := fun L => ls_cons (ls_cons hd2 hd) (hq2 _)
  let Lg : List (Nat × List Str) → Prop := fun L => ∀ p ∈ L, p.2.length ≤ L.length
  let W : Nat → Slots → Own → Prop := fun m ρ' O' => ∃ (L : List (Nat × List Str)) (k : Nat) (x y z v : Option D), ρ' = [some d1, some d2, some (dI b), some (.raw (.ref pf)), some (.raw (.ref pq)), some (dI k), x, y, z, v] ∧ O' = ow L ∧ BK n (opsAt offs ns) b (ks3 L) k ∧ Lg L ∧ m = n - k
  refine sx_cons (s1_while (passes_of rfl) W n ⟨[(b, [])], 0, none, none, none, none, rfl, rfl, BK.one hb, ?_, rfl⟩ ?_)
  · intro p hp
    have : p = (b, []) := by simpa using hp
    subst this
    exact Nat.zero_le _
  rintro m ρ' O' ⟨L, k, x, y, z, v, rfl, rfl, bk, lg, rfl⟩
  have hlq : ((ks3 L).map dI).length = (ks3 L).length := List.length_map ..
  refine et_lt (ex_var (i := 5) rfl (ex_len B (ex_var (i := 4) rfl ⟨(ks3 L).map dI, .inl (.ow look_hd), (k : Int), _, rfl, rfl, fun hlt => ?_, fun hge => ?_⟩)))
  · have hk : k < (ks3 L).length := by
      have := of_decide_eq_true hlt
      rw [hlq] at this
      omega
    obtain ⟨r0, hr0⟩ : ∃ r, (ks3 L)[k]? = some r := ⟨_, List.getElem?_eq_getElem hk⟩
    have hr0n : r0 < n := bk.lt' (List.mem_of_getElem? hr0)
    have atq : ∀ L' : List (Nat × List Str), (ks3 L')[k]? = some r0 → atI ((ks3 L').map dI) (k : Int) = some (dI r0) := fun L' h => PD.atI_nat (by rw [List.getElem?_map, h]; rfl)
    refine sx_cons (s1_for (passes_of rfl) rfl (ix_lst (ex_var (i := 1) rfl ⟨ns.map dI, .inl (ln L), ?_⟩)))
    refine ⟨fun i ρ' O' => ∃ (L' : List (Nat × List Str)) (x y z v : Option D), ρ' = [some d1, some d2, some (dI b), some (.raw (.ref pf)), some (.raw (.ref pq)), some (dI k), x, y, z, v] ∧ O' = ow L' ∧ BK n (opsAt offs ns) b (ks3 L') k ∧ Lg L' ∧ (ks3 L')[k]? = some r0 ∧ ∀ p ∈ opsAt offs (ns.take i), p.E r0 ∈ ks3 L',
      ⟨L, x, y, z, v, rfl, rfl, bk, lg, hr0, nofun⟩, ?_, ?_, ?_⟩
    · rintro i ρ' O' ⟨L', x, y, z, v, rfl, rfl, _⟩
      exact .inl (ln L')
    · rintro i d ρ' O' hi ⟨L', x, y, z, v, rfl, rfl, bk', lg', hk', hcl⟩
      obtain ⟨u, hu, rfl⟩ := Option.map_eq_some_iff.mp (by rw [List.getElem?_map] at hi; exact hi)
      have hum := List.mem_of_getElem? hu
      have hul := hns u hum
      refine gx_name (i := 6) ?_ S.nd
      refine sx_one (s1_for (passes_of rfl) rfl (ix_tup (ex_idx (ex_var (i := 0) rfl (ex_var (i := 6) rfl ⟨_, (u : Int), _, .inl (lo L'), rfl, off_at2 hul, _, rfl, ?_⟩)))))
      have hsub : ∀ p ∈ offs.getD u [], p ∈ opsAt offs ns := fun p hp => List.mem_flatMap.mpr ⟨u, hum, hp⟩
      generalize hfd : offs.getD u [] = fo at hsub
      refine ⟨fun j ρ' O' => ∃ (L' : List (Nat × List Str)) (y z v : Option D), ρ' = [some d1, some d2, some (dI b), some (.raw (.ref pf)), some (.raw (.ref pq)), some (dI k), some (dI u), y, z, v] ∧ O' = ow L' ∧ BK n (opsAt offs ns) b (ks3 L') k ∧ Lg L' ∧ (ks3 L')[k]? = some r0 ∧ (∀ p ∈ opsAt offs (ns.take i), p.E r0 ∈ ks3 L') ∧ ∀ j', j' < j → ∀ p, fo[j']? = some p → p.E r0 ∈ ks3 L',
        ⟨L', y, z, v, rfl, rfl, bk', lg', hk', hcl, nofun⟩, fun _ _ _ _ => trivial, ?_, ?_⟩
      · rintro j d ρ' O' hj ⟨L', y, z, v, rfl, rfl, bk', lg', hk', hcl, hcj⟩
        obtain ⟨p, hp, rfl⟩ : ∃ p, fo[j]? = some p ∧ d = dOp p := by
          rw [List.getElem?_map] at hj
          obtain ⟨p, a, e⟩ := Option.map_eq_some_iff.mp hj
          exact ⟨p, a, e.symm⟩
        have hpm := hsub p (List.mem_of_getElem? hp)
        have hpo := hko p hpm
        have hin' : r0 ∈ ks3 L' := List.mem_of_getElem? hk'
        have hlen := bk'.len'
        have hLl : (ks3 L').length = L'.length := List.length_map ..
        refine gx_tup rfl (gxs_cons (gx_name (i := 7) (gxs_cons (gx_name (i := 8) (gxs_cons (gx_name (i := 9) (gxs_nil ?_) S.nd)) S.nd)) S.nd))
        refine sx_one (s1_if (et_dnotin (hu_of hr) (ex_idx (ex_var (i := 8) rfl (ex_idx (ex_var (i := 4) rfl (ex_var (i := 5) rfl ⟨_, (k : Int), dI r0, .inl (.ow look_hd), rfl, atq L' hk', _, (r0 : Int), _, .inr (.inl rfl), rfl, at_ends hpo hr0n, ?_⟩))))))) 
        refine ex_var (i := 3) rfl ⟨L'.map kvR, .inl (p.E r0 : Int), .ow (look_2 hne), rfl, fun hnew => ?_, fun hold => ?_⟩
        · have hn : p.E r0 ∉ ks3 L' := by
            rcases dval_R (p.E r0) L' with ⟨a, b⟩ | ⟨z, a, b⟩
            · exact b
            · rw [a] at hnew; cases hnew
          obtain ⟨rn, hrn1, hrn2⟩ := in_ks3 hin'
          have hrl := lg' _ hrn2
          refine sx_cons (s1_dput (hu_of hr) (ex_bin op_catA (ex_dget (hu_of hr) (ex_var (i := 3) rfl (ex_idx (ex_var (i := 4) rfl (ex_var (i := 5) rfl ⟨_, (k : Int), dI r0, .inl (.ow look_hd), rfl, atq L' hk', L'.map kvR, .inl (r0 : Int), _, .ow (look_2 hne), rfl, hrn1, ex_tup (ea_cons (ex_var (i := 7) rfl (ea_nil ⟨by show 1 ≤ 1000000; decide, bd_catT ?_ ?_⟩)))⟩)))))))
          · rw [List.length_map]
            show rn.length + 1 ≤ 1000000
            have : rn.length ≤ L'.length := hrl
            omega
          refine ex_var (i := 3) rfl (ex_idx (ex_var (i := 8) rfl (ex_idx (ex_var (i := 4) rfl (ex_var (i := 5) rfl ⟨_, (k : Int), dI r0, .inl (.ow look_hd), rfl, atq L' hk', _, (r0 : Int), _, .inr (.inl rfl), rfl, at_ends hpo hr0n, pf, L'.map kvR, .inl (p.E r0 : Int), rfl, look_2 hne, rfl, by rw [List.length_map]; omega, ?_⟩)))))
          have erow : rn.map D.str ++ [D.str p.name] = (rn ++ [p.name]).map D.str := by rw [List.map_append]; rfl
          rw [erow, dput_R hn]
          show SX _ _ _ _ (setO ((pq, OC.lst ((ks3 L').map dI)) :: (pf, OC.dct (L'.map kvR)) :: O) pf (.dct ((L' ++ [(p.E r0, rn ++ [p.name])]).map kvR))) _
          rw [setO_2 hne hd]
          have ek : ks3 (L' ++ [(p.E r0, rn ++ [p.name])]) = ks3 L' ++ [p.E r0] := by simp [ks3]
          refine sx_one (s1_expr (ex_append (ex_var (i := 4) rfl ⟨pq, _, rfl, look_hd, ex_idx (ex_var (i := 8) rfl (ex_idx (ex_var (i := 4) rfl (ex_var (i := 5) rfl ⟨_, (k : Int), dI r0, .inl (.ow look_hd), rfl, atq L' hk', _, (r0 : Int), _, .inr (.inl rfl), rfl, at_ends hpo hr0n, _, look_hd, by rw [List.length_map]; omega, ?_⟩))))⟩)))
          rw [setO_hd (hq2 _)]
          refine ⟨L' ++ [(p.E r0, rn ++ [p.name])], _, _, _, rfl, ?_, ?_, ?_, ?_, ?_, ?_⟩
          · show _ = (pq, OC.lst ((ks3 (L' ++ [(p.E r0, rn ++ [p.name])])).map dI)) :: _
            rw [ek, List.map_append (f := dI)]
            rfl
          · rw [ek]
            exact bk'.push hn (hpo.lt hr0n) (.go (bk'.rc' hin') hpm)
          · intro q hq
            rw [List.length_append]
            rcases List.mem_append.mp hq with hq | hq
            · have := lg' q hq
              omega
            · have : q = (p.E r0, rn ++ [p.name]) := by simpa using hq
              subst this
              show (rn ++ [p.name]).length ≤ _
              rw [List.length_append]
              show rn.length + 1 ≤ L'.length + 1
              have : rn.length ≤ L'.length := hrl
              omega
          · rw [ek, List.getElem?_append_left (List.getElem?_eq_some_iff.mp hk').1]
            exact hk'
          · intro o' ho'
            rw [ek]
            exact List.mem_append_left _ (hcl o' ho')
          · intro j' hj' o' ho'
            rw [ek]
            by_cases e : j' = j
            · subst e
              rw [hp] at ho'
              cases ho'
              exact List.mem_append_right _ (by simp)
            · exact List.mem_append_left _ (hcj j' (by omega) o' ho')
        · refine sx_nil ⟨L', _, _, _, rfl, rfl, bk', lg', hk', hcl, ?_⟩
          have hn : p.E r0 ∈ ks3 L' := by
            rcases dval_R (p.E r0) L' with ⟨a, b⟩ | ⟨z, a, b⟩
            · rw [a] at hold; cases hold
            · exact List.mem_map.mpr ⟨_, b, rfl⟩
          intro j' hj' o' ho'
          by_cases e : j' = j
          · subst e
            rw [hp] at ho'
            cases ho'
            exact hn
          · exact hcj j' (by omega) o' ho'
      · rintro ρ' O' ⟨L', y, z, v, rfl, rfl, bk', lg', hk', hcl, hcj⟩
        refine ⟨L', _, _, _, _, rfl, rfl, bk', lg', hk', fun p hp => ?_⟩
        rw [List.length_map] at hcj
        have et : ns.take (i + 1) = ns.take i ++ [u] := by
          rw [List.take_add_one, hu]
          rfl
        rw [et] at hp
        obtain ⟨u', hu', hp'⟩ := List.mem_flatMap.mp hp
        rcases List.mem_append.mp hu' with h | h
        · exact hcl p (List.mem_flatMap.mpr ⟨u', h, hp'⟩)
        · have e : u' = u := by simpa using h
          rw [e, hfd] at hp'
          obtain ⟨j', hj', ej⟩ := List.mem_iff_getElem.mp hp'
          exact hcj j' hj' p (by rw [List.getElem?_eq_getElem hj', ej])
    · rintro ρ' O' ⟨L', x, y, z, v, rfl, rfl, bk', lg', hk', hcl⟩
      have hlen := bk'.len'
      have hkl := (List.getElem?_eq_some_iff.mp hk').1
      rw [List.length_map, List.take_length] at hcl
      refine sx_one (s1_set (i := 5) S.nd (ex_add (ex_var (i := 5) rfl (ex_int ⟨(k : Int), 1, rfl, rfl, ?_⟩))))
      exact ⟨n - (k + 1), by omega, L', k + 1, _, _, _, _, rfl, rfl, bk'.next hk' hcl, lg', rfl⟩
  · have hk : k = (ks3 L).length := by
      have := of_decide_eq_false hge
      rw [hlq] at this
      have := bk.le'
      omega
    refine sx_one (s1_ret (ex_drop (ex_frz (ex_var (i := 3) rfl ⟨pf, .dct (L.map kvR), (pq, .lst ((ks3 L).map dI)) :: O, rfl, hm, .swap _ _ _, O, List.sublist_cons_self _ _, ?_⟩))))
    refine h4 _ ?_
    rw [List.length_map, ← bk_count bk hk hko hb]
    exact (List.length_map ..).symm
end
end K76

set_option Elab.async false
set_option linter.all false
set_option autoImplicit false
set_option maxRecDepth 100000
set_option maxHeartbeats 2000000
/-! k76, part W: loops whose slots are forgotten; why a store is refused. -/
namespace PD
open PySem PySem.Spec L2
open PyProof.Rows hiding St
section
variable {X : Cx} {Z : Zn} {ρ ρ0 : Slots} {O : Own} {E : En}
theorem S1.mono {st : Stmt} {E E' : En} (h : S1 X Z st ρ O E) (n : ∀ ρ' O', E.nx ρ' O' → E'.nx ρ' O') (r : ∀ d O', E.rt d O' → E'.rt d O') (b : ∀ ρ' O', E.bk ρ' O' → E'.bk ρ' O') (c : ∀ ρ' O', E.ct ρ' O' → E'.ct ρ' O') : S1 X Z st ρ O E' := fun σ B H s =>
  EVS.mono (h σ B H s) (fun _ _ ⟨B', ρ', O', a1, a2, a3⟩ => ⟨B', ρ', O', a1, a2, n _ _ a3⟩) (fun _ _ ⟨d, σ', B', ρ', O', a1, a2, a3, a4⟩ => ⟨d, σ', B', ρ', O', a1, a2, a3, r _ _ a4⟩) (fun _ _ ⟨B', ρ', O', a1, a2, a3⟩ => ⟨B', ρ', O', a1, a2, b _ _ a3⟩) (fun _ _ ⟨B', ρ', O', a1, a2, a3⟩ => ⟨B', ρ', O', a1, a2, c _ _ a3⟩)
/-- what stands behind the first statement -/
theorem sx_cut {st : Stmt} {rest : List Stmt} (Q : Slots → Own → Prop) (h : S1 X Z st ρ O { E with nx := Q }) (q : ∀ ρ' O', Q ρ' O' → SX X Z rest ρ' O' E) : SX X Z (st :: rest) ρ O E :=
  sx_cons (S1.mono h q (fun _ _ z => z) (fun _ _ z => z) (fun _ _ z => z))
theorem GX.fewer {tg : Expr} {d : D} {R : Slots → Own → Prop} (h : GX X Z tg d ρ0 O R) (f : Fewer ρ0 ρ) : GX X Z tg d ρ O R := fun σ B H v s r => h σ B H v (s.fewer f) r
theorem Fewer.nil : Fewer [] [] := fun _ _ h => h
theorem Fewer.cons {a b : Slots} {x : Option D} (f : Fewer a b) : Fewer (x :: a) (x :: b) := fun i d h => match i, h with
  | 0, h => h
  | i + 1, h => f i d h
theorem Fewer.skip {a b : Slots} {x : Option D} (f : Fewer a b) : Fewer (none :: a) (x :: b) := fun i d h => match i, h with
  | 0, h => by cases h
  | i + 1, h => f i d h
/-- a loop behind whose turns just the slots ρ0 are known -/
theorem s1_forF {tg iter : Expr} {body : List Stmt} {pos : Pos} (ρ0 : Slots) (hp : PassesOwn (model X.prog X.w) X.A X.env X.xe) (hc : X.calm = true) (f : Fewer ρ0 ρ) (h : IX X Z tg iter ρ O fun ds Gd O1 => ∃ Iv : Nat → Own → Prop, Iv 0 O1 ∧ (∀ i O', Iv i O' → Gd O') ∧
    (∀ (i : Nat) (d : D) O', ds[i]? = some d → Iv i O' → GX X Z tg d ρ0 O' fun ρ2 O2 => SX X Z body ρ2 O2 { nx := fun ρ3 O3 => Fewer ρ0 ρ3 ∧ Iv (i + 1) O3, ct := fun ρ3 O3 => Fewer ρ0 ρ3 ∧ Iv (i + 1) O3, bk := E.nx, rt := E.rt }) ∧ (∀ O', Iv ds.length O' → ∀ ρ', Fewer ρ0 ρ' → E.nx ρ' O')) (hs : ∀ x, foldedSetIterable iter X.env x = pure x := by intro _; rfl) : S1 X Z (.For tg iter body [] pos) ρ O E :=
  s1_for (hs := hs) hp hc (IX.mono h fun ds Gd O1 ⟨Iv, h1, h2, h3, h4⟩ => ⟨fun i ρ' O' => Fewer ρ0 ρ' ∧ Iv i O', ⟨f, h1⟩, fun i ρ' O' z => h2 i O' z.2, fun i d ρ' O' hd z => GX.fewer (h3 i d O' hd z.2) z.1, fun ρ' O' z => h4 O' z.2 ρ' z.1⟩)
theorem rangeD_at {lo : Int} {n i : Nat} {d : D} (h : (rangeD lo n)[i]? = some d) : i < n ∧ d = .int (lo + (i : Nat)) := by
  unfold rangeD at h
  rw [List.getElem?_map] at h
  obtain ⟨j, hj, rfl⟩ := Option.map_eq_some_iff.mp h
  obtain ⟨h1, h2⟩ := List.getElem?_eq_some_iff.mp hj
  rw [List.length_range] at h1
  rw [List.getElem_range] at h2
  subst h2
  exact ⟨h1, rfl⟩
theorem rangeD_len (lo : Int) (n : Nat) : (rangeD lo n).length = n := by unfold rangeD; rw [List.length_map, List.length_range]
end
end PD
namespace K76
open PySem PySem.Spec L2 PD
open PyProof.Rows hiding St
/-! clashes by places -/
theorem mem_getD {offs : List (List Op)} {i : Nat} {a : Op} (h : a ∈ offs.getD i []) : i < offs.length ∧ offs.getD i [] ∈ offs := by
  rw [List.getD_eq_getElem?_getD] at h ⊢
  by_cases z : i < offs.length
  · rw [List.getElem?_eq_getElem z]
    exact ⟨z, List.getElem_mem z⟩
  · rw [List.getElem?_eq_none (by omega)] at h
    cases h
theorem pairs_at : ∀ (offs : List (List Op)) (a b : Op), (a, b) ∈ pairs offs ↔ ∃ i j, i < j ∧ a ∈ offs.getD i [] ∧ b ∈ offs.getD j []
  | [], a, b => ⟨nofun, fun ⟨i, j, h, h1, h2⟩ => by rw [List.getD_eq_getElem?_getD, List.getElem?_nil] at h1; cases h1⟩
  | f :: fs, a, b => by
    have e : pairs (f :: fs) = (fs.flatMap fun l => f.flatMap fun one => l.map fun other => (one, other)) ++ pairs fs := rfl
    rw [e, List.mem_append]
    constructor
    · rintro (h | h)
      · obtain ⟨l, hl, h⟩ := List.mem_flatMap.mp h
        obtain ⟨one, ho, h⟩ := List.mem_flatMap.mp h
        obtain ⟨other, ht, h⟩ := List.mem_map.mp h
        cases h
        obtain ⟨j, hj, ej⟩ := List.mem_iff_getElem.mp hl
        refine ⟨0, j + 1, by omega, ho, ?_⟩
        rw [List.getD_eq_getElem?_getD, List.getElem?_cons_succ, List.getElem?_eq_getElem hj, ej]
        exact ht
      · obtain ⟨i, j, h1, h2, h3⟩ := (pairs_at fs a b).mp h
        refine ⟨i + 1, j + 1, by omega, ?_, ?_⟩
        · rw [List.getD_eq_getElem?_getD, List.getElem?_cons_succ, ← List.getD_eq_getElem?_getD]; exact h2
        · rw [List.getD_eq_getElem?_getD, List.getElem?_cons_succ, ← List.getD_eq_getElem?_getD]; exact h3
    · rintro ⟨i, j, h1, h2, h3⟩
      cases j with
      | zero => omega
      | succ j =>
        rw [List.getD_eq_getElem?_getD, List.getElem?_cons_succ, ← List.getD_eq_getElem?_getD] at h3
        cases i with
        | zero =>
          have h2 : a ∈ f := h2
          exact .inl (List.mem_flatMap.mpr ⟨_, (mem_getD h3).2, List.mem_flatMap.mpr ⟨a, h2, List.mem_map.mpr ⟨b, h3, rfl⟩⟩⟩)
        | succ i =>
          rw [List.getD_eq_getElem?_getD, List.getElem?_cons_succ, ← List.getD_eq_getElem?_getD] at h2
          exact .inr ((pairs_at fs a b).mpr ⟨i, j, by omega, h2, h3⟩)
theorem clash_yes {s : Sto} {i j : Nat} {a b : Op} (h : i < j) (ha : a ∈ s.offs.getD i []) (hb : b ∈ s.offs.getD j []) (hc : clash s.size a b = true) : haveClash s = true :=
  List.any_eq_true.mpr ⟨(a, b), (pairs_at _ _ _).mpr ⟨i, j, h, ha, hb⟩, hc⟩
theorem clash_no {s : Sto} (h : ∀ i j, i < j → ∀ a ∈ s.offs.getD i [], ∀ b ∈ s.offs.getD j [], clash s.size a b = false) : haveClash s = false := by
  cases e : haveClash s with
  | false => rfl
  | true =>
    obtain ⟨⟨a, b⟩, h1, h2⟩ := List.any_eq_true.mp e
    obtain ⟨i, j, h3, h4, h5⟩ := (pairs_at _ _ _).mp h1
    rw [h i j h3 a h4 b h5] at h2
    cases h2
/-! lots of states as keys -/
def insN (l : List Nat) (j : Nat) : List Nat := if j ∈ l then l else l ++ [j]
theorem dput_T (l : List Nat) (j : Nat) : dput (l.map kvT) (.inl (j : Int)) (.bl true) = (insN l j).map kvT := by
  have hk : ∀ l : List Nat, (l.map kvT).map (·.1) = l.map fun x : Nat => (Sum.inl (x : Int) : Key) := fun l => by rw [List.map_map]; rfl
  unfold insN
  by_cases h : j ∈ l
  · rw [if_pos h]
    unfold dput
    rw [if_pos]
    · rw [List.map_map]
      refine List.map_congr_left fun x hx => ?_
      show (if (kvT x).1 = (Sum.inl (j : Int) : Key) then ((kvT x).1, D.bl true) else kvT x) = kvT x
      by_cases e : (kvT x).1 = (Sum.inl (j : Int) : Key)
      · rw [if_pos e]; rfl
      · rw [if_neg e]
    · rw [List.any_eq_true]
      exact ⟨kvT j, List.mem_map.mpr ⟨j, h, rfl⟩, decide_eq_true rfl⟩
  · rw [if_neg h, dput_new, List.map_append]
    · rfl
    · rw [hk]
      intro hm
      obtain ⟨x, hx, e⟩ := List.mem_map.mp hm
      have : (x : Int) = (j : Int) := Sum.inl.inj e
      have : x = j := by omega
      exact h (this ▸ hx)
theorem insN_pre (l : List Nat) (j : Nat) : l <+: insN l j := by
  unfold insN
  split
  · exact List.prefix_rfl
  · exact List.prefix_append _ _
theorem insN_mem {l : List Nat} {j : Nat} : j ∈ insN l j := by
  unfold insN
  split
  · assumption
  · exact List.mem_append_right _ (by simp)
theorem full_of {n : Nat} {l : List Nat} (h1 : l.Nodup) (h2 : ∀ x ∈ l, x < n) (h3 : n ≤ l.length) {x : Nat} (hx : x < n) : x ∈ l := by
  by_cases z : x ∈ l
  · exact z
  · have := nd_lt (n := n) (l := x :: l) (List.nodup_cons.mpr ⟨z, h1⟩) (fun y hy => by
      rcases List.mem_cons.mp hy with e | h
      · omega
      · exact h2 y h)
    rw [List.length_cons] at this
    omega
theorem len_ge : ∀ (n : Nat) (l : List Nat), l.Nodup → (∀ x, x < n → x ∈ l) → n ≤ l.length
  | 0, _, _, _ => Nat.zero_le _
  | n + 1, l, h1, h2 => by
    have hm := h2 n (by omega)
    have h3 := len_ge n (l.erase n) (h1.erase n) fun x hx => (List.mem_erase_of_ne (by omega)).mpr (h2 x (by omega))
    rw [List.length_erase_of_mem hm] at h3
    have := List.length_pos_of_mem hm
    omega
/-- states from which a base is reached -/
structure BkL (n : Nat) (os : List Op) (b : Nat) (l : List Nat) : Prop where
  nd : l.Nodup
  lt : ∀ x ∈ l, x < n
  rc : ∀ x ∈ l, Rch os x b
  st : b ∈ l
theorem BkL.ins {n : Nat} {os : List Op} {b : Nat} {l : List Nat} (h : BkL n os b l) {o : Op} (ho : o ∈ os) {s : Nat} (hs : s < n) (he : o.E s ∈ l) : BkL n os b (insN l s) := by
  unfold insN
  split
  · exact h
  · rename_i hn
    refine ⟨?_, ?_, ?_, List.mem_append_left _ h.st⟩
    · rw [List.nodup_append]
      refine ⟨h.nd, by simp, fun x hx y hy e => ?_⟩
      have : y = s := by simpa using hy
      exact hn (by rw [← this, ← e]; exact hx)
    · intro x hx
      rcases List.mem_append.mp hx with h1 | h1
      · exact h.lt x h1
      · have : x = s := by simpa using h1
        omega
    · intro x hx
      rcases List.mem_append.mp hx with h1 | h1
      · exact h.rc x h1
      · have : x = s := by simpa using h1
        rw [this]
        exact (Rch.go .here ho).trans (h.rc _ he)
def Clo (n : Nat) (os : List Op) (l : List Nat) : Prop := ∀ o ∈ os, ∀ s, s < n → o.E s ∈ l → s ∈ l
theorem clo_all {n : Nat} {os : List Op} {b : Nat} {l : List Nat} (hok : ∀ o ∈ os, o.Ok n) (h : BkL n os b l) (c : Clo n os l) {x : Nat} (hx : x < n) (r : Rch os x b) : x ∈ l := by
  have key : ∀ y, Rch os x y → y ∈ l → x ∈ l := fun y r => by
    induction r with
    | here => exact id
    | go r ho ih => exact fun hy => ih (c _ ho _ (r.lt hok hx) hy)
  exact key b r h.st
noncomputable def dueD (s : Sto) : D := if haveClash s = true then .str "seen" else if revB s = true then .non else .str "oneway"
section
variable {P : Program} {w : World} {K : PySem.W.Frag} {mg : Str → Option Value} {base : Heap}
def P_law_due : DP := fun ds O R _ => ∃ s : Sto, ds = [.lst (dOffs s.offs), dI s.size] ∧ s.Ok ∧ R (dueD s) O
theorem at_int {l : List Nat} {s x : Nat} (h : l[s]? = some x) : atI (l.map dI) (s : Int) = some (dI x) := PD.atI_nat (by rw [List.getElem?_map, h]; rfl)
theorem ok_law_due (F : Df K mg "_law_due" (top 69) [] []) (B : Bare mg) (I : Ok P w K mg base 1 "_law_reach" (top 68) [] [] ["_law_offices", "_law_numbers", "_law_base"] P_law_reach) : Ok P w K mg base 2 "_law_due" (top 69) [] [] ["_law_offices", "_law_size"] P_law_due := by
  have S : FnScope ["_law_offices", "_law_size", "_law_low", "_law_high", "_law_first", "_law_ends", "_law_answers", "_law_second", "_law_goals", "_law_told_here", "_law_state", "_law_one", "_law_two", "_law_every", "_law_back", "_law_turn", "_law_many", "_law_office", "_law_name"] ["_law_offices", "_law_size"] (defScope (top 69)) := ⟨rfl, rfl, rfl, by decide +kernel, rfl, by decide +kernel, by decide +kernel⟩
  refine fn_mkD F S (fun ds O R Xr ⟨s, h, _⟩ => (by rw [h]; rfl)) fun f cdv A outer s H E hr Z ds O R Xr ⟨t, h1, ht, h4⟩ tk => ?_
  subst h1
  have hn1 := ht.n1
  have hn2 := ht.n2
  have ho2 := ht.o2
  have hlo : (dOffs t.offs).length = t.offs.length := List.length_map ..
  have hopk : ∀ {i : Nat} {a : Op}, a ∈ t.offs.getD i [] → a.Ok t.size := fun h => ht.op _ (mem_getD h).2 _ h
  refine sx_cut (fun ρ' O' => Fewer [some (.lst (dOffs t.offs)), some (dI t.size), none, none, none, none, none, none, none, none, none, none, none, none, none, none, none, none, none] ρ' ∧ O = O' ∧ haveClash t = false) ?_ ?_
  · refine s1_forF [some (.lst (dOffs t.offs)), some (dI t.size), none, none, none, none, none, none, none, none, none, none, none, none, none, none, none, none, none] (passes_of rfl) rfl (by repeat (first | exact Fewer.refl _ | exact Fewer.nil | refine Fewer.cons ?_ | refine Fewer.skip ?_)) (ix_range1 (B _ (by decide)) (ex_len B (ex_var (i := 0) rfl ⟨_, .inl .fr, _, rfl, by omega, by omega, ?_⟩)))
    refine ⟨fun i O' => O = O' ∧ ∀ i' j, i' < i → i' < j → ∀ a ∈ t.offs.getD i' [], ∀ b ∈ t.offs.getD j [], clash t.size a b = false, ⟨rfl, nofun⟩, fun _ _ _ => trivial, ?_, ?_⟩
    · rintro i d O' hi ⟨rfl, hcl⟩
      obtain ⟨him, rfl⟩ := range_at hi
      rw [Int.toNat_natCast, hlo] at him
      refine gx_name (i := 2) ?_ S.nd
      refine sx_one (s1_forF [some (.lst (dOffs t.offs)), some (dI t.size), some (dI i), none, none, none, none, none, none, none, none, none, none, none, none, none, none, none, none] (passes_of rfl) rfl (by repeat (first | exact Fewer.refl _ | exact Fewer.nil | refine Fewer.cons ?_ | refine Fewer.skip ?_)) (ix_range2 (B _ (by decide)) (ex_add (ex_var (i := 2) rfl (ex_int ⟨(i : Int), 1, rfl, rfl, ex_len B (ex_var (i := 0) rfl ⟨_, .inl .fr, _, _, rfl, rfl, by omega, by omega, by omega, by omega, ?_⟩)⟩)))))
      refine ⟨fun j O' => O = O' ∧ ∀ j', i < j' → j' < i + 1 + j → ∀ a ∈ t.offs.getD i [], ∀ b ∈ t.offs.getD j' [], clash t.size a b = false, ⟨rfl, fun j' h1 h2 => by omega⟩, fun _ _ _ => trivial, ?_, ?_⟩
      · rintro j d O' hj ⟨rfl, hcl2⟩
        obtain ⟨hjm, rfl⟩ := rangeD_at hj
        rw [hlo] at hjm
        have ej : D.int ((i : Int) + 1 + (j : Nat)) = dI (i + 1 + j) := congrArg D.int (by omega)
        have hjl : i + 1 + j < t.offs.length := by omega
        rw [ej]
        generalize hjj : i + 1 + j = jj at hjl
        refine gx_name (i := 3) ?_ S.nd
        refine sx_one (s1_forF [some (.lst (dOffs t.offs)), some (dI t.size), some (dI i), some (dI jj), none, none, none, none, none, none, none, none, none, none, none, none, none, none, none] (passes_of rfl) rfl (by repeat (first | exact Fewer.refl _ | exact Fewer.nil | refine Fewer.cons ?_ | refine Fewer.skip ?_)) (ix_tup (ex_idx (ex_var (i := 0) rfl (ex_var (i := 2) rfl ⟨_, (i : Int), _, .inl .fr, rfl, off_at2 him, _, rfl, ?_⟩)))))
        refine ⟨fun k O' => O = O' ∧ ∀ k' a, k' < k → (t.offs.getD i [])[k']? = some a → ∀ b ∈ t.offs.getD jj [], clash t.size a b = false, ⟨rfl, nofun⟩, fun _ _ _ => trivial, ?_, ?_⟩
        · rintro k d O' hk ⟨rfl, hcl3⟩
          obtain ⟨a, ha, rfl⟩ := Option.map_eq_some_iff.mp (by rw [List.getElem?_map] at hk; exact hk)
          have ham := List.mem_of_getElem? ha
          have hao := hopk ham
          refine gx_tup rfl (gxs_cons (gx_name (i := 4) (gxs_cons (gx_name (i := 5) (gxs_cons (gx_name (i := 6) (gxs_nil ?_) S.nd)) S.nd)) S.nd))
          refine sx_one (s1_forF [some (.lst (dOffs t.offs)), some (dI t.size), some (dI i), some (dI jj), some (.str a.name), some (.tup (a.ends.map dI)), some (.tup (a.ans.map D.int)), none, none, none, none, none, none, none, none, none, none, none, none] (passes_of rfl) rfl (by repeat (first | exact Fewer.refl _ | exact Fewer.nil | refine Fewer.cons ?_ | refine Fewer.skip ?_)) (ix_tup (ex_idx (ex_var (i := 0) rfl (ex_var (i := 3) rfl ⟨_, (jj : Int), _, .inl .fr, rfl, off_at2 hjl, _, rfl, ?_⟩)))))
          refine ⟨fun l O' => O = O' ∧ ∀ l' b, l' < l → (t.offs.getD jj [])[l']? = some b → clash t.size a b = false, ⟨rfl, nofun⟩, fun _ _ _ => trivial, ?_, ?_⟩
          · rintro l d O' hl ⟨rfl, hcl4⟩
            obtain ⟨b, hb, rfl⟩ := Option.map_eq_some_iff.mp (by rw [List.getElem?_map] at hl; exact hl)
            have hbm := List.mem_of_getElem? hb
            have hbo := hopk hbm
            refine gx_tup rfl (gxs_cons (gx_name (i := 7) (gxs_cons (gx_name (i := 8) (gxs_cons (gx_name (i := 9) (gxs_nil ?_) S.nd)) S.nd)) S.nd))
            refine sx_one (s1_forF [some (.lst (dOffs t.offs)), some (dI t.size), some (dI i), some (dI jj), some (.str a.name), some (.tup (a.ends.map dI)), some (.tup (a.ans.map D.int)), some (.str b.name), some (.tup (b.ends.map dI)), some (.tup (b.ans.map D.int)), none, none, none, none, none, none, none, none, none] (passes_of rfl) rfl (by repeat (first | exact Fewer.refl _ | exact Fewer.nil | refine Fewer.cons ?_ | refine Fewer.skip ?_)) (ix_range1 (B _ (by decide)) (ex_var (i := 1) rfl ⟨_, rfl, by omega, by omega, ?_⟩)))
            rw [Int.toNat_natCast]
            refine ⟨fun m O' => O = O' ∧ ∀ s, s < m → (endsClash a b s || ansClash a b s) = false, ⟨rfl, nofun⟩, fun _ _ _ => trivial, ?_, ?_⟩
            · rintro m d O' hm ⟨rfl, hcl5⟩
              obtain ⟨hmn, rfl⟩ := range_at hm
              have hA := hao.lt hmn
              have hB := hbo.lt hmn
              refine gx_name (i := 10) ?_ S.nd
              refine sx_cons (s1_par2 (i := 11) (j := 12) rfl S.nd (by decide) (ea_cons (ex_idx (ex_var (i := 5) rfl (ex_var (i := 10) rfl ⟨_, (m : Int), _, .inr (.inl rfl), rfl, at_ends hao hmn, ea_cons (ex_idx (ex_var (i := 8) rfl (ex_var (i := 10) rfl ⟨_, (m : Int), _, .inr (.inl rfl), rfl, at_ends hbo hmn, ea_nil ⟨_, _, rfl, ?_⟩⟩)))⟩)))))
              have yes : (endsClash a b m || ansClash a b m) = true → haveClash t = true := fun h => clash_yes (by omega) ham hbm (List.any_eq_true.mpr ⟨m, List.mem_range.mpr hmn, h⟩)
              have fin : haveClash t = true → R (.str "seen") O := fun h => by
                have e : dueD t = .str "seen" := if_pos h
                rw [← e]
                exact h4
              have c1 : (!decide ((b.E (a.E m) : Int) = (a.E (b.E m) : Int))) = endsClash a b m := by
                rw [bne_int]
                unfold endsClash
                exact bne_comm
              have c2 : (!decide (a.A (b.E m) = a.A m)) = toldOther a b m := bne_i _ _
              have c3 : (!decide (b.A (a.E m) = b.A m)) = toldOther b a m := bne_i _ _
              refine sx_one (s1_if (et_or (et_neI (ex_idx (ex_var (i := 8) rfl (ex_var (i := 11) rfl ⟨_, (a.E m : Int), _, .inr (.inl rfl), rfl, at_ends hbo hA, ex_idx (ex_var (i := 5) rfl (ex_var (i := 12) rfl ⟨_, (b.E m : Int), _, .inr (.inl rfl), rfl, at_ends hao hB, _, _, rfl, rfl, ?_⟩))⟩))))))
              refine ⟨fun h1' => have h1 := c1.symm.trans h1'; ⟨fun _ => sx_one (s1_ret (ex_str (fin (yes (by rw [h1]; rfl))))), nofun⟩, fun h1' => have h1 := c1.symm.trans h1'; ew_or (et_neI (ex_idx (ex_var (i := 6) rfl (ex_var (i := 12) rfl ⟨_, (b.E m : Int), _, .inr (.inl rfl), rfl, at_ans hao hB, ex_idx (ex_var (i := 6) rfl (ex_var (i := 10) rfl ⟨_, (m : Int), _, .inr (.inl rfl), rfl, at_ans hao hmn, _, _, rfl, rfl, ?_⟩))⟩))))⟩
              refine ⟨fun h2' => have h2 := c2.symm.trans h2'; ⟨fun _ => sx_one (s1_ret (ex_str (fin (yes (by unfold ansClash; rw [h1, h2]; rfl))))), nofun⟩, fun h2' => have h2 := c2.symm.trans h2'; ew_or1 (et_neI (ex_idx (ex_var (i := 9) rfl (ex_var (i := 11) rfl ⟨_, (a.E m : Int), _, .inr (.inl rfl), rfl, at_ans hbo hA, ex_idx (ex_var (i := 9) rfl (ex_var (i := 10) rfl ⟨_, (m : Int), _, .inr (.inl rfl), rfl, at_ans hbo hmn, _, _, rfl, rfl, ?_⟩))⟩))))⟩
              refine ⟨fun h3' => have h3 := c3.symm.trans h3'; sx_one (s1_ret (ex_str (fin (yes (by unfold ansClash; rw [h1, h2, h3]; rfl))))), fun h3' => have h3 := c3.symm.trans h3'; sx_nil ⟨(by repeat (first | exact Fewer.refl _ | exact Fewer.nil | refine Fewer.cons ?_ | refine Fewer.skip ?_)), rfl, fun s hs => ?_⟩⟩
              by_cases e : s = m
              · subst e
                unfold ansClash
                rw [h1, h2, h3]
                rfl
              · exact hcl5 s (by omega)
            · rintro O' ⟨rfl, hcl5⟩ ρ' hf
              rw [range_len] at hcl5
              refine ⟨Fewer.trans (by repeat (first | exact Fewer.refl _ | exact Fewer.nil | refine Fewer.cons ?_ | refine Fewer.skip ?_)) hf, rfl, fun l' b' hl' hb' => ?_⟩
              by_cases e : l' = l
              · subst e
                rw [hb] at hb'
                cases hb'
                cases e : clash t.size a b with
                | false => rfl
                | true =>
                  obtain ⟨s, hs, h⟩ := List.any_eq_true.mp e
                  rw [hcl5 s (List.mem_range.mp hs)] at h
                  cases h
              · exact hcl4 l' b' (by omega) hb'
          · rintro O' ⟨rfl, hcl4⟩ ρ' hf
            rw [List.length_map] at hcl4
            refine ⟨Fewer.trans (by repeat (first | exact Fewer.refl _ | exact Fewer.nil | refine Fewer.cons ?_ | refine Fewer.skip ?_)) hf, rfl, fun k' a' hk' ha' b hb => ?_⟩
            by_cases e : k' = k
            · subst e
              rw [ha] at ha'
              cases ha'
              obtain ⟨l', hl', el⟩ := List.mem_iff_getElem.mp hb
              exact hcl4 l' b hl' (by rw [List.getElem?_eq_getElem hl', el])
            · exact hcl3 k' a' (by omega) ha' b hb
        · rintro O' ⟨rfl, hcl3⟩ ρ' hf
          rw [List.length_map] at hcl3
          refine ⟨Fewer.trans (by repeat (first | exact Fewer.refl _ | exact Fewer.nil | refine Fewer.cons ?_ | refine Fewer.skip ?_)) hf, rfl, fun j' h1 h2 a ha b hb => ?_⟩
          by_cases e : j' = jj
          · subst e
            obtain ⟨k', hk', ek⟩ := List.mem_iff_getElem.mp ha
            exact hcl3 k' a hk' (by rw [List.getElem?_eq_getElem hk', ek]) b hb
          · exact hcl2 j' h1 (by omega) a ha b hb
      · rintro O' ⟨rfl, hcl2⟩ ρ' hf
        rw [rangeD_len, hlo] at hcl2
        refine ⟨Fewer.trans (by repeat (first | exact Fewer.refl _ | exact Fewer.nil | refine Fewer.cons ?_ | refine Fewer.skip ?_)) hf, rfl, fun i' j' h1 h2 a ha b hb => ?_⟩
        by_cases e : i' = i
        · subst e
          have := (mem_getD hb).1
          exact hcl2 j' h2 (by omega) a ha b hb
        · exact hcl i' j' (by omega) h2 a ha b hb
    · rintro O' ⟨rfl, hcl⟩ ρ' hf
      rw [rangeD_len, Int.toNat_natCast, hlo] at hcl
      exact ⟨hf, rfl, clash_no fun i j hij a ha b hb => hcl i j (mem_getD ha).1 hij a ha b hb⟩
  · rintro ρ' O' ⟨hf, rfl, hnc⟩
    refine SX.fewer ?_ hf (List.Sublist.refl _)
    have hok : ∀ o ∈ t.ops, o.Ok t.size := fun o ho => ht.op' ho
    refine sx_cons (s1_par2 (i := 13) (j := 14) rfl S.nd (by decide) (ea_cons (ex_listRg rfl (B _ (by decide)) (B _ (by decide)) (ex_len B (ex_var (i := 0) rfl ⟨_, .inl .fr, _, rfl, by omega, by omega, ?_⟩)))))
    rw [Int.toNat_natCast, hlo, range_dI]
    refine ea_cons (ex_disp1 fun pb hm hd => ex_int (ex_bl ⟨.inl 0, rfl, look_hd, ea_nil ⟨_, _, rfl, ?_⟩⟩))
    rw [setO_hd hd]
    let ow : List Nat → Own := fun l => (pb, .dct (l.map kvT)) :: O
    have hset : ∀ l l' : List Nat, setO (ow l) pb (.dct (l'.map kvT)) = ow l' := fun l l' => setO_hd hd
    refine sx_cut (fun ρ' O' => Fewer [some (.lst (dOffs t.offs)), some (dI t.size), none, none, none, none, none, none, none, none, none, none, none, some (.lst ((List.range t.offs.length).map dI)), some (.raw (.ref pb)), none, none, none, none] ρ' ∧ ∃ l, ow l = O' ∧ BkL t.size t.ops 0 l ∧ Clo t.size t.ops l) ?_ ?_
    · refine s1_forF [some (.lst (dOffs t.offs)), some (dI t.size), none, none, none, none, none, none, none, none, none, none, none, some (.lst ((List.range t.offs.length).map dI)), some (.raw (.ref pb)), none, none, none, none] (passes_of rfl) rfl (by repeat (first | exact Fewer.refl _ | exact Fewer.nil | refine Fewer.cons ?_ | refine Fewer.skip ?_)) (ix_range1 (B _ (by decide)) (ex_var (i := 1) rfl ⟨_, rfl, by omega, by omega, ?_⟩))
      rw [Int.toNat_natCast]
      refine ⟨fun i O' => ∃ l, ow l = O' ∧ BkL t.size t.ops 0 l ∧ i + 1 ≤ l.length, ⟨[0], rfl, ⟨by simp, ?_, ?_, by simp⟩, by simp⟩, fun _ _ _ => trivial, ?_, ?_⟩
      · intro x hx
        have : x = 0 := by simpa using hx
        omega
      · intro x hx
        have : x = 0 := by simpa using hx
        rw [this]
        exact .here
      · rintro i d O' hi ⟨l, rfl, hb, hl⟩
        obtain ⟨him, rfl⟩ := range_at hi
        have hll := nd_lt hb.nd hb.lt
        refine gx_name (i := 15) ?_ S.nd
        refine sx_cons (s1_set (i := 16) S.nd (ex_lenC B (ex_var (i := 14) rfl ⟨l.map kvT, .ow look_hd, ?_⟩)))
        rw [List.length_map]
        refine sx_cut (fun ρ' O' => Fewer [some (.lst (dOffs t.offs)), some (dI t.size), none, none, none, none, none, none, none, none, none, none, none, some (.lst ((List.range t.offs.length).map dI)), some (.raw (.ref pb)), some (dI i), some (dI l.length), none, none] ρ' ∧ ∃ l', ow l' = O' ∧ BkL t.size t.ops 0 l' ∧ l <+: l' ∧ (l' = l → Clo t.size t.ops l)) ?_ ?_
        · refine s1_forF [some (.lst (dOffs t.offs)), some (dI t.size), none, none, none, none, none, none, none, none, none, none, none, some (.lst ((List.range t.offs.length).map dI)), some (.raw (.ref pb)), some (dI i), some (dI l.length), none, none] (passes_of rfl) rfl (by repeat (first | exact Fewer.refl _ | exact Fewer.nil | refine Fewer.cons ?_ | refine Fewer.skip ?_)) (ix_lst (ex_var (i := 0) rfl ⟨_, .inl .fr, ?_⟩))
          refine ⟨fun k O' => ∃ l', ow l' = O' ∧ BkL t.size t.ops 0 l' ∧ l <+: l' ∧ (l' = l → ∀ k' f, k' < k → t.offs[k']? = some f → Clo t.size f l), ⟨l, rfl, hb, List.prefix_rfl, fun _ => nofun⟩, fun _ _ _ => .inl .fr, ?_, ?_⟩
          · rintro k d O' hk ⟨l1, rfl, hb1, hp1, hc1⟩
            obtain ⟨fo, hfo, rfl⟩ : ∃ fo, t.offs[k]? = some fo ∧ d = dOff fo := by
              unfold dOffs at hk
              rw [List.getElem?_map] at hk
              obtain ⟨p, a, e⟩ := Option.map_eq_some_iff.mp hk
              exact ⟨p, a, e.symm⟩
            have hfm := List.mem_of_getElem? hfo
            refine gx_name (i := 17) ?_ S.nd
            refine sx_one (s1_forF [some (.lst (dOffs t.offs)), some (dI t.size), none, none, none, none, none, none, none, none, none, none, none, some (.lst ((List.range t.offs.length).map dI)), some (.raw (.ref pb)), some (dI i), some (dI l.length), some (dOff fo), none] (passes_of rfl) rfl (by repeat (first | exact Fewer.refl _ | exact Fewer.nil | refine Fewer.cons ?_ | refine Fewer.skip ?_)) (ix_tup (ex_var (i := 17) rfl ⟨_, rfl, ?_⟩)))
            refine ⟨fun j O' => ∃ l', ow l' = O' ∧ BkL t.size t.ops 0 l' ∧ l1 <+: l' ∧ (l' = l → ∀ j' o, j' < j → fo[j']? = some o → Clo t.size [o] l), ⟨l1, rfl, hb1, List.prefix_rfl, fun _ => nofun⟩, fun _ _ _ => trivial, ?_, ?_⟩
            · rintro j d O' hj ⟨l2, rfl, hb2, hp2, hc2⟩
              obtain ⟨o, ho, rfl⟩ := Option.map_eq_some_iff.mp (by rw [List.getElem?_map] at hj; exact hj)
              have hom : o ∈ t.ops := List.mem_flatten.mpr ⟨fo, hfm, List.mem_of_getElem? ho⟩
              have hoo := hok o hom
              refine gx_tup rfl (gxs_cons (gx_name (i := 18) (gxs_cons (gx_name (i := 5) (gxs_cons (gx_name (i := 6) (gxs_nil ?_) S.nd)) S.nd)) S.nd))
              refine sx_one (s1_forF [some (.lst (dOffs t.offs)), some (dI t.size), none, none, none, some (.tup (o.ends.map dI)), none, none, none, none, none, none, none, some (.lst ((List.range t.offs.length).map dI)), some (.raw (.ref pb)), some (dI i), some (dI l.length), some (dOff fo), none] (passes_of rfl) rfl (by repeat (first | exact Fewer.refl _ | exact Fewer.nil | refine Fewer.cons ?_ | refine Fewer.skip ?_)) (ix_range1 (B _ (by decide)) (ex_var (i := 1) rfl ⟨_, rfl, by omega, by omega, ?_⟩)))
              rw [Int.toNat_natCast]
              refine ⟨fun m O' => ∃ l', ow l' = O' ∧ BkL t.size t.ops 0 l' ∧ l2 <+: l' ∧ (l' = l → ∀ s, s < m → o.E s ∈ l → s ∈ l), ⟨l2, rfl, hb2, List.prefix_rfl, fun _ => nofun⟩, fun _ _ _ => trivial, ?_, ?_⟩
              · rintro m d O' hm ⟨l3, rfl, hb3, hp3, hc3⟩
                obtain ⟨hmn, rfl⟩ := range_at hm
                have hl3 := nd_lt hb3.nd hb3.lt
                have hpre : l <+: l3 := hp1.trans (hp2.trans hp3)
                refine gx_name (i := 10) ?_ S.nd
                refine sx_one (s1_if (et_din (hu_of hr) (ex_idx (ex_var (i := 5) rfl (ex_var (i := 10) rfl ⟨_, (m : Int), _, .inr (.inl rfl), rfl, at_ends hoo hmn, ex_var (i := 14) rfl ⟨l3.map kvT, .inl (o.E m : Int), .ow look_hd, rfl, ?_⟩⟩)))))
                rw [dval_T]
                refine ⟨fun h => ?_, fun h => ?_⟩
                · have hin := of_decide_eq_true h
                  refine sx_one (s1_dput (hu_of hr) (ex_bl (ex_var (i := 14) rfl (ex_var (i := 10) rfl ⟨pb, l3.map kvT, .inl (m : Int), rfl, look_hd, rfl, by rw [List.length_map]; omega, ?_⟩))))
                  rw [dput_T, hset]
                  refine ⟨(by repeat (first | exact Fewer.refl _ | exact Fewer.nil | refine Fewer.cons ?_ | refine Fewer.skip ?_)), insN l3 m, rfl, hb3.ins hom hmn hin, hp3.trans (insN_pre _ _), fun e s hs he => ?_⟩
                  have e3 : l3 = l := by
                    have h1 := insN_pre l3 m
                    rw [e] at h1
                    exact (List.IsPrefix.eq_of_length_le hpre (h1.length_le)).symm
                  by_cases z : s = m
                  · subst z
                    rw [← e]
                    exact insN_mem
                  · exact hc3 e3 s (by omega) he
                · have hout := of_decide_eq_false h
                  refine sx_nil ⟨(by repeat (first | exact Fewer.refl _ | exact Fewer.nil | refine Fewer.cons ?_ | refine Fewer.skip ?_)), l3, rfl, hb3, hp3, fun e s hs he => ?_⟩
                  by_cases z : s = m
                  · subst z
                    rw [e] at hout
                    exact absurd he hout
                  · exact hc3 e s (by omega) he
              · rintro O' ⟨l3, rfl, hb3, hp3, hc3⟩ ρ' hf
                rw [range_len] at hc3
                refine ⟨Fewer.trans (by repeat (first | exact Fewer.refl _ | exact Fewer.nil | refine Fewer.cons ?_ | refine Fewer.skip ?_)) hf, l3, rfl, hb3, hp2.trans hp3, fun e j' o' hj' ho' => ?_⟩
                by_cases z : j' = j
                · subst z
                  rw [ho] at ho'
                  cases ho'
                  intro o1 h1 s hs he
                  have : o1 = o := by simpa using h1
                  subst this
                  exact hc3 e s hs he
                · refine hc2 ?_ j' o' (by omega) ho'
                  have h1 := hp3
                  rw [e] at h1
                  exact (List.IsPrefix.eq_of_length_le (hp1.trans hp2) h1.length_le).symm
            · rintro O' ⟨l2, rfl, hb2, hp2, hc2⟩ ρ' hf
              rw [List.length_map] at hc2
              refine ⟨Fewer.trans (by repeat (first | exact Fewer.refl _ | exact Fewer.nil | refine Fewer.cons ?_ | refine Fewer.skip ?_)) hf, l2, rfl, hb2, hp1.trans hp2, fun e k' f' hk' hf' => ?_⟩
              by_cases z : k' = k
              · subst z
                rw [hfo] at hf'
                cases hf'
                intro o1 h1 s hs he
                obtain ⟨j', hj', ej⟩ := List.mem_iff_getElem.mp h1
                exact hc2 e j' o1 hj' (by rw [List.getElem?_eq_getElem hj', ej]) o1 (by simp) s hs he
              · refine hc1 ?_ k' f' (by omega) hf'
                have h1 := hp2
                rw [e] at h1
                exact (List.IsPrefix.eq_of_length_le hp1 h1.length_le).symm
          · rintro O' ⟨l1, rfl, hb1, hp1, hc1⟩ ρ' hf
            rw [hlo] at hc1
            refine ⟨hf, l1, rfl, hb1, hp1, fun e o1 h1 s hs he => ?_⟩
            obtain ⟨fo, hfm, hof⟩ := List.mem_flatten.mp h1
            obtain ⟨k', hk', ek⟩ := List.mem_iff_getElem.mp hfm
            exact hc1 e k' fo hk' (by rw [List.getElem?_eq_getElem hk', ek]) o1 hof s hs he
        · rintro ρ' O' ⟨hf, l', rfl, hb', hp', hc'⟩
          refine SX.fewer ?_ hf (List.Sublist.refl _)
          refine sx_one (s1_if (et_eqI (ex_lenC B (ex_var (i := 14) rfl ⟨l'.map kvT, .ow look_hd, ex_var (i := 16) rfl ⟨_, _, rfl, rfl, fun h => ?_, fun h => ?_⟩⟩))))
          · have h1 := of_decide_eq_true h
            rw [List.length_map] at h1
            have e : l = l' := List.IsPrefix.eq_of_length hp' (by omega)
            subst e
            exact sx_one (s1_break ⟨(by repeat (first | exact Fewer.refl _ | exact Fewer.nil | refine Fewer.cons ?_ | refine Fewer.skip ?_)), l, rfl, hb', hc' rfl⟩)
          · have h1 := of_decide_eq_false h
            rw [List.length_map] at h1
            have := hp'.length_le
            exact sx_nil ⟨(by repeat (first | exact Fewer.refl _ | exact Fewer.nil | refine Fewer.cons ?_ | refine Fewer.skip ?_)), l', rfl, hb', by omega⟩
      · rintro O' ⟨l, rfl, hb, hl⟩ ρ' hf
        rw [range_len] at hl
        have := nd_lt hb.nd hb.lt
        omega
    · rintro ρ' O' ⟨hf, l, rfl, hb, hc⟩
      refine SX.fewer ?_ hf (List.Sublist.refl _)
      have hll := nd_lt hb.nd hb.lt
      have hbase : opsAt t.offs (List.range t.offs.length) = t.ops := opsOf_all t
      have eno : haveClash t = true → False := fun h => by rw [hnc] at h; cases h
      have fin1 : revB t = true → dueD t = .non := fun h => by unfold dueD; rw [if_neg eno, if_pos h]
      have fin2 : revB t = false → dueD t = .str "oneway" := fun h => by unfold dueD; rw [if_neg eno, if_neg (by rw [h]; exact Bool.false_ne_true)]
      have hfull : revB t = true → l.length = t.size := fun h => by
        have h1 := revB_iff.mp h
        have hsub : ∀ x, x < t.size → x ∈ l := fun x hx => clo_all hok hb hc hx (h1 x 0 hx (by omega))
        have := len_ge t.size l hb.nd hsub
        omega
      refine sx_one (s1_ret (ex_drop (ex_if (et_or (et_lt (ex_lenC B (ex_var (i := 14) rfl ⟨l.map kvT, .ow look_hd, ex_var (i := 1) rfl ⟨_, _, rfl, rfl, fun h => ?_, fun h => ?_⟩⟩)))))))
      · have h1 := of_decide_eq_true h
        rw [List.length_map] at h1
        refine ⟨fun _ => ex_str ⟨O, List.sublist_cons_self _ _, ?_⟩, nofun⟩
        have e : revB t = false := by
          cases e : revB t with
          | false => rfl
          | true => have := hfull e; omega
        rw [← fin2 e]
        exact h4
      · have h1 := of_decide_eq_false h
        rw [List.length_map] at h1
        refine ew_or1 (et_lt (ex_lenC B (ex_fn I (by decide) hr (fun _ _ _ _ _ _ us hl => match us, hl with | [_, _, _], _ => rfl) tkd0 (ea_cons (ex_var (i := 0) rfl (ea_cons (ex_var (i := 13) rfl (ea_cons (ex_int (ea_nil ⟨_, _, t.offs, List.range t.offs.length, 0, t.size, rfl, .inl rfl, .inl rfl, hn2, by omega, ht.op, fun k hk => List.mem_range.mp hk, fun kvs hkvs => ⟨kvs, .fr, ex_var (i := 1) rfl ⟨_, _, rfl, rfl, fun h2 => ?_, fun h2 => ?_⟩⟩⟩))))))))))
        · have h3 := of_decide_eq_true h2
          rw [hkvs, hbase] at h3
          refine ex_str ⟨O, List.sublist_cons_self _ _, ?_⟩
          have e : revB t = false := by
            cases e : revB t with
            | false => rfl
            | true =>
              have := rchN_all.mpr fun j hj => revB_iff.mp e 0 j (by omega) hj
              omega
          rw [← fin2 e]
          exact h4
        · have h3 := of_decide_eq_false h2
          rw [hkvs, hbase] at h3
          refine ex_non ⟨O, List.sublist_cons_self _ _, ?_⟩
          have h5 := rchN_len (n := t.size) (os := t.ops) (i := 0)
          have h6 := rchN_all.mp (show (rchN t.size t.ops 0).length = t.size by omega)
          have e : revB t = true := revB_iff.mpr fun i j hi hj => (hb.rc i (full_of hb.nd hb.lt (by omega) hi)).trans (h6 j hj)
          rw [← fin1 e]
          exact h4
end
end K76

set_option Elab.async false
set_option linter.all false
set_option autoImplicit false
set_option maxRecDepth 100000
set_option maxHeartbeats 600000
/-! k76, part X: the law's lists. -/
namespace PD
open PySem PySem.Spec L2
open PyProof.Rows hiding St
theorem sx_frz {X : Cx} {Z : Zn} {ρ : Slots} {O2 : Own} {E : En} {st : List Stmt} {i : Nat} {p : Addr} {c : OC} (hm : p ∉ Z.M) (h : SX X Z st (ρ.set i (some c.d)) O2 E) : SX X Z st (ρ.set i (some (.raw (.ref p)))) ((p, c) :: O2) E := fun σ B H s => by
  obtain ⟨B', s', e⟩ := s.slotFrz hm
  exact h.from s' e
section
variable {X : Cx} {Z : Zn} {ρ : Slots} {O : Own}
/-- an expression that is the int c -/
def IsI (X : Cx) (Z : Zn) (C : Expr) (ρ : Slots) (c : Int) : Prop := ∀ (O : Own) (R : D → Own → Prop), R (.int c) O → EX X Z C ρ O R
theorem tI {i : Int} {j pos} : IsI X Z (.Constant (.int i) j pos) ρ i := fun _ _ h => ex_int h
theorem tN {i j : Int} {p q k l pos} : IsI X Z (.BinOp (.Constant (.int i) p q) .Sub (.Constant (.int j) k l) pos) ρ (i - j) := fun _ _ h => ex_sub (ex_int (ex_int ⟨i, j, rfl, rfl, h⟩))
theorem ex_t4 {a b c d : Int} {j1 j2 j4 k : Nat} {p1 p2 p4 pos : Pos} {C : Expr} {R : D → Own → Prop} (hC : IsI X Z C ρ c) (h : R (.tup [.int a, .int b, .int c, .int d]) O)
    (hs : starEach [C, .Constant (.int d) j4 p4] X.env = (false, eval C X.env) :: starEach [.Constant (.int d) j4 p4] X.env := by rfl) : EX X Z (.Tuple [.Constant (.int a) j1 p1, .Constant (.int b) j2 p2, C, .Constant (.int d) j4 p4] k pos) ρ O R :=
  ex_tup (ea_cons (ex_int (ea_cons (ex_int (ea_cons (hC _ _ (ea_cons (ex_int (ea_nil ⟨by show 4 ≤ 1000000; decide, h⟩)))) hs)))))
end
end PD
namespace K76
open PySem PySem.Spec L2 PD
open PyProof.Rows hiding St
def tb (rows : List (List Nat)) (i j : Nat) : Nat := (rows.getD i []).getD j 0
theorem TbOk.row {n : Nat} {rows : List (List Nat)} (h : TbOk n rows) {i : Nat} (hi : i < n) : rows[i]? = some (rows.getD i []) ∧ rows.getD i [] ∈ rows := by
  have hl : i < rows.length := by rw [h.l]; exact hi
  rw [List.getD_eq_getElem?_getD, List.getElem?_eq_getElem hl]
  exact ⟨rfl, List.getElem_mem hl⟩
theorem TbOk.cell {n : Nat} {rows : List (List Nat)} (h : TbOk n rows) {i j : Nat} (hi : i < n) (hj : j < n) : (rows.getD i [])[j]? = some (tb rows i j) ∧ tb rows i j < n := by
  obtain ⟨h1, h2⟩ := h.r _ (h.row hi).2
  have hl : j < (rows.getD i []).length := by rw [h1]; exact hj
  unfold tb
  rw [List.getD_eq_getElem?_getD (l := rows.getD i []), List.getElem?_eq_getElem hl]
  exact ⟨rfl, h2 _ (List.getElem_mem hl)⟩
theorem TbOk.at_row {n : Nat} {rows : List (List Nat)} (h : TbOk n rows) {i : Nat} (hi : i < n) : atI (rows.map dRow) (i : Int) = some (dRow (rows.getD i [])) := PD.atI_nat (by rw [List.getElem?_map, (h.row hi).1]; rfl)
theorem TbOk.at_cell {n : Nat} {rows : List (List Nat)} (h : TbOk n rows) {i j : Nat} (hi : i < n) (hj : j < n) : atI ((rows.getD i []).map dI) (j : Int) = some (dI (tb rows i j)) := PD.atI_nat (by rw [List.getElem?_map, (h.cell hi hj).1]; rfl)
theorem TbOk.id0 {n : Nat} {rows : List (List Nat)} (h : TbOk n rows) {j : Nat} (hj : j < n) : tb rows 0 j = j ∧ tb rows j 0 = j :=
  ⟨(h.id 0 _ (h.row (by omega)).1 j _ (h.cell (by omega) hj).1).1 rfl, (h.id j _ (h.row hj).1 0 _ (h.cell hj (by omega)).1).2 rfl⟩
def dLs (q : Nat × List Nat) : D := .lst [dI q.1, .lst (q.2.map dI)]
def LsOk (n : Nat) (ls : List (Nat × List Nat)) : Prop := ∀ q ∈ ls, q.1 < 2 ∧ q.2.length ≤ 3 ∧ ∀ x ∈ q.2, x < n
theorem cut_dI (l : List Nat) (lo hi : Option Int) : ∃ js : List Nat, PD.cutD (l.map dI) lo hi = js.map dI ∧ js.Sublist l := by
  refine ⟨(l.drop (HT.sIx (l.map dI).length 0 lo)).take (HT.sIx (l.map dI).length (l.map dI).length hi - HT.sIx (l.map dI).length 0 lo), ?_, (List.take_sublist _ _).trans (List.drop_sublist _ _)⟩
  unfold PD.cutD
  rw [List.map_take, List.map_drop]
section
variable {P : Program} {w : World} {K : PySem.W.Frag} {mg : Str → Option Value} {base : Heap}
def P_lists : DP := fun ds O R _ => ∃ (p r : Addr) (ns : List Int) (st : Int) (m : Nat) (A U : Own), ds = [.raw (.ref p), dI m] ∧ O = A ++ hpO p r ns st U ∧ NsOk ns ∧ ns.length ≤ 1000 ∧ StOk st ∧ m ≤ 5 ∧
  ∀ (n : Nat) (rows : List (List Nat)) (ls : List (Nat × List Nat)) (ns' : List Int) (st' : Int), 1 ≤ n → n ≤ 8 → TbOk n rows → ls.length = m → LsOk n ls → NsOk ns' → ns'.length ≤ 1000 → StOk st' → R (.tup [.lst (rows.map dRow), .lst (ls.map dLs)]) (A ++ hpO p r ns' st' U)
theorem kinds_of {x : D} (h : x ∈ ([.tup [.int 1, .int 1, .int 1, .int 0], .tup [.int 2, .int 1, .int 1, .int 0], .tup [.int 3, .int 1, .int 1, .int 0], .tup [.int 2, .int 2, .int 1, .int 0], .tup [.int 5, .int 1, .int 1, .int 0], .tup [.int 3, .int 2, .int (0 - 1), .int 0], .tup [.int 4, .int 2, .int (0 - 1), .int 0], .tup [.int 4, .int 2, .int (0 - 1), .int 2], .tup [.int 4, .int 2, .int 1, .int 0], .tup [.int 6, .int 1, .int 1, .int 0]] : List D)) : ∃ (wh k sg ex : Int), x = .tup [.int wh, .int k, .int sg, .int ex] ∧ 1 ≤ wh ∧ wh ≤ 6 ∧ (k = 1 ∨ k = 2) ∧ wh * k ≤ 8 ∧ -10 ≤ sg ∧ sg ≤ 10 := by
  simp only [List.mem_cons, List.not_mem_nil, or_false] at h
  rcases h with h | h | h | h | h | h | h | h | h | h
  all_goals exact ⟨_, _, _, _, h, by decide, by decide, by decide, by decide, by decide, by decide⟩
theorem ok_law_lists (F : Df K mg "_law_lists" (top 74) [] []) (B : Bare mg) (I1 : Ok P w K mg base 1 "_law_draw" (top 64) [] [] ["_law_heap_here", "_law_many"] P_draw) (I2 : Ok P w K mg base 2 "_law_pick" (top 65) [] [] ["_law_heap_here", "_law_some"] P_pick)
    (I3 : Ok P w K mg base 1 "_law_table" (top 72) [] [] ["_law_kind"] P_table) : Ok P w K mg base 3 "_law_lists" (top 74) [] [] ["_law_heap_here", "_law_many"] P_lists := by
  have S : FnScope ["_law_heap_here", "_law_many", "_law_kind", "_law_table_here", "_law_size", "_law_middle", "_law_one", "_law_two", "_law_starts", "_law_found", "_law_office", "_law_every", "_law_enough", "_law_some", "_law_turn"] ["_law_heap_here", "_law_many"] (defScope (top 74)) := ⟨rfl, rfl, rfl, by decide +kernel, rfl, by decide +kernel, by decide +kernel⟩
  refine fn_mkD F S (fun ds O R Xr ⟨p, r, ns, st, m, A, O', h, _⟩ => (by rw [h]; rfl)) fun f cdv A outer s H E hr Z ds O R Xr ⟨p, r, ns, st, m, A0, U, h1, h2, hn, hl, hst, hm, h4⟩ tk => ?_
  subst h1 h2
  refine sx_cons (s1_set (i := 2) S.nd (ex_fn I2 (by decide) hr (fun _ _ _ _ _ _ us hl => match us, hl with | [_, _], _ => rfl) tkd0 (ea_cons (ex_var (i := 0) rfl ?_))))
  refine ea_cons ?_
  refine ex_lst ?_
  refine ea_cons ?_
  refine ex_t4 tI ?_
  refine ea_cons ?_
  refine ex_t4 tI ?_
  refine ea_cons ?_
  refine ex_t4 tI ?_
  refine ea_cons ?_
  refine ex_t4 tI ?_
  refine ea_cons ?_
  refine ex_t4 tI ?_
  refine ea_cons ?_
  refine ex_t4 tN ?_
  refine ea_cons ?_
  refine ex_t4 tN ?_
  refine ea_cons ?_
  refine ex_t4 tN ?_
  refine ea_cons ?_
  refine ex_t4 tI ?_
  refine ea_cons ?_
  refine ex_t4 tI ?_
  refine ea_nil ⟨by show 10 ≤ 1000000; decide, ea_nil ⟨p, r, ns, st, _, [.tup [.int 1, .int 1, .int 1, .int 0], .tup [.int 2, .int 1, .int 1, .int 0], .tup [.int 3, .int 1, .int 1, .int 0], .tup [.int 2, .int 2, .int 1, .int 0], .tup [.int 5, .int 1, .int 1, .int 0], .tup [.int 3, .int 2, .int (0 - 1), .int 0], .tup [.int 4, .int 2, .int (0 - 1), .int 0], .tup [.int 4, .int 2, .int (0 - 1), .int 2], .tup [.int 4, .int 2, .int 1, .int 0], .tup [.int 6, .int 1, .int 1, .int 0]], A0, U, rfl, rfl, hn, hl, hst, fun _ _ => .inl .fr, by decide, by decide, fun x ns1 st1 hx n1 l1 t1 => ?_⟩⟩
  obtain ⟨wh, k, sg, ex, rfl, w1, w2, k1, k2, s1, s2⟩ := kinds_of hx
  have hn0 : 1 ≤ wh * k := by rcases k1 with e | e <;> subst e <;> omega
  refine sx_cons (s1_set (i := 3) S.nd (ex_fn I3 (by decide) hr (fun _ _ _ _ _ _ us hl => match us, hl with | [_], _ => rfl) tkd0 (ea_cons (ex_var (i := 2) rfl (ea_nil ⟨wh, k, sg, ex, rfl, w1, by omega, by omega, by omega, s1, s2, fun rows trows => ?_⟩)))))
  generalize hnn : (wh * k).toNat = n at trows
  have hn8 : 1 ≤ n ∧ n ≤ 8 := by omega
  refine sx_cons (s1_set (i := 4) S.nd (ex_len B (ex_var (i := 3) rfl ⟨rows.map dRow, .inl .fr, ?_⟩)))
  rw [List.length_map, trows.l]
  refine sx_cons (s1_set (i := 5) S.nd (ex_lstO (ea_nil ⟨by decide, fun pm hmM hmO => ?_⟩)))
  refine sx_cut (fun ρ' O' => Fewer [some (.raw (.ref p)), some (dI m), some (.tup [.int wh, .int k, .int sg, .int ex]), some (.lst (rows.map dRow)), some (dI n), some (.raw (.ref pm)), none, none, none, none, none, none, none, none, none] ρ' ∧ ∃ md : List Nat, (pm, .lst (md.map dI)) :: (A0 ++ hpO p r ns1 st1 U) = O' ∧ 1 ≤ md.length ∧ md.length ≤ 8 ∧ ∀ x ∈ md, x < n) ?_ ?_
  · refine s1_forF [some (.raw (.ref p)), some (dI m), some (.tup [.int wh, .int k, .int sg, .int ex]), some (.lst (rows.map dRow)), some (dI n), some (.raw (.ref pm)), none, none, none, none, none, none, none, none, none] (passes_of rfl) rfl (by repeat (first | exact Fewer.refl _ | exact Fewer.nil | refine Fewer.cons ?_ | refine Fewer.skip ?_)) (ix_range1 (B _ (by decide)) (ex_var (i := 4) rfl ⟨_, rfl, by omega, by omega, ?_⟩))
    rw [Int.toNat_natCast]
    refine ⟨fun i O' => ∃ md : List Nat, (pm, .lst (md.map dI)) :: (A0 ++ hpO p r ns1 st1 U) = O' ∧ (0 < i → 1 ≤ md.length) ∧ md.length ≤ i ∧ ∀ x ∈ md, x < n, ⟨[], rfl, nofun, Nat.le_refl _, nofun⟩, fun _ _ _ => trivial, ?_, ?_⟩
    · rintro i d O' hi ⟨md, rfl, hm1, hm2, hm3⟩
      obtain ⟨hin, rfl⟩ := range_at hi
      refine gx_name (i := 6) ?_ S.nd
      let f0 : D → D := fun d => .bl (decide (tb rows i (unI d) = tb rows (unI d) i))
      have key : (rangeD 0 n).map f0 = ((List.range n).map fun j => decide (tb rows i j = tb rows j i)).map D.bl := by
        rw [range_dI, List.map_map, List.map_map]
        refine List.map_congr_left fun j _ => ?_
        show D.bl (decide (tb rows i (unI (dI j)) = tb rows (unI (dI j)) i)) = _
        rw [unI_d]
        rfl
      refine sx_one (s1_if (et_ex (ex_all rfl B (ex_map (j := 7) (own := [("_law_two", 7)]) rfl S.nd (blkOk_by (by kernel_rfl)) rfl (fun _ _ => Or.inl rfl) (.inr fun _ _ => rfl) rfl (ix_range1 (B _ (by decide)) (ex_var (i := 4) rfl ⟨_, rfl, by omega, by omega, fun _ _ _ _ => trivial, f0, by rw [Int.toNat_natCast, range_len]; omega, fun s2 H2 C2 cl2 fp2 q d L cc hm hd hq => ?_, ?_⟩))))))
      · rw [Int.toNat_natCast] at hq
        obtain ⟨hqn, rfl⟩ := range_at hq
        refine ex_eqI (ex_idx (ex_idx (ex_var (i := 3) rfl (ex_var (i := 6) rfl ⟨_, (i : Int), _, .inl .fr, rfl, trows.at_row hin, ex_var (i := 7) rfl ⟨_, (q : Int), _, .inl .fr, rfl, trows.at_cell hin hqn, ex_idx (ex_idx (ex_var (i := 3) rfl (ex_var (i := 7) rfl ⟨_, (q : Int), _, .inl .fr, rfl, trows.at_row hqn, ex_var (i := 6) rfl ⟨_, (i : Int), _, .inl .fr, rfl, trows.at_cell hqn hin, _, _, rfl, rfl, rfl, ?_⟩⟩)))⟩⟩))))
        show D.bl (decide ((tb rows i q : Int) = (tb rows q i : Int))) = D.bl (decide (tb rows i (unI (dI q)) = tb rows (unI (dI q)) i))
        rw [unI_d]
        exact congrArg D.bl (decide_eq_decide.mpr (by omega))
      · rw [Int.toNat_natCast, key]
        refine ⟨_, .fr, _, rfl, fun hb => ?_, fun hb => ?_⟩
        · refine sx_one (s1_expr (ex_append (ex_var (i := 5) rfl ⟨pm, _, rfl, look_hd, ex_var (i := 6) rfl ⟨_, look_hd, by rw [List.length_map]; omega, ?_⟩⟩)))
          rw [setO_hd (by unfold hpO at hmO ⊢; simpa using hmO)]
          refine ⟨(by repeat (first | exact Fewer.refl _ | exact Fewer.nil | refine Fewer.cons ?_ | refine Fewer.skip ?_)), md ++ [i], by rw [List.map_append]; rfl, fun _ => by rw [List.length_append]; exact Nat.le_add_left _ _, by rw [List.length_append]; show md.length + 1 ≤ _; omega, fun x hx => ?_⟩
          rcases List.mem_append.mp hx with h | h
          · exact hm3 x h
          · have : x = i := by simpa using h
            omega
        · refine sx_nil ⟨(by repeat (first | exact Fewer.refl _ | exact Fewer.nil | refine Fewer.cons ?_ | refine Fewer.skip ?_)), md, rfl, fun _ => ?_, by omega, hm3⟩
          by_cases z : i = 0
          · subst z
            have : (List.map (fun j => decide (tb rows 0 j = tb rows j 0)) (List.range n)).all id = true := by
              rw [List.all_eq_true]
              intro b hb
              obtain ⟨j, hj, rfl⟩ := List.mem_map.mp hb
              have := trows.id0 (List.mem_range.mp hj)
              exact decide_eq_true (this.1.trans this.2.symm)
            rw [this] at hb
            cases hb
          · exact hm1 (by omega)
    · rintro O' ⟨md, rfl, hm1, hm2, hm3⟩ ρ' hf
      rw [range_len] at hm1 hm2
      exact ⟨hf, md, rfl, hm1 (by omega), by omega, hm3⟩
  rintro ρ' O' ⟨hf, md, rfl, hmd1, hmd2, hmd3⟩
  refine SX.fewer (ρ' := List.set [some (.raw (.ref p)), some (dI m), some (.tup [.int wh, .int k, .int sg, .int ex]), some (.lst (rows.map dRow)), some (dI n), none, none, none, none, none, none, none, none, none, none] 5 (some (.raw (.ref pm)))) ?_ hf (List.Sublist.refl _)
  refine sx_frz hmM ?_
  let UU : List Int → Int → Own := fun ns st => A0 ++ hpO p r ns st U
  refine sx_cons (s1_set (i := 8) S.nd (EX.mono (R := fun d O1 => (∃ l : List Nat, d = .lst (l.map dI) ∧ 1 ≤ l.length ∧ l.length ≤ 2 ∧ ∀ x ∈ l, x < n) ∧ O1 = UU ns1 st1) (ex_bin op_cat (ex_lst (ea_cons (ex_mod (ex_intC B (ex_int ⟨1, rfl, ex_idx (ex_var (i := 2) rfl (ex_int ⟨_, 0, .int wh, .inr (.inl rfl), rfl, PD.atI_nat (i := 0) rfl, 1, wh, rfl, rfl, by omega, ea_nil ⟨by show 1 ≤ 1000000; decide, ?_⟩⟩))⟩)))))) ?_))
  · have q0 := Int.emod_nonneg 1 (show wh ≠ 0 by omega)
    have q1 := Int.emod_lt_of_pos 1 (show 0 < wh by omega)
    have hwn : wh ≤ wh * k := by rcases k1 with e | e <;> subst e <;> omega
    have e1 : D.int (1 % wh) = dI (1 % wh).toNat := congrArg D.int (by omega)
    refine ex_if (et_eqI (ex_idx (ex_var (i := 2) rfl (ex_int ⟨_, 1, .int k, .inr (.inl rfl), rfl, PD.atI_nat (i := 1) rfl, ex_int ⟨k, 2, rfl, rfl, fun hk => ex_lst (ea_cons (ex_idx (ex_var (i := 2) rfl (ex_int ⟨_, 0, .int wh, .inr (.inl rfl), rfl, PD.atI_nat (i := 0) rfl, ea_nil ⟨by show 1 ≤ 1000000; decide, bd_cat .fr .fr (by show 1 + 1 ≤ 1000000; decide) ⟨⟨[(1 % wh).toNat, wh.toNat], ?_, by show 1 ≤ 2; decide, by show 2 ≤ 2; decide, ?_⟩, rfl⟩⟩⟩)))), fun hk => ex_lst (ea_nil ⟨by decide, bd_cat .fr .fr (by show 1 + 0 ≤ 1000000; decide) ⟨⟨[(1 % wh).toNat], ?_, by show 1 ≤ 1; decide, by show 1 ≤ 2; decide, ?_⟩, rfl⟩⟩)⟩⟩))))
    · show D.lst [D.int (1 % wh), D.int wh] = D.lst [dI (1 % wh).toNat, dI wh.toNat]
      rw [e1, show D.int wh = dI wh.toNat from congrArg D.int (by omega)]
    · have e := of_decide_eq_true hk
      subst e
      intro x hx
      rcases List.mem_cons.mp hx with h | h
      · omega
      · have : x = wh.toNat := by simpa using h
        omega
    · show D.lst [D.int (1 % wh)] = D.lst [dI (1 % wh).toNat]
      rw [e1]
    · intro x hx
      have : x = (1 % wh).toNat := by simpa using hx
      omega
  rintro d O1 ⟨⟨ss, rfl, hs1, hs2, hs3⟩, rfl⟩
  refine sx_cons (s1_set (i := 9) S.nd (ex_lstO (ea_nil ⟨by decide, fun pf hfM hfO => ?_⟩)))
  have hfo : ∀ (ns : List Int) (st : Int), pf ∉ (UU ns st).map (·.1) := fun ns' st' h => hfO (by
    show pf ∈ (A0 ++ hpO p r ns1 st1 U).map (·.1)
    have h : pf ∈ (A0 ++ hpO p r ns' st' U).map (·.1) := h
    unfold hpO at h ⊢
    simpa using h)
  let ow : List (Nat × List Nat) → List Int → Int → Own := fun ls ns st => (pf, .lst (ls.map dLs)) :: UU ns st
  let V0 : Slots := [some (.raw (.ref p)), some (dI m), some (.tup [.int wh, .int k, .int sg, .int ex]), some (.lst (rows.map dRow)), some (dI n), some (.lst (md.map dI)), none, none, some (.lst (ss.map dI)), some (.raw (.ref pf)), none, none, none, none, none]
  refine sx_cut (fun ρ' O' => Fewer V0 ρ' ∧ ∃ (ls : List (Nat × List Nat)) (ns : List Int) (st : Int), ow ls ns st = O' ∧ ls.length = m ∧ LsOk n ls ∧ NsOk ns ∧ ns.length ≤ 1000 ∧ StOk st) ?_ ?_
  · refine s1_forF V0 (passes_of rfl) rfl (by repeat (first | exact Fewer.refl _ | exact Fewer.nil | refine Fewer.cons ?_ | refine Fewer.skip ?_)) (ix_range1 (B _ (by decide)) (ex_var (i := 1) rfl ⟨_, rfl, by omega, by omega, ?_⟩))
    rw [Int.toNat_natCast]
    refine ⟨fun i O' => ∃ (ls : List (Nat × List Nat)) (ns : List Int) (st : Int), ow ls ns st = O' ∧ ls.length = i ∧ LsOk n ls ∧ NsOk ns ∧ ns.length ≤ 1000 ∧ StOk st, ⟨[], ns1, st1, rfl, rfl, nofun, n1, l1, t1⟩, fun _ _ _ => trivial, ?_, ?_⟩
    · rintro i d O' hi ⟨ls, ns2, st2, rfl, hll, hlo, n2, l2, t2⟩
      obtain ⟨him, rfl⟩ := range_at hi
      refine gx_name (i := 10) ?_ S.nd
      refine sx_cons (s1_set (i := 11) S.nd (EX.mono (R := fun d O1 => (∃ l : List Nat, d = .lst (l.map dI) ∧ 1 ≤ l.length ∧ l.length ≤ 8 ∧ ∀ x ∈ l, x < n) ∧ O1 = ow ls ns2 st2) (ex_if (et_lt (ex_var (i := 10) rfl (ex_int ⟨(i : Int), 2, rfl, rfl, fun _ => ex_listRg rfl (B _ (by decide)) (B _ (by decide)) (ex_var (i := 4) rfl ⟨(n : Int), rfl, by omega, by omega, ⟨⟨List.range n, by rw [Int.toNat_natCast, range_dI], by rw [List.length_range]; omega, by rw [List.length_range]; omega, fun x hx => List.mem_range.mp hx⟩, rfl⟩⟩), fun _ => ex_var (i := 5) rfl ⟨⟨md, rfl, hmd1, hmd2, hmd3⟩, rfl⟩⟩)))) ?_))
      rintro d O1 ⟨⟨ev, rfl, he1, he2, he3⟩, rfl⟩
      refine sx_cons (s1_set (i := 12) S.nd (ex_fn I2 (by decide) hr (fun _ _ _ _ _ _ us hl => match us, hl with | [_, _], _ => rfl) tkd0 (ea_cons (ex_var (i := 0) rfl (ea_cons (ex_lst (ea_cons (ex_var (i := 8) rfl (ea_cons (ex_var (i := 8) rfl (ea_cons (ex_var (i := 8) rfl (ea_cons (ex_slice sl_list (ex_var (i := 8) rfl (show EX _ _ _ _ _ _ from ex_int ⟨1, rfl, sl_L (.inl .fr) (ea_cons (ex_lst (ea_nil ⟨by decide, ea_nil ⟨by show 5 ≤ 1000000; decide, ea_nil ⟨p, r, ns2, st2, _, [.lst (ss.map dI), .lst (ss.map dI), .lst (ss.map dI), .lst (PD.cutD (ss.map dI) none (some 1)), .lst []], (pf, .lst (ls.map dLs)) :: A0, U, rfl, rfl, n2, l2, t2, fun _ _ => .inl .fr, by show 1 ≤ 5; decide, by show 5 ≤ 1000000; decide, fun x ns3 st3 hx n3 l3 t3 => ?_⟩⟩⟩)))⟩))))))))))))))))
      obtain ⟨en, rfl, hen1, hen2⟩ : ∃ en : List Nat, x = .lst (en.map dI) ∧ en.length ≤ 2 ∧ ∀ y ∈ en, y < n := by
        simp only [List.mem_cons, List.not_mem_nil, or_false] at hx
        rcases hx with h | h | h | h | h
        · exact ⟨ss, h, hs2, hs3⟩
        · exact ⟨ss, h, hs2, hs3⟩
        · exact ⟨ss, h, hs2, hs3⟩
        · obtain ⟨js, e1, e2⟩ := cut_dI ss none (some 1)
          rw [e1] at h
          exact ⟨js, h, Nat.le_trans e2.length_le hs2, fun y hy => hs3 y (e2.subset hy)⟩
        · exact ⟨[], h, by decide, nofun⟩
      let V1 : List Nat → Slots := fun en => [some (.raw (.ref p)), some (dI m), some (.tup [.int wh, .int k, .int sg, .int ex]), some (.lst (rows.map dRow)), some (dI n), some (.lst (md.map dI)), none, none, some (.lst (ss.map dI)), some (.raw (.ref pf)), some (dI i), some (.lst (ev.map dI)), some (.lst (en.map dI)), none, none]
      refine sx_cut (fun ρ' O' => ∃ (en : List Nat) (ns : List Int) (st : Int), ρ' = V1 en ∧ O' = ow ls ns st ∧ en.length ≤ 2 ∧ (∀ y ∈ en, y < n) ∧ NsOk ns ∧ ns.length ≤ 1000 ∧ StOk st) ?_ ?_
      · refine s1_if (et_and (et_ge (ex_var (i := 10) rfl (ex_int ⟨(i : Int), 2, rfl, rfl, fun _ => ⟨nofun, fun _ => sx_nil ⟨en, ns3, st3, rfl, rfl, hen1, hen2, n3, l3, t3⟩⟩, fun _ => ew_and1 (et_lt (ex_len B (ex_var (i := 5) rfl ⟨_, .inl .fr, ex_var (i := 4) rfl ⟨_, _, rfl, rfl, fun _ => ?_, fun _ => sx_nil ⟨en, ns3, st3, rfl, rfl, hen1, hen2, n3, l3, t3⟩⟩⟩)))⟩))))
        refine sx_one (s1_set (i := 12) S.nd (ex_fn I2 (by decide) hr (fun _ _ _ _ _ _ us hl => match us, hl with | [_, _], _ => rfl) tkd0 (ea_cons (ex_var (i := 0) rfl (ea_cons (ex_lst (ea_cons (ex_lst (ea_nil ⟨by decide, ea_cons (ex_lst (ea_cons (ex_fn I2 (by decide) hr (fun _ _ _ _ _ _ us hl => match us, hl with | [_, _], _ => rfl) tkd0 (ea_cons (ex_var (i := 0) rfl (ea_cons (ex_var (i := 5) rfl (ea_nil ⟨p, r, ns3, st3, _, md.map dI, (pf, .lst (ls.map dLs)) :: A0, U, rfl, rfl, n3, l3, t3, fun _ _ => .inl .fr, by rw [List.length_map]; exact hmd1, by rw [List.length_map]; omega, fun y ns4 st4 hy n4 l4 t4 => ?_⟩))))))))⟩)))))))))
        obtain ⟨z, hz, rfl⟩ := List.mem_map.mp hy
        have hzn := hmd3 z hz
        refine ea_nil ⟨by show 1 ≤ 1000000; decide, ea_nil ⟨by show 2 ≤ 1000000; decide, ea_nil ⟨p, r, ns4, st4, _, [.lst [], .lst [dI z]], (pf, .lst (ls.map dLs)) :: A0, U, rfl, rfl, n4, l4, t4, fun _ _ => .inl .fr, by show 1 ≤ 2; decide, by show 2 ≤ 1000000; decide, fun x ns5 st5 hx n5 l5 t5 => ?_⟩⟩⟩
        obtain ⟨en, rfl, hen1, hen2⟩ : ∃ en : List Nat, x = .lst (en.map dI) ∧ en.length ≤ 2 ∧ ∀ y ∈ en, y < n := by
          simp only [List.mem_cons, List.not_mem_nil, or_false] at hx
          rcases hx with h | h
          · exact ⟨[], h, by decide, nofun⟩
          · exact ⟨[z], h, by show 1 ≤ 2; decide, fun y hy => by rw [List.mem_singleton.mp hy]; exact hzn⟩
        exact ⟨en, ns5, st5, rfl, rfl, hen1, hen2, n5, l5, t5⟩
      · rintro ρ' O' ⟨en, ns4, st4, rfl, rfl, hen1, hen2, n4, l4, t4⟩
        refine sx_cons (s1_setLcG (i := 13) (own := [("_law_turn", 14)]) rfl S.nd (blkOk_by (by kernel_rfl)) (ix_range1 (B _ (by decide)) (ex_fn I1 (by decide) hr (fun _ _ _ _ _ _ us hl => match us, hl with | [_, _], _ => rfl) tkd0 (ea_cons (ex_var (i := 0) rfl (ea_cons (ex_int (ea_nil ⟨p, r, ns4, st4, 2, (pf, .lst (ls.map dLs)) :: A0, U, rfl, rfl, n4, l4, t4, by decide, by decide, fun j ns5 st5 j1 j2 n5 l5 t5 => ⟨j, rfl, by omega, by omega, fun L hLM hLO => ?_⟩⟩))))))))
        have hLo : ∀ ns st, L ∉ (ow ls ns st).map (·.1) := fun ns' st' h => hLO (by
          have h : L ∈ ((pf, OC.lst (ls.map dLs)) :: (A0 ++ hpO p r ns' st' U)).map (·.1) := h
          show L ∈ ((pf, OC.lst (ls.map dLs)) :: (A0 ++ hpO p r ns5 st5 U)).map (·.1)
          unfold hpO at h ⊢
          simpa using h)
        refine ⟨fun i O' => ∃ (acc : List Nat) (ns : List Int) (st : Int), (L, .lst (acc.map dI)) :: ow ls ns st = O' ∧ acc.length = i ∧ (∀ y ∈ acc, y < n) ∧ NsOk ns ∧ ns.length ≤ 1000 ∧ StOk st, ⟨[], ns5, st5, rfl, rfl, nofun, n5, l5, t5⟩, fun _ _ _ => trivial, ?_, ?_⟩
        · rintro s6 H6 C6 cl6 fp6 q d O' hq ⟨acc, ns6, st6, rfl, ha1, ha2, n6, l6, t6⟩
          obtain ⟨hqj, rfl⟩ := range_at hq
          refine gx_name (i := 14) ⟨Fewer.set rfl (Fewer.refl _), ?_⟩ S.nd
          refine ex_fn I2 (by decide) hr (fun _ _ _ _ _ _ us hl => match us, hl with | [_, _], _ => rfl) tkd0 (ea_cons (ex_var (i := 0) rfl (ea_cons (ex_var (i := 11) rfl (ea_nil ⟨p, r, ns6, st6, _, ev.map dI, (L, .lst (acc.map dI)) :: (pf, .lst (ls.map dLs)) :: A0, U, rfl, rfl, n6, l6, t6, fun _ _ => .inl .fr, by rw [List.length_map]; exact he1, by rw [List.length_map]; omega, fun y ns7 st7 hy n7 l7 t7 => ?_⟩)))))
          obtain ⟨z, hz, rfl⟩ := List.mem_map.mp hy
          refine ⟨_, look_hd, by rw [List.length_map]; omega, acc ++ [z], ns7, st7, ?_, by rw [List.length_append, ha1]; rfl, fun y hy => ?_, n7, l7, t7⟩
          · rw [List.map_append]
            exact (setO_hd (hLo ns7 st7)).symm
          · rcases List.mem_append.mp hy with h | h
            · exact ha2 y h
            · have : y = z := by simpa using h
              rw [this]
              exact he3 z hz
        · rintro O' ⟨acc, ns6, st6, rfl, ha1, ha2, n6, l6, t6⟩
          rw [range_len] at ha1
          have hLp : pf ≠ L := fun e => hLo ns6 st6 (by rw [← e]; exact List.mem_cons_self)
          have hi2 := Int.emod_nonneg (i : Int) (show (2 : Int) ≠ 0 by decide)
          have hi3 := Int.emod_lt_of_pos (i : Int) (show (0 : Int) < 2 by decide)
          refine sx_one (s1_dropO (s1_expr (ex_append (ex_var (i := 9) rfl ⟨pf, _, rfl, look_2 hLp, ex_lst (ea_cons (ex_mod (ex_intC B (ex_var (i := 10) rfl ⟨(i : Int), rfl, ex_int ⟨(i : Int), 2, rfl, rfl, by decide, ea_cons (ex_bin op_cat (ex_var (i := 12) rfl (ex_var (i := 13) rfl (bd_cat .fr (.ow look_hd) ?_ (ea_nil ⟨by show 2 ≤ 1000000; decide, _, look_2 hLp, ?_, ?_⟩)))))⟩⟩))))⟩))))
          · rw [List.length_map, List.length_map]; omega
          · rw [List.length_map]; omega
          · have ho : ∀ c, setO ((L, OC.lst (acc.map dI)) :: (pf, OC.lst (ls.map dLs)) :: UU ns6 st6) pf c = (L, OC.lst (acc.map dI)) :: (pf, c) :: UU ns6 st6 := fun c => setO_2 hLp (hfo ns6 st6)
            have e1 : ls.map dLs ++ [D.lst [D.int ((i : Int) % 2), D.lst (en.map dI ++ acc.map dI)]] = (ls ++ [(((i : Int) % 2).toNat, en ++ acc)]).map dLs := by
              rw [List.map_append]
              show _ = ls.map dLs ++ [D.lst [dI ((i : Int) % 2).toNat, D.lst ((en ++ acc).map dI)]]
              rw [List.map_append, show dI ((i : Int) % 2).toNat = D.int ((i : Int) % 2) from congrArg D.int (by omega)]
            refine ⟨(pf, OC.lst (ls.map dLs ++ [D.lst [D.int ((i : Int) % 2), D.lst (en.map dI ++ acc.map dI)]])) :: UU ns6 st6, ?_, (by repeat (first | exact Fewer.refl _ | exact Fewer.nil | refine Fewer.cons ?_ | refine Fewer.skip ?_)), ls ++ [(((i : Int) % 2).toNat, en ++ acc)], ns6, st6, by rw [e1], by rw [List.length_append, hll]; rfl, fun q hq => ?_, n6, l6, t6⟩
            · exact (ho _).symm ▸ List.sublist_cons_self _ _
            · rcases List.mem_append.mp hq with h | h
              · exact hlo q h
              · have : q = (((i : Int) % 2).toNat, en ++ acc) := by simpa using h
                subst this
                refine ⟨by show ((i : Int) % 2).toNat < 2; omega, by show (en ++ acc).length ≤ 3; rw [List.length_append]; omega, fun x hx => ?_⟩
                rcases List.mem_append.mp hx with h | h
                · exact hen2 x h
                · exact ha2 x h
    · rintro O' ⟨ls, ns2, st2, rfl, hll, hlo, n2, l2, t2⟩ ρ' hf
      rw [range_len] at hll
      exact ⟨hf, ls, ns2, st2, rfl, hll, hlo, n2, l2, t2⟩
  rintro ρ' O' ⟨hf, ls, ns2, st2, rfl, hll, hlo, n2, l2, t2⟩
  refine SX.fewer ?_ hf (List.Sublist.refl _)
  exact sx_one (s1_ret (ex_tup (ea_cons (ex_var (i := 3) rfl (ea_cons (ex_frz (ex_var (i := 9) rfl ⟨pf, .lst (ls.map dLs), _, rfl, hfM, .refl _, ea_nil ⟨by show 2 ≤ 1000000; decide, h4 n rows ls ns2 st2 hn8.1 hn8.2 trows hll hlo n2 l2 t2⟩⟩)))))))
end
end K76

set_option Elab.async false
set_option linter.all false
set_option autoImplicit false
set_option maxRecDepth 100000
set_option maxHeartbeats 600000
/-! k76, part Y: the law's stores. -/
namespace K76
open PySem PySem.Spec L2 PD
open PyProof.Rows hiding St
theorem look_tl {p q : Addr} {a c : OC} {O : Own} (h : p ≠ q) (e : O.lookup p = some c) : ((q, a) :: O : Own).lookup p = some c := by
  rw [List.lookup_cons]
  have : (p == q) = false := by simpa using h
  rw [this]
  exact e
theorem setO_tl {p q : Addr} {a c : OC} {O : Own} (h : p ≠ q) : setO ((q, a) :: O) p c = (q, a) :: setO O p c := by
  unfold setO
  rw [List.map_cons, if_neg (fun e => h e.symm)]
/-- names that are left, operations that are made -/
structure Gd (n : Nat) (l : List Str) (os : List Op) : Prop where
  nd : (l ++ os.map Op.name).Nodup
  nm : ∀ z ∈ l, NameOk z
  ok : ∀ o ∈ os, o.Ok n ∧ ∀ a ∈ o.ans, a ≤ 2
  le : l.length + os.length ≤ 26
theorem Gd.perm {n : Nat} {l : List Str} {os os' : List Op} (h : Gd n l os) (p : os'.Perm os) : Gd n l os' :=
  ⟨(List.Perm.append_left l (p.map Op.name)).nodup_iff.mpr h.nd, h.nm, fun o ho => h.ok o (p.mem_iff.mp ho), by rw [p.length_eq]; exact h.le⟩
theorem Gd.sub {n : Nat} {l : List Str} {os os' : List Op} (h : Gd n l os) (p : os'.Sublist os) : Gd n l os' :=
  ⟨h.nd.sublist (List.Sublist.append (List.Sublist.refl _) (p.map _)), h.nm, fun o ho => h.ok o (p.subset ho), Nat.le_trans (Nat.add_le_add_left p.length_le _) h.le⟩
theorem flat_set {rw : List Op} : ∀ (fo : List (List Op)) (k : Nat), k < fo.length → ∃ os : List Op, (fo.set k rw).flatten.Perm (rw ++ os) ∧ os.Sublist fo.flatten
  | [], k, h => by cases h
  | f :: fo, 0, _ => ⟨fo.flatten, by rw [List.set_cons_zero, List.flatten_cons], by rw [List.flatten_cons]; exact List.sublist_append_right _ _⟩
  | f :: fo, k + 1, h => by
    obtain ⟨os, h1, h2⟩ := flat_set (rw := rw) fo k (by simpa using h)
    refine ⟨f ++ os, ?_, by rw [List.flatten_cons]; exact List.Sublist.append (List.Sublist.refl _) h2⟩
    rw [List.set_cons_succ, List.flatten_cons]
    refine (List.Perm.append_left f h1).trans ?_
    rw [← List.append_assoc, ← List.append_assoc]
    exact List.Perm.append_right os List.perm_append_comm
theorem Gd.set {n : Nat} {l : List Str} {rw : List Op} {fo : List (List Op)} (h : Gd n l (rw ++ fo.flatten)) {k : Nat} (hk : k < fo.length) : Gd n l (fo.set k rw).flatten := by
  obtain ⟨os, h1, h2⟩ := flat_set (rw := rw) fo k hk
  exact (h.sub (List.Sublist.append (List.Sublist.refl _) h2)).perm h1
theorem Gd.pop {n : Nat} {l : List Str} {z : Str} {os : List Op} (h : Gd n (l ++ [z]) os) {o : Op} (e : o.name = z) (ho : o.Ok n) (ha : ∀ a ∈ o.ans, a ≤ 2) : Gd n l (o :: os) := by
  refine ⟨?_, fun y hy => h.nm y (List.mem_append_left _ hy), fun q hq => ?_, ?_⟩
  · have := h.nd
    rwa [List.append_assoc, ← e] at this
  · rcases List.mem_cons.mp hq with h1 | h1
    · rw [h1]; exact ⟨ho, ha⟩
    · exact h.ok q h1
  · have := h.le
    rw [List.length_append] at this
    have e1 : ([z] : List Str).length = 1 := rfl
    rw [List.length_cons]
    omega
def Low (s : Sto) : Prop := ∀ o ∈ s.ops, ∀ a ∈ o.ans, a ≤ 2
theorem Gd.sto {n : Nat} {l : List Str} {fo : List (List Op)} (h : Gd n l fo.flatten) (h1 : 1 ≤ n) (h2 : n ≤ 8) (h3 : 2 ≤ fo.length) (h4 : fo.length ≤ 5) : (⟨n, fo⟩ : Sto).Ok ∧ Low ⟨n, fo⟩ := by
  refine ⟨⟨h1, by show n ≤ 200; omega, h3, by show fo.length ≤ 8; omega, ?_, fun f hf o ho => (h.ok o (List.mem_flatten.mpr ⟨f, hf, ho⟩)).1, ?_⟩, fun o ho => (h.ok o ho).2⟩
  · have := h.le
    show fo.flatten.length ≤ 40
    omega
  · exact (List.nodup_append.mp h.nd).2.1
def rem (ls : List (Nat × List Nat)) (i : Nat) : Nat := ((ls.drop i).map fun q => q.2.length).sum
theorem rem_at {ls : List (Nat × List Nat)} {i : Nat} {q : Nat × List Nat} (h : ls[i]? = some q) : rem ls i = q.2.length + rem ls (i + 1) := by
  obtain ⟨hi, e⟩ := List.getElem?_eq_some_iff.mp h
  unfold rem
  rw [List.drop_eq_getElem_cons hi, e, List.map_cons, List.sum_cons]
theorem rem_le {n : Nat} {ls : List (Nat × List Nat)} (h : LsOk n ls) : rem ls 0 ≤ 3 * ls.length := by
  unfold rem
  rw [List.drop_zero]
  induction ls with
  | nil => exact Nat.zero_le _
  | cons q ls ih =>
    rw [List.map_cons, List.sum_cons, List.length_cons]
    have h1 := ih fun x hx => h x (List.mem_cons_of_mem _ hx)
    have h2 := (h q List.mem_cons_self).2.1
    omega
theorem sum_dI : ∀ ls : List (Nat × List Nat), (ls.map fun q => (q.2.length : Int)).sum = ((ls.map fun q => q.2.length).sum : Nat)
  | [] => rfl
  | q :: ls => by
    rw [List.map_cons, List.sum_cons, List.map_cons, List.sum_cons, sum_dI ls]
    omega
def lenD : D → D
  | .lst [_, .lst l] => .int l.length
  | _ => .non
theorem perm_at {l : List Nat} {n i : Nat} (h : l.Perm (List.range n)) (hi : i < n) : ∃ x, l[i]? = some x ∧ x < n := by
  have hl : i < l.length := by rw [h.length_eq, List.length_range]; exact hi
  exact ⟨l[i], List.getElem?_eq_getElem hl, List.mem_range.mp (h.mem_iff.mp (List.getElem_mem hl))⟩
theorem rep_flat (n : Nat) (d : D) : (List.replicate n [d]).flatten = List.replicate n d := by
  induction n with
  | zero => rfl
  | succ n ih => rw [List.replicate_succ, List.flatten_cons, ih, List.replicate_succ]; rfl
theorem ixN_nat {n k : Nat} (h : k < n) : ixN n (k : Int) = some k := by
  unfold ixN
  simp
  omega
section
variable {P : Program} {w : World} {K : PySem.W.Frag} {mg : Str → Option Value} {base : Heap}
def P_stores : DP := fun ds O R _ => ∃ (p r : Addr) (ns : List Int) (st : Int) (m : Nat) (A U : Own), ds = [.raw (.ref p), dI m] ∧ O = A ++ hpO p r ns st U ∧ NsOk ns ∧ ns.length ≤ 1000 ∧ StOk st ∧ 2 ≤ m ∧ m ≤ 5 ∧
  ∀ (s : Sto) (ns' : List Int) (st' : Int), s.Ok → Low s → s.offs.length = m → s.size ≤ 8 → NsOk ns' → ns'.length ≤ 1000 → StOk st' → R (.tup [.lst (dOffs s.offs), dI s.size]) (A ++ hpO p r ns' st' U)
theorem ok_law_stores (F : Df K mg "_law_stores" (top 75) [] []) (B : Bare mg) (I1 : Ok P w K mg base 1 "_law_draw" (top 64) [] [] ["_law_heap_here", "_law_many"] P_draw) (I2 : Ok P w K mg base 2 "_law_order" (top 66) [] [] ["_law_heap_here", "_law_many"] P_order)
    (I3 : Ok P w K mg base 3 "_law_names" (top 67) [] [] ["_law_heap_here", "_law_many"] P_names) (I4 : Ok P w K mg base 3 "_law_lists" (top 74) [] [] ["_law_heap_here", "_law_many"] P_lists) : Ok P w K mg base 4 "_law_stores" (top 75) [] [] ["_law_heap_here", "_law_many"] P_stores := by
  have S : FnScope ["_law_heap_here", "_law_many", "_law_table_here", "_law_lists_here", "_law_size", "_law_order_here", "_law_names_here", "_law_turned", "_law_found", "_law_office", "_law_side", "_law_shares", "_law_row", "_law_share", "_law_ends", "_law_one"] ["_law_heap_here", "_law_many"] (defScope (top 75)) := ⟨rfl, rfl, rfl, by decide +kernel, rfl, by decide +kernel, by decide +kernel⟩
  refine fn_mkD F S (fun ds O R Xr ⟨p, r, ns, st, m, A, O', h, _⟩ => (by rw [h]; rfl)) fun f cdv A outer s H E hr Z ds O R Xr ⟨p, r, ns, st, m, A0, U, h1, h2, hn, hl, hst, hm2, hm5, h4⟩ tk => ?_
  subst h1 h2
  let UU : List Int → Int → Own := fun ns st => A0 ++ hpO p r ns st U
  have offU : ∀ {q : Addr} {ns ns' : List Int} {st st' : Int}, q ∉ (UU ns st).map (·.1) → q ∉ (UU ns' st').map (·.1) := fun h h' => h (by
    have h' : _ ∈ (A0 ++ hpO p r _ _ U).map (·.1) := h'
    show _ ∈ (A0 ++ hpO p r _ _ U).map (·.1)
    unfold hpO at h' ⊢
    simpa using h')
  refine sx_cons (s1_asg (ex_fn I4 (by decide) hr (fun _ _ _ _ _ _ us hl => match us, hl with | [_, _], _ => rfl) tkd0 (ea_cons (ex_var (i := 0) rfl (ea_cons (ex_var (i := 1) rfl (ea_nil ⟨p, r, ns, st, m, A0, U, rfl, rfl, hn, hl, hst, hm5, fun n rows ls ns1 st1 hn1 hn8 trows hll hlo n1 l1 t1 => gx_tup rfl (gxs_cons (gx_name (i := 2) (gxs_cons (gx_name (i := 3) (gxs_nil ?_) S.nd)) S.nd))⟩)))))))
  refine sx_cons (s1_set (i := 4) S.nd (ex_len B (ex_var (i := 2) rfl ⟨rows.map dRow, .inl .fr, ?_⟩)))
  rw [List.length_map, trows.l]
  have hrem := rem_le hlo
  have esum : (ls.map fun q => (q.2.length : Int)).sum = (rem ls 0 : Nat) := by unfold rem; rw [List.drop_zero]; exact sum_dI ls
  refine sx_cons (s1_par2 (i := 5) (j := 6) rfl S.nd (by decide) (ea_cons (ex_fn I2 (by decide) hr (fun _ _ _ _ _ _ us hl => match us, hl with | [_, _], _ => rfl) tkd0 (ea_cons (ex_var (i := 0) rfl (ea_cons (ex_var (i := 4) rfl (ea_nil ⟨p, r, ns1, st1, n, A0, U, rfl, rfl, n1, l1, t1, by omega, fun od ns2 st2 hod n2 l2 t2 => ?_⟩))))))))
  refine ea_cons (ex_fn I3 (by decide) hr (fun _ _ _ _ _ _ us hl => match us, hl with | [_, _], _ => rfl) tkd0 (ea_cons (ex_var (i := 0) rfl (ea_cons (ex_sum rfl B (ex_map (j := 15) (own := [("_law_one", 15)]) rfl S.nd (blkOk_by (by kernel_rfl)) rfl (fun _ _ => Or.inl rfl) (.inr fun _ _ => rfl) rfl (ix_lst (ex_var (i := 3) rfl ⟨ls.map dLs, .inl .fr, fun _ _ _ _ => .inl .fr, lenD, ?_, fun s2 H2 C2 cl2 fp2 k d L cc hm hd hk => ?_, ?_⟩))))))))
  · rw [List.length_map]; omega
  · obtain ⟨q, hq, rfl⟩ := Option.map_eq_some_iff.mp (by rw [List.getElem?_map] at hk; exact hk)
    exact ex_len B (ex_idx (ex_var (i := 15) rfl (ex_int ⟨_, 1, .lst (q.2.map dI), .inl .fr, rfl, PD.atI_nat (i := 1) rfl, ⟨_, .inl .fr, rfl, rfl⟩⟩)))
  have e2 : (ls.map dLs).map lenD = (ls.map fun q => (q.2.length : Int)).map D.int := by
    rw [List.map_map, List.map_map]
    refine List.map_congr_left fun q _ => ?_
    show D.int ((q.2.map dI).length : Nat) = D.int (q.2.length : Nat)
    rw [List.length_map]
  rw [e2]
  refine ⟨_, .fr, ?_⟩
  rw [esum]
  refine ea_nil ⟨p, r, ns2, st2, rem ls 0, A0, U, rfl, rfl, n2, l2, t2, by omega, fun po l ns3 st3 hpo hlen hnm n3 l3 t3 => ea_nil ⟨_, _, rfl, ?_⟩⟩
  have hpo' : ∀ ns st, po ∉ (UU ns st).map (·.1) := fun ns st => offU (ns := ns3) (st := st3) hpo
  refine sx_cons (s1_par2 (i := 7) (j := 8) rfl S.nd (by decide) (ea_cons (ex_fn I2 (by decide) hr (fun _ _ _ _ _ _ us hl => match us, hl with | [_, _], _ => rfl) tkd0 (ea_cons (ex_var (i := 0) rfl (ea_cons (ex_var (i := 1) rfl (ea_nil ⟨p, r, ns3, st3, m, (po, .lst (l.map .str)) :: A0, U, rfl, rfl, n3, l3, t3, by omega, fun tn ns4 st4 htn n4 l4 t4 => ?_⟩))))))))
  refine ea_cons (ex_lcO (own := [("_law_office", 9)]) rfl S.nd (blkOk_by (by kernel_rfl)) (ix_range1 (B _ (by decide)) (ex_var (i := 1) rfl ⟨_, rfl, by omega, by omega, fun _ _ _ _ => trivial, fun _ => [.tup []], ?_, fun s2 H2 C2 cl2 fp2 k d L cc hm hd hk => gx_name (i := 9) ⟨rfl, Fewer.set rfl (Fewer.refl _), ts_nil ⟨rfl, fun _ L2 c2 hm2 hd2 => ex_tup (ea_nil ⟨by decide, rfl, rfl⟩), nofun⟩⟩ S.nd, fun pfd hfM hfO => ?_⟩)))
  · rw [sing_len, range_len]; omega
  refine ea_nil ⟨_, _, rfl, ?_⟩
  have e3 : ((rangeD 0 (m : Int).toNat).flatMap fun _ => [D.tup []]) = dOffs (List.replicate m []) := by
    rw [Int.toNat_natCast]
    unfold rangeD dOffs
    rw [List.flatMap_map, List.map_replicate]
    have : ∀ k : List Nat, (k.flatMap fun _ => [D.tup []]) = List.replicate k.length (dOff []) := fun k => by
      induction k with
      | nil => rfl
      | cons a k ih => rw [List.flatMap_cons, ih]; rfl
    rw [this, List.length_range]
  rw [e3]
  have hfp : po ≠ pfd := fun e => hfO (by rw [← e]; exact List.mem_cons_self)
  have hfo' : ∀ ns st, pfd ∉ (UU ns st).map (·.1) := fun ns st => offU (ns := ns4) (st := st4) fun h => hfO (by
    show pfd ∈ ((po, OC.lst (l.map .str)) :: UU ns4 st4).map (·.1)
    rw [List.map_cons]
    exact List.mem_cons_of_mem _ h)
  let ow : List (List Op) → List Str → List Int → Int → Own := fun fo l ns st => (pfd, .lst (dOffs fo)) :: (po, .lst (l.map .str)) :: UU ns st
  let V0 : Slots := [some (.raw (.ref p)), some (dI m), some (.lst (rows.map dRow)), some (.lst (ls.map dLs)), some (dI n), some (.lst (od.map dI)), some (.raw (.ref po)), some (.lst (tn.map dI)), some (.raw (.ref pfd)), none, none, none, none, none, none, none]
  refine sx_cut (fun ρ' O' => Fewer V0 ρ' ∧ ∃ (fo : List (List Op)) (l : List Str) (ns : List Int) (st : Int), ow fo l ns st = O' ∧ fo.length = m ∧ Gd n l fo.flatten ∧ NsOk ns ∧ ns.length ≤ 1000 ∧ StOk st) ?_ ?_
  · refine s1_forF V0 (passes_of rfl) rfl (by repeat (first | exact Fewer.refl _ | exact Fewer.nil | refine Fewer.cons ?_ | refine Fewer.skip ?_)) (ix_range1 (B _ (by decide)) (ex_var (i := 1) rfl ⟨_, rfl, by omega, by omega, ?_⟩))
    rw [Int.toNat_natCast]
    refine ⟨fun i O' => ∃ (fo : List (List Op)) (l : List Str) (ns : List Int) (st : Int), ow fo l ns st = O' ∧ fo.length = m ∧ Gd n l fo.flatten ∧ l.length = rem ls i ∧ NsOk ns ∧ ns.length ≤ 1000 ∧ StOk st, ⟨List.replicate m [], l, ns4, st4, rfl, List.length_replicate .., ⟨?_, hnm.ok, ?_, ?_⟩, hlen, n4, l4, t4⟩, fun _ _ _ => trivial, ?_, ?_⟩
    · rw [List.flatten_replicate_nil, List.map_nil, List.append_nil]
      exact hnm.nd
    · rw [List.flatten_replicate_nil]
      exact nofun
    · rw [List.flatten_replicate_nil, hlen, List.length_nil]
      omega
    · rintro i d O' hi ⟨fo, l5, ns5, st5, rfl, hfl, hgd, hl5, n5, l5', t5⟩
      obtain ⟨him, rfl⟩ := range_at hi
      obtain ⟨q, hq⟩ : ∃ q, ls[i]? = some q := ⟨_, List.getElem?_eq_getElem (by omega)⟩
      obtain ⟨hq1, hq2, hq3⟩ := hlo q (List.mem_of_getElem? hq)
      obtain ⟨kt, hkt, hktm⟩ := perm_at htn him
      refine gx_name (i := 9) ?_ S.nd
      refine sx_cons (s1_asg (ex_idx (ex_var (i := 3) rfl (ex_var (i := 9) rfl ⟨_, (i : Int), dLs q, .inl .fr, rfl, PD.atI_nat (by rw [List.getElem?_map, hq]; rfl), gx_unl (ds := [dI q.1, .lst (q.2.map dI)]) rfl .fr (gxs_cons (gx_name (i := 10) (gxs_cons (gx_name (i := 11) (gxs_nil ?_) S.nd)) S.nd))⟩))))
      refine sx_cons (s1_set (i := 12) S.nd (ex_lstO (ea_nil ⟨by decide, fun pr hrM hrO => ?_⟩)))
      have hr1 : pfd ≠ pr := fun e => hrO (by rw [← e]; exact List.mem_cons_self)
      have hr2 : po ≠ pr := fun e => hrO (by rw [← e]; exact List.mem_cons_of_mem _ List.mem_cons_self)
      have hr3 : ∀ ns st, pr ∉ (UU ns st).map (·.1) := fun ns st => offU (ns := ns5) (st := st5) fun h => hrO (List.mem_cons_of_mem _ (List.mem_cons_of_mem _ h))
      let V1 : Slots := [some (.raw (.ref p)), some (dI m), some (.lst (rows.map dRow)), some (.lst (ls.map dLs)), some (dI n), some (.lst (od.map dI)), some (.raw (.ref po)), some (.lst (tn.map dI)), some (.raw (.ref pfd)), some (dI i), some (dI q.1), some (.lst (q.2.map dI)), some (.raw (.ref pr)), none, none, none]
      refine sx_cut (fun ρ' O' => Fewer V1 ρ' ∧ ∃ (rw : List Op) (l : List Str) (ns : List Int) (st : Int), (pr, .lst (rw.map dOp)) :: ow fo l ns st = O' ∧ Gd n l (rw ++ fo.flatten) ∧ l.length = rem ls (i + 1) ∧ NsOk ns ∧ ns.length ≤ 1000 ∧ StOk st) ?_ ?_
      · refine s1_forF V1 (passes_of rfl) rfl (by repeat (first | exact Fewer.refl _ | exact Fewer.nil | refine Fewer.cons ?_ | refine Fewer.skip ?_)) (ix_lst (ex_var (i := 11) rfl ⟨_, .inl .fr, ?_⟩))
        refine ⟨fun j O' => ∃ (rw : List Op) (l : List Str) (ns : List Int) (st : Int), (pr, .lst (rw.map dOp)) :: ow fo l ns st = O' ∧ Gd n l (rw ++ fo.flatten) ∧ l.length + j = q.2.length + rem ls (i + 1) ∧ NsOk ns ∧ ns.length ≤ 1000 ∧ StOk st, ⟨[], l5, ns5, st5, rfl, hgd, by rw [hl5]; exact rem_at hq, n5, l5', t5⟩, fun _ _ _ => .inl .fr, ?_, ?_⟩
        · rintro j d O' hj ⟨rw', l6, ns6, st6, rfl, hg6, hl6, n6, l6', t6⟩
          obtain ⟨sh, hsh, rfl⟩ := Option.map_eq_some_iff.mp (by rw [List.getElem?_map] at hj; exact hj)
          have hjl := (List.getElem?_eq_some_iff.mp hsh).1
          have hshn := hq3 sh (List.mem_of_getElem? hsh)
          refine gx_name (i := 13) ?_ S.nd
          refine sx_cons (s1_set (i := 14) S.nd (ex_bin op_rep (ex_lst (ea_cons (ex_int (ea_nil ⟨by show 1 ≤ 1000000; decide, ex_var (i := 4) rfl (bd_repO .fr ⟨by omega, by omega⟩ (by show 1 * _ ≤ 1000000; omega) fun pe heM heO => ?_)⟩))))))
          have he1 : pr ≠ pe := fun e => heO (by rw [← e]; exact List.mem_cons_self)
          have he2 : pfd ≠ pe := fun e => heO (by rw [← e]; exact List.mem_cons_of_mem _ List.mem_cons_self)
          have he3 : po ≠ pe := fun e => heO (by rw [← e]; exact List.mem_cons_of_mem _ (List.mem_cons_of_mem _ List.mem_cons_self))
          have e4 : (List.replicate ((n : Int).toNat) [D.int 0]).flatten = (List.replicate n 0).map dI := by
            rw [Int.toNat_natCast, rep_flat, List.map_replicate]
            rfl
          rw [e4]
          let V2 : Slots := [some (.raw (.ref p)), some (dI m), some (.lst (rows.map dRow)), some (.lst (ls.map dLs)), some (dI n), some (.lst (od.map dI)), some (.raw (.ref po)), some (.lst (tn.map dI)), some (.raw (.ref pfd)), some (dI i), some (dI q.1), some (.lst (q.2.map dI)), some (.raw (.ref pr)), some (dI sh), some (.raw (.ref pe)), none]
          let Op1 : Own := (pr, .lst (rw'.map dOp)) :: ow fo l6 ns6 st6
          refine sx_cut (fun ρ' O' => Fewer V2 ρ' ∧ ∃ es : List Nat, (pe, .lst (es.map dI)) :: Op1 = O' ∧ es.length = n ∧ ∀ x ∈ es, x < n) ?_ ?_
          · refine s1_forF V2 (passes_of rfl) rfl (by repeat (first | exact Fewer.refl _ | exact Fewer.nil | refine Fewer.cons ?_ | refine Fewer.skip ?_)) (ix_range1 (B _ (by decide)) (ex_var (i := 4) rfl ⟨_, rfl, by omega, by omega, ?_⟩))
            rw [Int.toNat_natCast]
            refine ⟨fun t O' => ∃ es : List Nat, (pe, .lst (es.map dI)) :: Op1 = O' ∧ es.length = n ∧ ∀ x ∈ es, x < n, ⟨List.replicate n 0, rfl, List.length_replicate .., fun x hx => by rw [List.eq_of_mem_replicate hx]; omega⟩, fun _ _ _ => trivial, ?_, ?_⟩
            · rintro t d O' ht ⟨es, rfl, hes1, hes2⟩
              obtain ⟨htn', rfl⟩ := range_at ht
              obtain ⟨ox, hox, hoxn⟩ := perm_at hod htn'
              refine gx_name (i := 15) ?_ S.nd
              refine sx_one (s1_asg (EX.mono (R := fun d O1 => (∃ v : Nat, d = dI v ∧ v < n) ∧ O1 = (pe, .lst (es.map dI)) :: Op1) (ex_idx (ex_var (i := 5) rfl (EX.mono (R := fun d O1 => (∃ v : Nat, d = dI v ∧ v < n) ∧ O1 = (pe, .lst (es.map dI)) :: Op1) (ex_if (et_eqI (ex_var (i := 10) rfl (ex_int ⟨(q.1 : Int), 0, rfl, rfl, fun _ => ?_, fun _ => ?_⟩)))) ?_))) ?_))
              · exact ex_idx (ex_idx (ex_var (i := 2) rfl (ex_var (i := 13) rfl ⟨_, (sh : Int), _, .inl .fr, rfl, trows.at_row hshn, ex_var (i := 15) rfl ⟨_, (t : Int), _, .inl .fr, rfl, trows.at_cell hshn htn', ⟨_, rfl, (trows.cell hshn htn').2⟩, rfl⟩⟩)))
              · exact ex_idx (ex_idx (ex_var (i := 2) rfl (ex_var (i := 15) rfl ⟨_, (t : Int), _, .inl .fr, rfl, trows.at_row htn', ex_var (i := 13) rfl ⟨_, (sh : Int), _, .inl .fr, rfl, trows.at_cell htn' hshn, ⟨_, rfl, (trows.cell htn' hshn).2⟩, rfl⟩⟩)))
              · rintro d O1 ⟨⟨v, rfl, hv⟩, rfl⟩
                obtain ⟨ov, hov, hovn⟩ := perm_at hod hv
                exact ⟨_, (v : Int), dI ov, .inl .fr, rfl, PD.atI_nat (by rw [List.getElem?_map, hov]; rfl), ⟨ov, rfl, hovn⟩, rfl⟩
              · rintro d O1 ⟨⟨v, rfl, hv⟩, rfl⟩
                refine gx_setL (ex_var (i := 14) rfl (ex_idx (ex_var (i := 5) rfl (ex_var (i := 15) rfl ⟨_, (t : Int), dI ox, .inl .fr, rfl, PD.atI_nat (by rw [List.getElem?_map, hox]; rfl), pe, es.map dI, (ox : Int), ox, rfl, rfl, look_hd, ixN_nat (by rw [List.length_map]; omega), (by repeat (first | exact Fewer.refl _ | exact Fewer.nil | refine Fewer.cons ?_ | refine Fewer.skip ?_)), es.set ox v, ?_, by rw [List.length_set]; exact hes1, fun x hx => ?_⟩))))
                · rw [setO_hd heO, List.map_set]
                · rcases List.mem_or_eq_of_mem_set hx with h | h
                  · exact hes2 x h
                  · omega
            · rintro O' ⟨es, rfl, hes1, hes2⟩ ρ' hf
              exact ⟨hf, es, rfl, hes1, hes2⟩
          rintro ρ' O' ⟨hf, es, rfl, hes1, hes2⟩
          refine SX.fewer ?_ hf (List.Sublist.refl _)
          obtain ⟨l7, z, rfl⟩ : ∃ l7 z, l6 = l7 ++ [z] := by
            refine ⟨l6.dropLast, l6.getLast ?_, (List.dropLast_concat_getLast _).symm⟩
            intro e
            rw [e, List.length_nil] at hl6
            omega
          have hpp : po ∉ (UU ns6 st6).map (·.1) := hpo' _ _
          refine sx_one (s1_dropO (s1_expr (ex_append (ex_var (i := 12) rfl ⟨pr, _, rfl, look_tl he1 look_hd, ex_tup (ea_cons (ex_pop (ex_var (i := 6) rfl ⟨po, l7.map .str, .str z, rfl, ?_, ?_⟩)))⟩))))
          · rw [show l7.map D.str ++ [D.str z] = (l7 ++ [z]).map D.str by rw [List.map_append]; rfl]
            exact look_tl he3 (look_tl hr2 (look_tl hfp look_hd))
          have e5 : setO ((pe, OC.lst (es.map dI)) :: Op1) po (.lst (l7.map .str)) = (pe, OC.lst (es.map dI)) :: (pr, OC.lst (rw'.map dOp)) :: ow fo l7 ns6 st6 := by
            show setO ((pe, OC.lst (es.map dI)) :: (pr, OC.lst (rw'.map dOp)) :: (pfd, OC.lst (dOffs fo)) :: (po, OC.lst ((l7 ++ [z]).map .str)) :: UU ns6 st6) po (.lst (l7.map .str)) = _
            rw [setO_tl he3, setO_tl hr2, setO_tl hfp, setO_hd hpp]
          rw [e5]
          refine ea_cons (ex_tuple B (ex_var (i := 14) rfl ⟨es.map dI, .ow look_hd, ?_⟩))
          refine ea_cons (ex_bin op_repU (ex_tup (ea_cons (ex_fn I1 (by decide) hr (fun _ _ _ _ _ _ us hl => match us, hl with | [_, _], _ => rfl) tkd0 (ea_cons (ex_var (i := 0) rfl (ea_cons (ex_int (ea_nil ⟨p, r, ns6, st6, 3, (pe, OC.lst (es.map dI)) :: (pr, OC.lst (rw'.map dOp)) :: (pfd, OC.lst (dOffs fo)) :: (po, OC.lst (l7.map .str)) :: A0, U, rfl, rfl, n6, l6', t6, by decide, by decide, fun an ns8 st8 a1 a2 n8 l8 t8 => ea_nil ⟨by show 1 ≤ 1000000; decide, ex_var (i := 4) rfl (bd_repT (by simp) (by omega) (by omega) (by show 1 ≤ 1000; decide) ?_)⟩⟩)))))))))
          rw [rep_flat, Int.toNat_natCast]
          refine ea_nil ⟨by show 3 ≤ 1000000; decide, rw'.map dOp, look_tl he1 look_hd, ?_, ?_⟩
          · rw [List.length_map]
            have := hg6.le
            rw [List.length_append, List.length_append] at this
            omega
          · let o : Op := ⟨z, es, List.replicate n an⟩
            have ho : o.Ok n := by
              refine ⟨hg6.nm z (List.mem_append_right _ (by simp)), hes1, hes2, List.length_replicate .., fun a ha => ?_⟩
              have := List.eq_of_mem_replicate ha
              omega
            have e6 : rw'.map dOp ++ [D.tup [D.str z, D.tup (es.map dI), D.tup (List.replicate n (D.int an))]] = (rw' ++ [o]).map dOp := by
              rw [List.map_append]
              show _ = rw'.map dOp ++ [D.tup [D.str z, D.tup (es.map dI), D.tup ((List.replicate n an).map D.int)]]
              rw [List.map_replicate]
            have e7 : setO ((pe, OC.lst (es.map dI)) :: (pr, OC.lst (rw'.map dOp)) :: ow fo l7 ns8 st8) pr (.lst ((rw' ++ [o]).map dOp)) = (pe, OC.lst (es.map dI)) :: (pr, OC.lst ((rw' ++ [o]).map dOp)) :: ow fo l7 ns8 st8 := by
              rw [setO_tl he1, setO_hd]
              intro h
              rcases List.mem_cons.mp h with h | h
              · exact hr1 h.symm
              · rcases List.mem_cons.mp h with h | h
                · exact hr2 h.symm
                · exact hr3 ns8 st8 h
            rw [e6]
            refine ⟨(pr, OC.lst ((rw' ++ [o]).map dOp)) :: ow fo l7 ns8 st8, ?_, (by repeat (first | exact Fewer.refl _ | exact Fewer.nil | refine Fewer.cons ?_ | refine Fewer.skip ?_)), rw' ++ [o], l7, ns8, st8, rfl, ?_, ?_, n8, l8, t8⟩
            · show List.Sublist _ (setO ((pe, OC.lst (es.map dI)) :: (pr, OC.lst (rw'.map dOp)) :: ow fo l7 ns8 st8) pr (.lst ((rw' ++ [o]).map dOp)))
              rw [e7]
              exact List.sublist_cons_self _ _
            · have := Gd.pop (o := o) hg6 rfl ho fun a ha => by have := List.eq_of_mem_replicate ha; omega
              refine this.perm ?_
              rw [List.append_assoc]
              exact List.perm_middle
            · rw [List.length_append] at hl6
              have e8 : ([z] : List Str).length = 1 := rfl
              omega
        · rintro O' ⟨rw', l6, ns6, st6, rfl, hg6, hl6, n6, l6', t6⟩ ρ' hf
          rw [List.length_map] at hl6
          exact ⟨hf, rw', l6, ns6, st6, rfl, hg6, by omega, n6, l6', t6⟩
      · rintro ρ' O' ⟨hf, rw', l6, ns6, st6, rfl, hg6, hl6, n6, l6', t6⟩
        refine SX.fewer ?_ hf (List.Sublist.refl _)
        refine sx_one (s1_dropO (s1_asg (ex_tuple B (ex_var (i := 12) rfl ⟨rw'.map dOp, .ow look_hd, gx_setL (ex_var (i := 8) rfl (ex_idx (ex_var (i := 7) rfl (ex_var (i := 9) rfl ⟨_, (i : Int), dI kt, .inl .fr, rfl, PD.atI_nat (by rw [List.getElem?_map, hkt]; rfl), pfd, dOffs fo, (kt : Int), kt, rfl, rfl, look_tl hr1 look_hd, ixN_nat (by unfold dOffs; rw [List.length_map]; omega), ?_⟩))))⟩))))
        have e9 : setO ((pr, OC.lst (rw'.map dOp)) :: ow fo l6 ns6 st6) pfd (.lst ((dOffs fo).set kt (.tup (rw'.map dOp)))) = (pr, OC.lst (rw'.map dOp)) :: ow (fo.set kt rw') l6 ns6 st6 := by
          show setO ((pr, OC.lst (rw'.map dOp)) :: (pfd, OC.lst (dOffs fo)) :: (po, OC.lst (l6.map .str)) :: UU ns6 st6) pfd _ = _
          rw [setO_tl hr1, setO_hd]
          · show _ = (pr, OC.lst (rw'.map dOp)) :: (pfd, OC.lst ((fo.set kt rw').map dOff)) :: (po, OC.lst (l6.map .str)) :: UU ns6 st6
            rw [List.map_set]
            rfl
          · intro h
            rcases List.mem_cons.mp h with h | h
            · exact hfp h.symm
            · exact hfo' ns6 st6 h
        refine ⟨ow (fo.set kt rw') l6 ns6 st6, ?_, (by repeat (first | exact Fewer.refl _ | exact Fewer.nil | refine Fewer.cons ?_ | refine Fewer.skip ?_)), fo.set kt rw', l6, ns6, st6, rfl, by rw [List.length_set]; exact hfl, hg6.set (by omega), hl6, n6, l6', t6⟩
        show List.Sublist _ (setO ((pr, OC.lst (rw'.map dOp)) :: ow fo l6 ns6 st6) pfd (.lst ((dOffs fo).set kt (.tup (rw'.map dOp)))))
        rw [e9]
        exact List.sublist_cons_self _ _
    · rintro O' ⟨fo, l5, ns5, st5, rfl, hfl, hgd, hl5, n5, l5', t5⟩ ρ' hf
      exact ⟨hf, fo, l5, ns5, st5, rfl, hfl, hgd, n5, l5', t5⟩
  rintro ρ' O' ⟨hf, fo, l5, ns5, st5, rfl, hfl, hgd, n5, l5', t5⟩
  refine SX.fewer ?_ hf (List.Sublist.refl _)
  obtain ⟨hok, hlow⟩ := hgd.sto hn1 hn8 (by omega) (by omega)
  exact sx_one (s1_ret (ex_drop (ex_tup (ea_cons (ex_frz (ex_var (i := 8) rfl ⟨pfd, .lst (dOffs fo), _, rfl, hfM, .refl _, ea_cons (ex_var (i := 4) rfl (ea_nil ⟨by show 2 ≤ 1000000; decide, UU ns5 st5, List.sublist_cons_self _ _, h4 ⟨n, fo⟩ ns5 st5 hok hlow hfl hn8 n5 l5' t5⟩))⟩))))))
end
end K76

set_option Elab.async false
set_option linter.all false
set_option autoImplicit false
set_option maxRecDepth 100000
set_option maxHeartbeats 600000
/-! k76, part Z: spoilt stores. -/
namespace K76
open PySem PySem.Spec L2 PD
open PyProof.Rows hiding St
theorem cut_to {ds : List D} {k : Nat} (h : k ≤ ds.length) : PD.cutD ds none (some (k : Int)) = ds.take k := by
  unfold PD.cutD
  rw [HT.sIx_nat, HT.sIx_none, Nat.min_eq_left h, List.drop_zero, Nat.sub_zero]
theorem no_to {n k : Nat} (h : k < n) : ¬ (HT.sIx n 0 none = 0 ∧ HT.sIx n n (some (k : Int)) = n) := by
  rw [HT.sIx_nat, Nat.min_eq_left (by omega)]
  omega
theorem no_from {n k : Nat} (h : k < n) : ¬ (HT.sIx n 0 (some ((k : Int) + 1)) = 0 ∧ HT.sIx n n none = n) := by
  rw [show ((k : Int) + 1) = ((k + 1 : Nat) : Int) by omega, HT.sIx_nat, Nat.min_eq_left (by omega)]
  omega
theorem py_off (f : List Op) : (dOff f).py = some (.tuple (f.map pyOp)) := by
  show (D.pys (f.map dOp)).map _ = _
  rw [pys_ops]
  rfl
theorem str_ok {z : Str} (h : NameOk z) : PyData.strOk z = true := by
  unfold PyData.strOk
  rw [← Array.all_toList, List.all_eq_true]
  intro c hc
  have := in_letters.mp (h.2.2 c hc)
  exact decide_eq_true (by omega)
theorem lay_op (o : Op) (h : NameOk o.name) : PyData.canLay0 (pyOp o) = true := by
  have h1 := lay_ints (o.ends.map fun n : Nat => (n : Int))
  have h2 := lay_ints o.ans
  have h3 := str_ok h
  simp only [pyOp, PyData.canLay0, PyData.canLayAll0, h1, h2, h3, Bool.and_true]
theorem lay_ops : ∀ f : List Op, (∀ o ∈ f, NameOk o.name) → PyData.canLayAll0 (f.map pyOp) = true
  | [], _ => rfl
  | o :: f, h => by rw [List.map_cons, PyData.canLayAll0, lay_op o (h o List.mem_cons_self), lay_ops f fun q hq => h q (List.mem_cons_of_mem _ hq)]; rfl
theorem dep_ops : ∀ f : List Op, PyData.depthAll (f.map pyOp) ≤ 2
  | [] => Nat.zero_le _
  | o :: f => by
    rw [List.map_cons, PyData.depthAll, depth_op]
    exact Nat.max_le.mpr ⟨Nat.le_refl _, dep_ops f⟩
theorem shp_off (f : List Op) (hf : ∀ o ∈ f, NameOk o.name) : SeqAt.shaped (.tuple (f.map pyOp)) = true := by
  have h := dep_ops f
  have h2 := lay_ops f hf
  simp only [SeqAt.shaped, PyData.canLay0, PyData.depth, h2, Bool.true_and]
  exact decide_eq_true (by omega)
theorem eqv_off (f : List Op) : PyData.eqv (.tuple (f.map pyOp)) (.tuple []) = f.isEmpty := by
  cases f <;> rfl
/-- what the k-th operation of the i-th office is changed into -/
def sw (f : List Op) (j : Nat) (os : List Op) : List Op := f.take j ++ os ++ f.drop (j + 1)
def swS (offs : List (List Op)) (i : Nat) (f : List Op) : List (List Op) := offs.take i ++ [f] ++ offs.drop (i + 1)
theorem sw_split {α : Type} {f : List α} {j : Nat} {o : α} (h : f[j]? = some o) : f = f.take j ++ (o :: f.drop (j + 1)) := by
  obtain ⟨hj, e⟩ := List.getElem?_eq_some_iff.mp h
  rw [← e, ← List.drop_eq_getElem_cons hj, List.take_append_drop]
theorem sw_names {f : List Op} {j : Nat} {o : Op} (h : f[j]? = some o) {os : List Op} (ho : os = [] ∨ ∃ o', os = [o'] ∧ o'.name = o.name) : ((sw f j os).map Op.name).Sublist (f.map Op.name) := by
  have e := sw_split h
  have e2 : f.map Op.name = (f.take j).map Op.name ++ (o.name :: (f.drop (j + 1)).map Op.name) := by
    conv => lhs; rw [e]
    rw [List.map_append, List.map_cons]
  rw [e2]
  unfold sw
  rw [List.map_append, List.map_append, List.append_assoc]
  refine List.Sublist.append (List.Sublist.refl _) ?_
  rcases ho with rfl | ⟨o', rfl, h2⟩
  · exact List.sublist_cons_self _ _
  · show List.Sublist (o'.name :: _) _
    rw [h2]
    exact List.Sublist.refl _
theorem sto_sw {s : Sto} (h : s.Ok) {i j : Nat} {f : List Op} {o : Op} (hf : s.offs[i]? = some f) (ho : f[j]? = some o) {os : List Op} (hos : os = [] ∨ ∃ o', os = [o'] ∧ o'.name = o.name ∧ o'.Ok s.size) : (⟨s.size, swS s.offs i (sw f j os)⟩ : Sto).Ok ∧ (swS s.offs i (sw f j os)).length = s.offs.length := by
  have e := sw_split hf
  have hi := (List.getElem?_eq_some_iff.mp hf).1
  have hlen : (swS s.offs i (sw f j os)).length = s.offs.length := by
    unfold swS
    rw [List.length_append, List.length_append, List.length_take, List.length_drop]
    show min i s.offs.length + 1 + (s.offs.length - (i + 1)) = _
    omega
  have hn : ((swS s.offs i (sw f j os)).flatten.map Op.name).Sublist (s.offs.flatten.map Op.name) := by
    have e2 : s.offs.flatten.map Op.name = (s.offs.take i).flatten.map Op.name ++ (f.map Op.name ++ (s.offs.drop (i + 1)).flatten.map Op.name) := by
      conv => lhs; rw [e]
      rw [List.flatten_append, List.flatten_cons, List.map_append, List.map_append]
    rw [e2]
    unfold swS
    rw [List.flatten_append, List.flatten_append, List.append_assoc, List.map_append, List.map_append]
    refine List.Sublist.append (List.Sublist.refl _) (List.Sublist.append ?_ (List.Sublist.refl _))
    show (([sw f j os] : List (List Op)).flatten.map Op.name).Sublist _
    rw [List.flatten_cons, List.flatten_nil, List.append_nil]
    exact sw_names ho (hos.elim .inl fun ⟨o', a, b, _⟩ => .inr ⟨o', a, b⟩)
  have hfm := List.mem_of_getElem? hf
  refine ⟨⟨h.n1, h.n2, by show 2 ≤ (swS s.offs i (sw f j os)).length; rw [hlen]; exact h.o1, by show (swS s.offs i (sw f j os)).length ≤ 8; rw [hlen]; exact h.o2, ?_, ?_, h.nd.sublist hn⟩, hlen⟩
  · have h1 := hn.length_le
    rw [List.length_map, List.length_map] at h1
    have := h.few
    show (swS s.offs i (sw f j os)).flatten.length ≤ 40
    exact Nat.le_trans h1 this
  · intro f' hf' o' ho'
    have hf' : f' ∈ s.offs.take i ++ [sw f j os] ++ s.offs.drop (i + 1) := hf'
    show o'.Ok s.size
    rcases List.mem_append.mp hf' with h1 | h1
    · rcases List.mem_append.mp h1 with h2 | h2
      · exact h.op f' (List.mem_of_mem_take h2) o' ho'
      · have e3 : f' = sw f j os := by simpa using h2
        subst e3
        have ho' : o' ∈ f.take j ++ os ++ f.drop (j + 1) := ho'
        rcases List.mem_append.mp ho' with h3 | h3
        · rcases List.mem_append.mp h3 with h4 | h4
          · exact h.op f hfm o' (List.mem_of_mem_take h4)
          · rcases hos with rfl | ⟨o2, rfl, _, h5⟩
            · cases h4
            · have : o' = o2 := by simpa using h4
              rw [this]
              exact h5
        · exact h.op f hfm o' (List.mem_of_mem_drop h3)
    · exact h.op f' (List.mem_of_mem_drop h1) o' ho'
theorem set_row {α : Type} {l : List α} {k : Nat} {x : α} (hk : k < l.length) {y : α} (h : y ∈ l.take k ++ [x] ++ l.drop (k + 1)) : y ∈ l ∨ y = x := by
  rcases List.mem_append.mp h with h1 | h1
  · rcases List.mem_append.mp h1 with h2 | h2
    · exact .inl (List.mem_of_mem_take h2)
    · exact .inr (by simpa using h2)
  · exact .inl (List.mem_of_mem_drop h1)
theorem row_len {α : Type} {l : List α} {k : Nat} {x : α} (hk : k < l.length) : (l.take k ++ [x] ++ l.drop (k + 1)).length = l.length := by
  rw [List.length_append, List.length_append, List.length_take, List.length_drop]
  show min k l.length + 1 + (l.length - (k + 1)) = _
  omega
section
variable {P : Program} {w : World} {K : PySem.W.Frag} {mg : Str → Option Value} {base : Heap}
def P_spoilt : DP := fun ds O R _ => ∃ (p r : Addr) (ns : List Int) (st : Int) (s : Sto) (A U : Own), ds = [.raw (.ref p), .lst (dOffs s.offs)] ∧ O = A ++ hpO p r ns st U ∧ NsOk ns ∧ ns.length ≤ 1000 ∧ StOk st ∧ s.Ok ∧ Low s ∧
  ∀ (offs : List (List Op)) (ns' : List Int) (st' : Int), (⟨s.size, offs⟩ : Sto).Ok → offs.length = s.offs.length → NsOk ns' → ns'.length ≤ 1000 → StOk st' → R (.lst (dOffs offs)) (A ++ hpO p r ns' st' U)
theorem ok_law_spoilt (F : Df K mg "_law_spoilt" (top 73) [] []) (B : Bare mg) (I1 : Ok P w K mg base 1 "_law_draw" (top 64) [] [] ["_law_heap_here", "_law_many"] P_draw) (I2 : Ok P w K mg base 2 "_law_pick" (top 65) [] [] ["_law_heap_here", "_law_some"] P_pick) :
    Ok P w K mg base 3 "_law_spoilt" (top 73) [] [] ["_law_heap_here", "_law_offices"] P_spoilt := by
  have S : FnScope ["_law_heap_here", "_law_offices", "_law_busy", "_law_at", "_law_place", "_law_kind", "_law_name", "_law_ends", "_law_answers", "_law_state", "_law_is_out", "_law_office"] ["_law_heap_here", "_law_offices"] (defScope (top 73)) := ⟨rfl, rfl, rfl, by decide +kernel, rfl, by decide +kernel, by decide +kernel⟩
  refine fn_mkD F S (fun ds O R Xr ⟨p, r, ns, st, s, A, O', h, _⟩ => (by rw [h]; rfl)) fun f cdv A outer s H E hr Z ds O R Xr ⟨p, r, ns, st, t, A0, U, h1, h2, hn, hl, hst, ht, hlow, h4⟩ tk => ?_
  subst h1 h2
  let UU : List Int → Int → Own := fun ns st => A0 ++ hpO p r ns st U
  have hn1 := ht.n1
  have hn2 := ht.n2
  have ho2 := ht.o2
  have hlo : (dOffs t.offs).length = t.offs.length := List.length_map ..
  let bz : Nat → Bool := fun k => !(t.offs.getD k []).isEmpty
  let g : D → List D := fun d => if bz (unI d) = true then [d] else []
  have key : (rangeD 0 t.offs.length).flatMap g = ((List.range t.offs.length).filter bz).map dI := by
    rw [range_dI, List.flatMap_map, ← flat_if]
    refine flat_congr fun k _ => ?_
    show (if bz (unI (dI k)) = true then [dI k] else []) = _
    rw [unI_d]
  have hbl : ((List.range t.offs.length).filter bz).length ≤ t.offs.length := by
    have := List.length_filter_le bz (List.range t.offs.length)
    rwa [List.length_range] at this
  refine sx_cons (s1_setLc (i := 2) (own := [("_law_at", 3)]) rfl S.nd (blkOk_by (by kernel_rfl)) (ix_range1 (B _ (by decide)) (ex_len B (ex_var (i := 1) rfl ⟨_, .inl .fr, _, rfl, by omega, by omega, fun _ _ _ _ => trivial, g, ?_, fun s2 H2 C2 cl2 fp2 k d L c hm hd hk => ?_, ?_⟩))))
  · rw [hlo, Int.toNat_natCast, key, List.length_map]; omega
  · rw [hlo, Int.toNat_natCast] at hk
    obtain ⟨hkm, rfl⟩ := range_at hk
    refine gx_name (i := 3) ⟨rfl, Fewer.set rfl (Fewer.refl _), ts_one (et_cmp (op_neD hr.units) (ex_idx (ex_var (i := 1) rfl (ex_var (i := 3) rfl ⟨_, (k : Int), _, .inl .fr, rfl, off_at2 hkm, ex_tup (ea_nil ⟨by decide, bt_neD (p1 := .tuple ((t.offs.getD k []).map pyOp)) (p2 := .tuple []) (py_off _) rfl (shp_off _ fun o ho => (ht.op _ (mem_getD ho).2 o ho).nm) (by decide +kernel) ?_⟩)⟩))))⟩ S.nd
    rw [eqv_off]
    refine ⟨rfl, fun hb L2 c2 hm2 hd2 => ex_var (i := 3) rfl ⟨rfl, ?_⟩, fun hb => ?_⟩
    · show (if bz (unI (dI k)) = true then [dI k] else []) = [dI k]
      rw [unI_d, if_pos hb]
    · show (if bz (unI (dI k)) = true then [dI k] else []) = []
      rw [unI_d, if_neg (by rw [show bz k = false from hb]; exact Bool.false_ne_true)]
  rw [hlo, Int.toNat_natCast, key]
  generalize hbz : (List.range t.offs.length).filter bz = bl at hbl
  refine sx_cons (s1_if (et_cmp (op_eqD hr.units) (ex_var (i := 2) rfl (ex_lst (ea_nil ⟨by decide, bt_eqD (p1 := .list ((bl.map fun k : Nat => (k : Int)).map .int)) (p2 := .list (([] : List Int).map .int)) ?_ rfl (shp_lints _) (shp_lints _) ?_⟩)))))
  · rw [dI_int]; exact py_lints _
  rw [eqv_lints]
  refine ⟨fun _ => sx_one (s1_ret (ex_var (i := 1) rfl (h4 t.offs ns st ht rfl hn hl hst))), fun hb => sx_nil ?_⟩
  have hbne : 1 ≤ bl.length := by
    cases bl with
    | nil => exact absurd rfl (of_decide_eq_false hb)
    | cons a l => exact Nat.le_add_left _ _
  refine sx_cons (s1_set (i := 3) S.nd (ex_fn I2 (by decide) hr (fun _ _ _ _ _ _ us hl => match us, hl with | [_, _], _ => rfl) tkd0 (ea_cons (ex_var (i := 0) rfl (ea_cons (ex_var (i := 2) rfl (ea_nil ⟨p, r, ns, st, _, bl.map dI, A0, U, rfl, rfl, hn, hl, hst, fun _ _ => .inl .fr, by rw [List.length_map]; exact hbne, by rw [List.length_map]; omega, fun x ns1 st1 hx n1 l1 t1 => ?_⟩)))))))
  obtain ⟨k, hk, rfl⟩ := List.mem_map.mp hx
  rw [← hbz] at hk
  obtain ⟨hk1, hk2⟩ := List.mem_filter.mp hk
  have hkm := List.mem_range.mp hk1
  obtain ⟨f', hf'⟩ : ∃ f', t.offs[k]? = some f' := ⟨_, List.getElem?_eq_getElem hkm⟩
  have efd : t.offs.getD k [] = f' := by rw [List.getD_eq_getElem?_getD, hf']; rfl
  have hfm := List.mem_of_getElem? hf'
  have hfl : f'.length ≤ 40 := by
    have := ht.few
    have h5 := (List.sublist_flatten_of_mem hfm).length_le
    exact Nat.le_trans h5 this
  have hf1 : 1 ≤ f'.length := by
    have hk2 : (!(t.offs.getD k []).isEmpty) = true := hk2
    rw [efd] at hk2
    cases f' with
    | nil => cases hk2
    | cons a l => exact Nat.le_add_left _ _
  have hoff : atI (dOffs t.offs) (k : Int) = some (dOff f') := by rw [off_at2 hkm, efd]
  refine sx_cons (s1_par2 (i := 4) (j := 5) rfl S.nd (by decide) (ea_cons (ex_fn I1 (by decide) hr (fun _ _ _ _ _ _ us hl => match us, hl with | [_, _], _ => rfl) tkd0 (ea_cons (ex_var (i := 0) rfl (ea_cons (ex_len B (ex_idx (ex_var (i := 1) rfl (ex_var (i := 3) rfl ⟨_, (k : Int), _, .inl .fr, rfl, hoff, f'.map dOp, .inr (.inl rfl), ea_nil ⟨p, r, ns1, st1, _, A0, U, rfl, rfl, n1, l1, t1, by rw [List.length_map]; omega, by rw [List.length_map]; omega, fun pl ns2 st2 p1 p2 n2 l2 t2 => ?_⟩⟩))))))))))
  rw [List.length_map] at p2
  obtain ⟨j, rfl⟩ : ∃ j : Nat, pl = (j : Int) := ⟨pl.toNat, by omega⟩
  have hj : j < f'.length := by omega
  obtain ⟨o, ho⟩ : ∃ o, f'[j]? = some o := ⟨_, List.getElem?_eq_getElem hj⟩
  have hoo := ht.op f' hfm o (List.mem_of_getElem? ho)
  have hol : ∀ a ∈ o.ans, a ≤ 2 := hlow o (List.mem_flatten.mpr ⟨f', hfm, List.mem_of_getElem? ho⟩)
  refine ea_cons (ex_fn I1 (by decide) hr (fun _ _ _ _ _ _ us hl => match us, hl with | [_, _], _ => rfl) tkd0 (ea_cons (ex_var (i := 0) rfl (ea_cons (ex_int (ea_nil ⟨p, r, ns2, st2, 3, A0, U, rfl, rfl, n2, l2, t2, by decide, by decide, fun kd ns3 st3 k1 k2 n3 l3 t3 => ea_nil ⟨_, _, rfl, ?_⟩⟩))))))
  refine sx_cons (s1_asg (ex_idx (ex_idx (ex_var (i := 1) rfl (ex_var (i := 3) rfl ⟨_, (k : Int), _, .inl .fr, rfl, hoff, ex_var (i := 4) rfl ⟨f'.map dOp, (j : Int), dOp o, .inr (.inl rfl), rfl, PD.atI_nat (by rw [List.getElem?_map, ho]; rfl), gx_tup rfl (gxs_cons (gx_name (i := 6) (gxs_cons (gx_name (i := 7) (gxs_cons (gx_name (i := 8) (gxs_nil ?_) S.nd)) S.nd)) S.nd))⟩⟩)))))
  refine sx_cons (s1_par2 (i := 9) (j := 10) rfl S.nd (by decide) (ea_cons (ex_fn I1 (by decide) hr (fun _ _ _ _ _ _ us hl => match us, hl with | [_, _], _ => rfl) tkd0 (ea_cons (ex_var (i := 0) rfl (ea_cons (ex_len B (ex_var (i := 7) rfl ⟨o.ends.map dI, .inr (.inl rfl), ea_nil ⟨p, r, ns3, st3, _, A0, U, rfl, rfl, n3, l3, t3, by rw [List.length_map, hoo.el]; omega, by rw [List.length_map, hoo.el]; omega, fun sp ns4 st4 s1 s2 n4 l4 t4 => ?_⟩⟩))))))))
  rw [List.length_map, hoo.el] at s2
  obtain ⟨q, rfl⟩ : ∃ q : Nat, sp = (q : Int) := ⟨sp.toNat, by omega⟩
  have hq : q < t.size := by omega
  refine ea_cons (ex_eqI (ex_fn I1 (by decide) hr (fun _ _ _ _ _ _ us hl => match us, hl with | [_, _], _ => rfl) tkd0 (ea_cons (ex_var (i := 0) rfl (ea_cons (ex_int (ea_nil ⟨p, r, ns4, st4, 3, A0, U, rfl, rfl, n4, l4, t4, by decide, by decide, fun ou ns5 st5 o1 o2 n5 l5 t5 => ex_int ⟨ou, 0, rfl, rfl, ea_nil ⟨_, _, rfl, ?_⟩⟩⟩)))))))
  let isO : Bool := decide (ou = 0)
  let V : Op → Slots := fun o' => [some (.raw (.ref p)), some (.lst (dOffs t.offs)), some (.lst (bl.map dI)), some (dI k), some (dI j), some (.int kd), some (.str o.name), some (.tup (o'.ends.map dI)), some (.tup (o'.ans.map D.int)), some (dI q), some (.bl isO), none]
  refine sx_cut (fun ρ' O' => ∃ (o' : Op) (ns : List Int) (st : Int), ρ' = V o' ∧ O' = UU ns st ∧ o'.name = o.name ∧ o'.Ok t.size ∧ NsOk ns ∧ ns.length ≤ 1000 ∧ StOk st) ?_ ?_
  · have el1 : (o.ends.map dI).length = t.size := by rw [List.length_map, hoo.el]
    have el2 : (o.ans.map D.int).length = t.size := by rw [List.length_map, hoo.al]
    refine s1_if (et_eqI (ex_var (i := 5) rfl (ex_int ⟨kd, 0, rfl, rfl, fun _ => ?_, fun _ => ?_⟩)))
    · refine sx_one (s1_set (i := 8) S.nd (ex_bin op_catA (ex_bin op_catA (ex_slice sl_tup (ex_var (i := 8) rfl (show EX _ _ _ _ _ _ from ex_var (i := 9) rfl ⟨(q : Int), rfl, sl_T (no_to (by omega)) ?_⟩))))))
      rw [cut_to (by omega)]
      refine ex_tup (ea_cons (ex_add (ex_add (ex_idx (ex_var (i := 8) rfl (ex_var (i := 9) rfl ⟨_, (q : Int), _, .inr (.inl rfl), rfl, at_ans hoo hq, ex_int ⟨_, 1, rfl, rfl, ex_fn I1 (by decide) hr (fun _ _ _ _ _ _ us hl => match us, hl with | [_, _], _ => rfl) tkd0 (ea_cons (ex_var (i := 0) rfl (ea_cons (ex_int (ea_nil ⟨p, r, ns5, st5, 3, A0, U, rfl, rfl, n5, l5, t5, by decide, by decide, fun an ns6 st6 a1 a2 n6 l6 t6 => ⟨_, _, rfl, rfl, ea_nil ⟨by show 1 ≤ 1000000; decide, bd_catT ?_ ?_⟩⟩⟩)))))⟩⟩))))))
      · rw [List.length_take]; show _ + 1 ≤ 1000000; omega
      refine ex_slice sl_tup (ex_var (i := 8) rfl (show EX _ _ _ _ _ _ from ex_add (ex_var (i := 9) rfl (ex_int ⟨(q : Int), 1, rfl, rfl, ⟨(q : Int) + 1, rfl, sl_T (no_from (by omega)) ?_⟩⟩))))
      rw [cut_from (by omega)]
      refine bd_catT ?_ ?_
      · rw [List.length_append, List.length_take, List.length_drop]; show _ + 1 + _ ≤ 1000000; omega
      · let o' : Op := ⟨o.name, o.ends, o.ans.take q ++ [o.A q + 1 + an] ++ o.ans.drop (q + 1)⟩
        have e : (o.ans.map D.int).take q ++ [D.int (o.A q + 1 + an)] ++ (o.ans.map D.int).drop (q + 1) = o'.ans.map D.int := by
          show _ = (o.ans.take q ++ [o.A q + 1 + an] ++ o.ans.drop (q + 1)).map D.int
          rw [List.map_append, List.map_append, List.map_take, List.map_drop]
          rfl
        rw [e]
        have hqa : q < o.ans.length := by rw [hoo.al]; exact hq
        refine ⟨o', ns6, st6, rfl, rfl, rfl, ⟨hoo.nm, hoo.el, hoo.eb, (row_len hqa).trans hoo.al, fun a ha => ?_⟩, n6, l6, t6⟩
        rcases set_row hqa ha with h | h
        · exact hoo.ab a h
        · have hA : o.A q ∈ o.ans := by
            unfold Op.A
            rw [List.getD_eq_getElem?_getD, List.getElem?_eq_getElem hqa]
            exact List.getElem_mem hqa
          have h6 := hoo.ab _ hA
          have h7 := hol _ hA
          omega
    · refine sx_one (s1_set (i := 7) S.nd (ex_bin op_catA (ex_bin op_catA (ex_slice sl_tup (ex_var (i := 7) rfl (show EX _ _ _ _ _ _ from ex_var (i := 9) rfl ⟨(q : Int), rfl, sl_T (no_to (by omega)) ?_⟩))))))
      rw [cut_to (by omega)]
      refine ex_tup (ea_cons (ex_fn I1 (by decide) hr (fun _ _ _ _ _ _ us hl => match us, hl with | [_, _], _ => rfl) tkd0 (ea_cons (ex_var (i := 0) rfl (ea_cons (ex_len B (ex_var (i := 7) rfl ⟨o.ends.map dI, .inr (.inl rfl), ea_nil ⟨p, r, ns5, st5, _, A0, U, rfl, rfl, n5, l5, t5, by rw [el1]; omega, by rw [el1]; omega, fun an ns6 st6 a1 a2 n6 l6 t6 => ea_nil ⟨by show 1 ≤ 1000000; decide, bd_catT ?_ ?_⟩⟩⟩)))))))
      · rw [List.length_take]; show _ + 1 ≤ 1000000; omega
      refine ex_slice sl_tup (ex_var (i := 7) rfl (show EX _ _ _ _ _ _ from ex_add (ex_var (i := 9) rfl (ex_int ⟨(q : Int), 1, rfl, rfl, ⟨(q : Int) + 1, rfl, sl_T (no_from (by omega)) ?_⟩⟩))))
      rw [cut_from (by omega)]
      refine bd_catT ?_ ?_
      · rw [List.length_append, List.length_take, List.length_drop]; show _ + 1 + _ ≤ 1000000; omega
      · rw [el1] at a2
        obtain ⟨e0, rfl⟩ : ∃ e0 : Nat, an = (e0 : Int) := ⟨an.toNat, by omega⟩
        let o' : Op := ⟨o.name, o.ends.take q ++ [e0] ++ o.ends.drop (q + 1), o.ans⟩
        have e : (o.ends.map dI).take q ++ [D.int (e0 : Int)] ++ (o.ends.map dI).drop (q + 1) = o'.ends.map dI := by
          show _ = (o.ends.take q ++ [e0] ++ o.ends.drop (q + 1)).map dI
          rw [List.map_append, List.map_append, List.map_take, List.map_drop]
          rfl
        rw [e]
        have hqe : q < o.ends.length := by rw [hoo.el]; exact hq
        refine ⟨o', ns6, st6, rfl, rfl, rfl, ⟨hoo.nm, (row_len hqe).trans hoo.el, fun x hx => ?_, hoo.al, hoo.ab⟩, n6, l6, t6⟩
        rcases set_row hqe hx with h | h
        · exact hoo.eb x h
        · omega
  rintro ρ' O' ⟨o', ns6, st6, rfl, rfl, hnm', hoo', n6, l6, t6⟩
  have elf : (f'.map dOp).length = f'.length := List.length_map ..
  have edo : D.tup [.str o.name, .tup (o'.ends.map dI), .tup (o'.ans.map D.int)] = dOp o' := by
    show _ = D.tup [.str o'.name, .tup (o'.ends.map dI), .tup (o'.ans.map D.int)]
    rw [hnm']
  let V2 : List Op → Slots := fun f2 => [some (.raw (.ref p)), some (.lst (dOffs t.offs)), some (.lst (bl.map dI)), some (dI k), some (dI j), some (.int kd), some (.str o.name), some (.tup (o'.ends.map dI)), some (.tup (o'.ans.map D.int)), some (dI q), some (.bl isO), some (dOff f2)]
  refine sx_cut (fun ρ' O' => ∃ os : List Op, ρ' = V2 (sw f' j os) ∧ O' = UU ns6 st6 ∧ (os = [] ∨ ∃ o', os = [o'] ∧ o'.name = o.name ∧ o'.Ok t.size)) ?_ ?_
  · refine s1_set (i := 11) S.nd (ex_bin op_catA (ex_bin op_catA (ex_slice sl_tup (ex_idx (ex_var (i := 1) rfl (ex_var (i := 3) rfl ⟨_, (k : Int), _, .inl .fr, rfl, hoff, (show EX _ _ _ _ _ _ from ex_var (i := 4) rfl ⟨(j : Int), rfl, sl_T (no_to (by omega)) ?_⟩)⟩))))))
    rw [cut_to (by omega)]
    refine EX.mono (R := fun d O1 => (∃ os : List Op, d = .tup (os.map dOp) ∧ os.length ≤ 1 ∧ (os = [] ∨ ∃ o', os = [o'] ∧ o'.name = o.name ∧ o'.Ok t.size)) ∧ O1 = UU ns6 st6) (ex_if (et_ex (ex_var (i := 10) rfl ⟨isO, rfl, fun _ => ex_tup (ea_nil ⟨by decide, ⟨[], rfl, by decide, .inl rfl⟩, rfl⟩), fun _ => ?_⟩))) ?_
    · exact ex_tup (ea_cons (ex_tup (ea_cons (ex_var (i := 6) rfl (ea_cons (ex_var (i := 7) rfl (ea_cons (ex_var (i := 8) rfl (ea_nil ⟨by show 3 ≤ 1000000; decide, ea_nil ⟨by show 1 ≤ 1000000; decide, ⟨[o'], by rw [edo]; rfl, by show 1 ≤ 1; decide, .inr ⟨o', rfl, hnm', hoo'⟩⟩, rfl⟩⟩)))))))))
    rintro d O1 ⟨⟨os, rfl, hos1, hos2⟩, rfl⟩
    refine bd_catT ?_ ?_
    · rw [List.length_take, elf, List.length_map]; omega
    refine ex_slice sl_tup (ex_idx (ex_var (i := 1) rfl (ex_var (i := 3) rfl ⟨_, (k : Int), _, .inl .fr, rfl, hoff, (show EX _ _ _ _ _ _ from ex_add (ex_var (i := 4) rfl (ex_int ⟨(j : Int), 1, rfl, rfl, ⟨(j : Int) + 1, rfl, sl_T (no_from (by omega)) ?_⟩⟩)))⟩)))
    rw [cut_from (by omega)]
    refine bd_catT ?_ ?_
    · rw [List.length_append, List.length_take, List.length_drop, elf, List.length_map]; omega
    · refine ⟨os, ?_, rfl, hos2⟩
      have e : (f'.map dOp).take j ++ os.map dOp ++ (f'.map dOp).drop (j + 1) = (sw f' j os).map dOp := by
        unfold sw
        rw [List.map_append, List.map_append, List.map_take, List.map_drop]
      rw [e]
      rfl
  rintro ρ' O' ⟨os, rfl, rfl, hos⟩
  obtain ⟨hok', hlen'⟩ := sto_sw ht hf' ho hos
  refine sx_one (s1_ret (ex_bin op_cat (ex_bin op_cat (ex_slice sl_list (ex_var (i := 1) rfl (show EX _ _ _ _ _ _ from ex_var (i := 3) rfl ⟨(k : Int), rfl, sl_L (.inl .fr) ?_⟩))))))
  rw [cut_to (by omega)]
  refine ex_lst (ea_cons (ex_var (i := 11) rfl (ea_nil ⟨by show 1 ≤ 1000000; decide, bd_cat .fr .fr ?_ ?_⟩)))
  · rw [List.length_take]; show _ + 1 ≤ 1000000; omega
  refine ex_slice sl_list (ex_var (i := 1) rfl (show EX _ _ _ _ _ _ from ex_add (ex_var (i := 3) rfl (ex_int ⟨(k : Int), 1, rfl, rfl, ⟨(k : Int) + 1, rfl, sl_L (.inl .fr) ?_⟩⟩))))
  rw [cut_from (by omega)]
  refine bd_cat .fr .fr ?_ ?_
  · rw [List.length_append, List.length_take, List.length_drop]; show _ + 1 + _ ≤ 1000000; omega
  · have e : (dOffs t.offs).take k ++ [dOff (sw f' j os)] ++ (dOffs t.offs).drop (k + 1) = dOffs (swS t.offs k (sw f' j os)) := by
      unfold swS dOffs
      rw [List.map_append, List.map_append, List.map_take, List.map_drop]
      rfl
    rw [e]
    exact h4 _ ns6 st6 hok' hlen' n6 l6 t6
end
end K76

set_option Elab.async false
set_option linter.all false
set_option autoImplicit false
set_option maxRecDepth 100000
set_option maxHeartbeats 600000
/-! k76, part ZA: what is told. -/
namespace K76
open PySem PySem.Spec L2 PD
open PyProof.Rows hiding St
/-- how the two errors are caught -/
structure Xcs (K : PySem.W.Frag) (Cr Cn : Addr) : Prop where
  m1 : PySem.W.exmOne K (.ref Cn) (.ref Cn) = some true
  m2 : PySem.W.exmOne K (.ref Cr) (.ref Cn) = some false
  m3 : PySem.W.exmOne K (.ref Cr) (.ref Cr) = some true
  x1 : XfC K Cn
  x2 : XfC K Cr
section
variable {P : Program} {w : World} {K : PySem.W.Frag} {mg : Str → Option Value} {base : Heap}
def refD (x : Str) : D := .lst [.str "refused", .str x]
def P_told (C : Addr) : DP := fun ds O R _ => ∃ (s : Sto) (d : D), ds = [dSto C s, d] ∧ s.Ok ∧ Ty d ∧ (isB (s.size : Int) d = false → R (.lst [.str "number", .str "base"]) O) ∧ (isB (s.size : Int) d = true → (haveClash s = true → R (refD "seen") O) ∧ (haveClash s = false → revB s = false → R (refD "oneway") O) ∧
  (haveClash s = false → revB s = true → (loneL s).length < 2 → R (refD "alone") O) ∧ (haveClash s = false → revB s = true → 2 ≤ (loneL s).length → ∀ b : Nat, d = dI b → ∀ p, p ∉ O.map (·.1) → R (.lst [.str "told", .raw (.ref p)]) ((p, .dct (s.ops.map (kvM s b))) :: O)))
theorem ok_law_told {C Cr Cn : Addr} (F : Df K mg "_law_told" (top 76) [] []) (N : Rfs P K mg Cr Cn) (xc : Xcs K Cr Cn) (I : Ok P w K mg base 13 "multipliers" (top 61) [] [("base", .int 0)] ["store", "base"] (P_mult C Cr Cn)) :
    Ok P w K mg base 14 "_law_told" (top 76) [] [] ["_law_store", "_law_base"] (P_told C) := by
  obtain ⟨fR, TR⟩ := N.r
  obtain ⟨fN, TN⟩ := N.n
  have S : FnScope ["_law_store", "_law_base", "error"] ["_law_store", "_law_base"] (defScope (top 76)) := ⟨rfl, rfl, rfl, by decide +kernel, rfl, by decide +kernel, by decide +kernel⟩
  refine fn_mkD F S (fun ds O R Xr ⟨s, d, h, _⟩ => (by rw [h]; rfl)) fun f cdv A outer s H E hr Z ds O R Xr ⟨t, d, h1, ht, hd, h4, h5⟩ tk => ?_
  subst h1
  refine sx_one (s1_try (c := ⟨_, _, _, _, _, _, Cn, 2⟩) (cs := [⟨_, _, _, _, _, _, Cr, 2⟩]) rfl rfl S.nd tk ?_ ?_)
  · intro q hq
    rcases List.mem_cons.mp hq with h | h
    · subst h
      exact ⟨⟨rfl, by show (("InvalidNumber" : Str) == ("__debug__" : Str)) = false; decide, .inl N.gn⟩, rfl, rfl⟩
    · have h := List.mem_singleton.mp h
      subst h
      exact ⟨⟨rfl, by show (("Refused" : Str) == ("__debug__" : Str)) = false; decide, .inl N.gr⟩, rfl, rfl⟩
  · intro Z' hM pn xe tk' po
    refine sx_one (s1_ret (ex_lst (ea_cons (ex_str (ea_cons (ex_fnKs (n := 1) (ks := ["base"]) I (by decide) hr (fun _ _ _ _ _ _ us ws l1 l2 => match us, ws, l1, l2 with | [_], [_], _, _ => rfl) tk' (ea_cons (ex_var (i := 0) rfl (ea_nil (ek_cons (ex_var (i := 1) rfl (ek_nil ⟨rfl, rfl, t, d, rfl, ht, hd, fun hb => ?_, fun hb => ?_⟩))))))))))))
    · refine ⟨true, xc.m1, fun _ a oe dx pn hz hf => ?_, nofun⟩
      exact sx_one (s1_ret (ex_lst (ea_cons (ex_str (ea_cons (ex_word xc.x1 TN.noN hz hf (ex_var (i := 2) rfl ⟨_, rfl, ea_nil ⟨by show 2 ≤ 1000000; decide, h4 hb⟩⟩)))))))
    · obtain ⟨h6, h7, h8, h9⟩ := h5 hb
      refine ⟨fun hc => ⟨false, xc.m2, nofun, fun _ => ⟨true, xc.m3, fun _ a oe dx pn hz hf => ?_, nofun⟩⟩, fun hc hv => ⟨false, xc.m2, nofun, fun _ => ⟨true, xc.m3, fun _ a oe dx pn hz hf => ?_, nofun⟩⟩, fun hc hv hl => ⟨false, xc.m2, nofun, fun _ => ⟨true, xc.m3, fun _ a oe dx pn hz hf => ?_, nofun⟩⟩, fun hc hv hl b e p hp => ea_nil ⟨by show 2 ≤ 1000000; decide, h9 hc hv hl b e p hp⟩⟩
      · exact sx_one (s1_ret (ex_lst (ea_cons (ex_str (ea_cons (ex_word xc.x2 TR.noN hz hf (ex_var (i := 2) rfl ⟨_, rfl, ea_nil ⟨by show 2 ≤ 1000000; decide, h6 hc⟩⟩)))))))
      · exact sx_one (s1_ret (ex_lst (ea_cons (ex_str (ea_cons (ex_word xc.x2 TR.noN hz hf (ex_var (i := 2) rfl ⟨_, rfl, ea_nil ⟨by show 2 ≤ 1000000; decide, h7 hc hv⟩⟩)))))))
      · exact sx_one (s1_ret (ex_lst (ea_cons (ex_str (ea_cons (ex_word xc.x2 TR.noN hz hf (ex_var (i := 2) rfl ⟨_, rfl, ea_nil ⟨by show 2 ≤ 1000000; decide, h8 hc hv hl⟩⟩)))))))
end
end K76

set_option Elab.async false
set_option linter.all false
set_option autoImplicit false
set_option maxRecDepth 100000
set_option maxHeartbeats 600000
/-! k76, part ZB: images; what multiplies (plain). -/
namespace K76
open PySem PySem.Spec L2 PD
open PyProof.Rows hiding St
/-! ### runs -/
def runE : List Op → Nat → Nat
  | [], x => x
  | o :: W, x => runE W (o.E x)
theorem runE_app : ∀ (W V : List Op) (x : Nat), runE (W ++ V) x = runE V (runE W x)
  | [], _, _ => rfl
  | o :: W, V, x => by show runE (W ++ V) (o.E x) = _; rw [runE_app W V]; rfl
theorem run_lt {n : Nat} : ∀ {W : List Op}, (∀ o ∈ W, o.Ok n) → ∀ {x : Nat}, x < n → runE W x < n
  | [], _, _, h => h
  | o :: W, h, x, hx => run_lt (W := W) (fun q hq => h q (List.mem_cons_of_mem _ hq)) ((h o List.mem_cons_self).lt hx)
theorem rch_run {os : List Op} {i j : Nat} (h : Rch os i j) : ∃ W, (∀ o ∈ W, o ∈ os) ∧ runE W i = j := by
  induction h with
  | here => exact ⟨[], nofun, rfl⟩
  | go r ho ih =>
    obtain ⟨W, h1, h2⟩ := ih
    refine ⟨W ++ [_], fun q hq => ?_, by rw [runE_app, h2]; rfl⟩
    rcases List.mem_append.mp hq with h | h
    · exact h1 q h
    · have := List.mem_singleton.mp h
      rw [this]
      exact ho
/-! ### shares and their places -/
section
variable {n b : Nat} (hb : b < n)
include hb
theorem sh_len : (shD n b).length = n := Nat.le_antisymm (shD_len hb) (len_ge n _ shD_nd fun x hx => (shD_mem hb).mpr hx)
theorem sh_at {i : Nat} (hi : i < n) : ∃ x, (shD n b)[i]? = some x ∧ x < n := by
  have hl : i < (shD n b).length := by rw [sh_len hb]; exact hi
  exact ⟨_, List.getElem?_eq_getElem hl, (shD_mem hb).mp (List.getElem_mem hl)⟩
theorem plc_at {x : Nat} (hx : x < n) : plcOf n b x < n ∧ (shD n b)[plcOf n b x]? = some x := by
  have hm := (shD_mem hb).mpr hx
  have hl : (shD n b).idxOf x < (shD n b).length := List.idxOf_lt_length_of_mem hm
  refine ⟨by rw [sh_len hb] at hl; exact hl, ?_⟩
  show (shD n b)[(shD n b).idxOf x]? = some x
  rw [List.getElem?_eq_getElem hl, List.getElem_idxOf]
theorem plc_of {i x : Nat} (h : (shD n b)[i]? = some x) : plcOf n b x = i := by
  obtain ⟨hi, e⟩ := List.getElem?_eq_some_iff.mp h
  have hx : x < n := (shD_mem hb).mp (by rw [← e]; exact List.getElem_mem hi)
  obtain ⟨h1, h2⟩ := plc_at hb hx
  obtain ⟨h3, h4⟩ := List.getElem?_eq_some_iff.mp h2
  have nd := List.pairwise_iff_getElem.mp (shD_nd (n := n) (b := b))
  rcases Nat.lt_trichotomy (plcOf n b x) i with h5 | h5 | h5
  · exact absurd (h4.trans e.symm) (nd _ _ h3 hi h5)
  · exact h5
  · exact absurd (e.trans h4.symm) (nd _ _ hi h3 h5)
end
/-- where the runs of some operations lead the shares: the table -/
structure ImgOk (n b : Nat) (os : List Op) (T : List (List Nat)) : Prop where
  l : T.length = n
  r : ∀ i x : Nat, (shD n b)[i]? = some x → ∃ W : List Op, (∀ o ∈ W, o ∈ os) ∧ runE W b = x ∧ T[i]? = some ((shD n b).map fun y => plcOf n b (runE W y))
theorem ImgOk.cell {n b : Nat} {os : List Op} {T : List (List Nat)} (h : ImgOk n b os T) (hb : b < n) {i : Nat} {x : Nat} (hx : (shD n b)[i]? = some x) : ∃ W, (∀ o ∈ W, o ∈ os) ∧ runE W b = x ∧ ∀ j y, (shD n b)[j]? = some y → (T.getD i [])[j]? = some (tb T i j) ∧ tb T i j = plcOf n b (runE W y) := by
  obtain ⟨W, h1, h2, h3⟩ := h.r i x hx
  refine ⟨W, h1, h2, fun j y hy => ?_⟩
  have e : T.getD i [] = (shD n b).map fun y => plcOf n b (runE W y) := by rw [List.getD_eq_getElem?_getD, h3]; rfl
  have e2 : (T.getD i [])[j]? = some (plcOf n b (runE W y)) := by rw [e, List.getElem?_map, hy]; rfl
  have e3 : tb T i j = plcOf n b (runE W y) := by unfold tb; rw [List.getD_eq_getElem?_getD (l := T.getD i []), e2]; rfl
  exact ⟨by rw [e2, e3], e3⟩
/-! ### offices that exchange -/
theorem com_ops {s : Sto} (hc : haveClash s = false) {i j : Nat} (hij : i ≠ j) {a b : Op} (ha : a ∈ s.offs.getD i []) (hb : b ∈ s.offs.getD j []) {x : Nat} (hx : x < s.size) : a.E (b.E x) = b.E (a.E x) := by
  have key : ∀ {i j : Nat} {a b : Op}, i < j → a ∈ s.offs.getD i [] → b ∈ s.offs.getD j [] → a.E (b.E x) = b.E (a.E x) := fun {i j a b} h ha hb => by
    cases e : endsClash a b x with
    | false =>
      unfold endsClash at e
      simpa using e
    | true =>
      have := clash_yes h ha hb (List.any_eq_true.mpr ⟨x, List.mem_range.mpr hx, by rw [e]; rfl⟩)
      rw [hc] at this
      cases this
  rcases Nat.lt_or_gt_of_ne hij with h | h
  · exact key h ha hb
  · exact (key h hb ha).symm
/-- operations of offices other than k -/
def OffK (s : Sto) (k : Nat) (W : List Op) : Prop := ∀ o ∈ W, ∃ k', k' ≠ k ∧ o ∈ s.offs.getD k' []
theorem getD_ok {s : Sto} (h : s.Ok) {k : Nat} {o : Op} (ho : o ∈ s.offs.getD k []) : o.Ok s.size := h.op _ (mem_getD ho).2 _ ho
theorem com_one {s : Sto} (h : s.Ok) (hc : haveClash s = false) {k : Nat} {v : Op} (hv : v ∈ s.offs.getD k []) : ∀ {W : List Op}, OffK s k W → ∀ {x : Nat}, x < s.size → runE W (v.E x) = v.E (runE W x)
  | [], _, _, _ => rfl
  | o :: W, hW, x, hx => by
    obtain ⟨k', h1, h2⟩ := hW o List.mem_cons_self
    show runE W (o.E (v.E x)) = v.E (runE W (o.E x))
    rw [com_ops hc h1 h2 hv hx]
    exact com_one h hc hv (W := W) (fun q hq => hW q (List.mem_cons_of_mem _ hq)) ((getD_ok h h2).lt hx)
theorem com_runs {s : Sto} (h : s.Ok) (hc : haveClash s = false) {k : Nat} {W : List Op} (hW : OffK s k W) : ∀ {V : List Op}, (∀ v ∈ V, v ∈ s.offs.getD k []) → ∀ {x : Nat}, x < s.size → runE W (runE V x) = runE V (runE W x)
  | [], _, _, _ => rfl
  | v :: V, hV, x, hx => by
    have hv := hV v List.mem_cons_self
    show runE W (runE V (v.E x)) = runE V (v.E (runE W x))
    rw [com_runs h hc hW (V := V) (fun q hq => hV q (List.mem_cons_of_mem _ hq)) ((getD_ok h hv).lt hx), com_one h hc hv hW hx]
def Lone (s : Sto) (k : Nat) : Prop := ∀ i j, i < s.size → j < s.size → Rch (s.offs.getD k []) i j
theorem uniq {s : Sto} (h : s.Ok) (hc : haveClash s = false) {k : Nat} (hk : Lone s k) {W V : List Op} (hW : OffK s k W) (hV : OffK s k V) {b : Nat} (hb : b < s.size) (e : runE W b = runE V b) {x : Nat} (hx : x < s.size) : runE W x = runE V x := by
  obtain ⟨U, h1, h2⟩ := rch_run (hk b x hb hx)
  rw [← h2, com_runs h hc hW h1 hb, com_runs h hc hV h1 hb, e]
theorem offK_of {s : Sto} {k k' : Nat} (h : k' ≠ k) {W : List Op} (hW : ∀ o ∈ W, o ∈ s.offs.getD k' []) : OffK s k W := fun o ho => ⟨k', h, hW o ho⟩
/-- what the law asks of each operation -/
theorem mul_facts {s : Sto} (h : s.Ok) (hc : haveClash s = false) {b : Nat} (hb : b < s.size) {o0 o1 : Nat} {rest : List Nat} (hl : loneL s = o0 :: o1 :: rest) {T : List (List Nat)} (hT : ImgOk s.size b (s.offs.getD o0 []) T) {k : Nat} {o : Op} (ho : o ∈ s.offs.getD k []) {j y : Nat} (hy : (shD s.size b)[j]? = some y) :
    ∃ L Rr, (T.getD (plcOf s.size b (o.E b)) [])[j]? = some (tb T (plcOf s.size b (o.E b)) j) ∧ (T.getD j [])[plcOf s.size b (o.E b)]? = some (tb T j (plcOf s.size b (o.E b))) ∧ (shD s.size b)[tb T (plcOf s.size b (o.E b)) j]? = some L ∧ (shD s.size b)[tb T j (plcOf s.size b (o.E b))]? = some Rr ∧ (k = o0 → o.E y = L) ∧ (k ≠ o0 → o.E y = Rr) ∧ (L ≠ Rr → (k = o0 ∨ k = o1) ∧ rest = []) := by
  have hoo := getD_ok h ho
  have hob := hoo.lt hb
  have hyn : y < s.size := (shD_mem hb).mp (List.mem_of_getElem? hy)
  have l0 : Lone s o0 := (loneL_mem.mp (by rw [hl]; exact List.mem_cons_self)).2
  have l1 : Lone s o1 := (loneL_mem.mp (by rw [hl]; exact List.mem_cons_of_mem _ List.mem_cons_self)).2
  have nd := loneL_nd (s := s)
  rw [hl] at nd
  have n01 : o0 ≠ o1 := fun e => (List.nodup_cons.mp nd).1 (by rw [e]; exact List.mem_cons_self)
  obtain ⟨W, w1, w2, w3⟩ := hT.cell hb (plc_at hb hob).2
  obtain ⟨V, v1, v2, v3⟩ := hT.cell hb hy
  obtain ⟨a1, a2⟩ := w3 j y hy
  obtain ⟨a3, a4⟩ := v3 _ _ (plc_at hb hob).2
  have wok : ∀ o ∈ W, o.Ok s.size := fun q hq => getD_ok h (w1 q hq)
  have vok : ∀ o ∈ V, o.Ok s.size := fun q hq => getD_ok h (v1 q hq)
  have hs : ∀ q ∈ [o], q ∈ s.offs.getD k [] := fun q hq => by rw [List.mem_singleton.mp hq]; exact ho
  have ea : k = o0 → o.E y = runE W y := fun e => uniq (W := [o]) h hc l1 (offK_of (k' := o0) n01 (by rw [← e]; exact hs)) (offK_of n01 w1) hb (by rw [w2]; rfl) hyn
  have eb : k ≠ o0 → o.E y = runE V (o.E b) := fun e => by
    have := com_one h hc ho (W := V) (offK_of (fun z => e z.symm) v1) hb
    rw [this, v2]
  -- an office that neither of two lone ones is
  have third : ∀ m, Lone s m → m ≠ o0 → k ≠ m → o.E y = runE W y := fun m hm h0 hk => uniq (W := [o]) h hc hm (offK_of hk hs) (offK_of (fun z => h0 z.symm) w1) hb (by rw [w2]; rfl) hyn
  refine ⟨runE W y, runE V (o.E b), a1, a3, ?_, ?_, ea, eb, fun hne => ?_⟩
  · rw [a2]; exact (plc_at hb (run_lt wok hyn)).2
  · rw [a4]; exact (plc_at hb (run_lt vok hob)).2
  · have k01 : k = o0 ∨ k = o1 := by
      by_cases z0 : k = o0
      · exact .inl z0
      · by_cases z1 : k = o1
        · exact .inr z1
        · exact absurd ((third o1 l1 n01.symm z1).symm.trans (eb z0)) hne
    refine ⟨k01, ?_⟩
    cases rest with
    | nil => rfl
    | cons o2 rest =>
      exfalso
      have l2 : Lone s o2 := (loneL_mem.mp (by rw [hl]; exact List.mem_cons_of_mem _ (List.mem_cons_of_mem _ List.mem_cons_self))).2
      have n02 : o0 ≠ o2 := fun e => (List.nodup_cons.mp nd).1 (by rw [e]; exact List.mem_cons_of_mem _ List.mem_cons_self)
      have n12 : o1 ≠ o2 := fun e => (List.nodup_cons.mp (List.nodup_cons.mp nd).2).1 (by rw [e]; exact List.mem_cons_self)
      by_cases z0 : k = o0
      · obtain ⟨U, u1, u2⟩ := rch_run (l2 b (o.E b) hb hob)
        have uo : ∀ x, x < s.size → o.E x = runE U x := fun x hx => uniq (W := [o]) h hc l1 (offK_of (k' := o0) n01 (by rw [← z0]; exact hs)) (offK_of n12.symm u1) hb (by rw [u2]; rfl) hx
        have := com_runs h hc (k := o2) (W := V) (offK_of n02 v1) u1 hb
        rw [u2, v2] at this
        exact hne (by rw [this, ← uo y hyn, ea z0])
      · have z1 : k = o1 := k01.resolve_left z0
        exact hne ((third o2 l2 n02.symm (by rw [z1]; exact n12)).symm.trans (eb z0))
theorem mul_sym {s : Sto} (h : s.Ok) (hc : haveClash s = false) {b : Nat} (hb : b < s.size) {o0 o1 o2 : Nat} {rest : List Nat} (hl : loneL s = o0 :: o1 :: o2 :: rest) {T : List (List Nat)} (hT : ImgOk s.size b (s.offs.getD o0 []) T) {i j : Nat} (hi : i < s.size) (hj : j < s.size) : tb T i j = tb T j i := by
  have l1 : Lone s o1 := (loneL_mem.mp (by rw [hl]; exact List.mem_cons_of_mem _ List.mem_cons_self)).2
  have l2 : Lone s o2 := (loneL_mem.mp (by rw [hl]; exact List.mem_cons_of_mem _ (List.mem_cons_of_mem _ List.mem_cons_self))).2
  have nd := loneL_nd (s := s)
  rw [hl] at nd
  have n01 : o0 ≠ o1 := fun e => (List.nodup_cons.mp nd).1 (by rw [e]; exact List.mem_cons_self)
  have n02 : o0 ≠ o2 := fun e => (List.nodup_cons.mp nd).1 (by rw [e]; exact List.mem_cons_of_mem _ List.mem_cons_self)
  have n12 : o1 ≠ o2 := fun e => (List.nodup_cons.mp (List.nodup_cons.mp nd).2).1 (by rw [e]; exact List.mem_cons_self)
  obtain ⟨x, hx, hxn⟩ := sh_at hb hi
  obtain ⟨y, hy, hyn⟩ := sh_at hb hj
  obtain ⟨W, w1, w2, w3⟩ := hT.cell hb hx
  obtain ⟨V, v1, v2, v3⟩ := hT.cell hb hy
  rw [(w3 j y hy).2, (v3 i x hx).2]
  obtain ⟨U, u1, u2⟩ := rch_run (l2 b y hb hyn)
  have uo : ∀ x, x < s.size → runE V x = runE U x := fun x hx => uniq h hc l1 (offK_of n01 v1) (offK_of n12.symm u1) hb (by rw [u2, v2]) hx
  have := com_runs h hc (k := o2) (W := W) (offK_of n02 w1) u1 hb
  rw [u2, w2] at this
  rw [this, uo x hxn]
/-! ### rows of shares by states -/
def kvJ (p : Nat × List Nat) : Key × D := (.inl (p.1 : Int), .lst (p.2.map dI))
theorem dval_J (e : Nat) : ∀ L : List (Nat × List Nat), (dval (L.map kvJ) (.inl (e : Int)) = none ∧ e ∉ ks2 L) ∨ ∃ r, dval (L.map kvJ) (.inl (e : Int)) = some (.lst (r.map dI)) ∧ (e, r) ∈ L
  | [] => .inl ⟨rfl, by simp [ks2]⟩
  | p :: L => by
    by_cases z : p.1 = e
    · exact .inr ⟨p.2, by simp [dval, kvJ, z], by subst z; exact List.mem_cons_self⟩
    · have e1 : dval ((p :: L).map kvJ) (.inl (e : Int)) = dval (L.map kvJ) (.inl (e : Int)) := by
        unfold dval
        rw [List.map_cons, List.find?_cons_of_neg]
        show ¬ decide ((Sum.inl (p.1 : Int) : Key) = .inl (e : Int)) = true
        intro hd
        have h1 : (p.1 : Int) = (e : Int) := Sum.inl.inj (of_decide_eq_true hd)
        exact z (by omega)
      rw [e1]
      rcases dval_J e L with ⟨a, b⟩ | ⟨y, a, b⟩
      · exact .inl ⟨a, by simp only [ks2, List.map_cons, List.mem_cons]; rintro (h | h); exact z h.symm; exact b h⟩
      · exact .inr ⟨y, a, List.mem_cons_of_mem _ b⟩
theorem dput_J {L : List (Nat × List Nat)} {e : Nat} {r : List Nat} (h : e ∉ ks2 L) : dput (L.map kvJ) (.inl (e : Int)) (.lst (r.map dI)) = (L ++ [(e, r)]).map kvJ := by
  rw [dput_new]
  · rw [List.map_append]; rfl
  · intro hm
    rw [List.map_map] at hm
    obtain ⟨p, hp, e1⟩ := List.mem_map.mp hm
    have e2 : (Sum.inl (p.1 : Int) : Key) = .inl (e : Int) := e1
    have e3 : (p.1 : Int) = (e : Int) := Sum.inl.inj e2
    exact h (List.mem_map.mpr ⟨p, hp, by omega⟩)
theorem in_ksJ {L : List (Nat × List Nat)} {e : Nat} (h : e ∈ ks2 L) : ∃ r, dval (L.map kvJ) (.inl (e : Int)) = some (.lst (r.map dI)) ∧ (e, r) ∈ L := by
  rcases dval_J e L with ⟨a, b⟩ | h2
  · exact absurd h b
  · exact h2
/-- each row is where a run leads the shares -/
def RunsJ (b : Nat) (os : List Op) (sh : List Nat) (L : List (Nat × List Nat)) : Prop := ∀ p ∈ L, ∃ W, (∀ o ∈ W, o ∈ os) ∧ runE W b = p.1 ∧ p.2 = sh.map (runE W)
section
variable {P : Program} {w : World} {K : PySem.W.Frag} {mg : Str → Option Value} {base : Heap}
def P_law_images : DP := fun ds O R _ => ∃ (offs : List (List Op)) (o b n : Nat), ds = [.lst (dOffs offs), dI o, .lst ((shD n b).map dI)] ∧ n ≤ 200 ∧ b < n ∧ o < offs.length ∧ (∀ f ∈ offs, ∀ p ∈ f, p.Ok n) ∧ (∀ j, j < n → Rch (offs.getD o []) b j) ∧
  ∀ T : List (List Nat), ImgOk n b (offs.getD o []) T → R (.lst (T.map dRow)) O
theorem ok_law_images (F : Df K mg "_law_images" (top 77) [] []) (B : Bare mg) : Ok P w K mg base 1 "_law_images" (top 77) [] [] ["_law_offices", "_law_office", "_law_shares"] P_law_images := by
  have S : FnScope ["_law_offices", "_law_office", "_law_shares", "_law_found", "_law_rows", "_law_at", "_law_name", "_law_ends", "_law_answers", "_law_state", "_law_share"] ["_law_offices", "_law_office", "_law_shares"] (defScope (top 77)) := ⟨rfl, rfl, rfl, by decide +kernel, rfl, by decide +kernel, by decide +kernel⟩
  refine fn_mkD F S (fun ds O R Xr ⟨offs, o, b, n, h, _⟩ => (by rw [h]; rfl)) fun f cdv A outer s H E hr Z ds O R Xr ⟨offs, o, b, n, h1, hn2, hb, ho, hops, hrch, h4⟩ tk => ?_
  subst h1
  generalize hos : offs.getD o [] = os at hrch h4
  have hok : ∀ p ∈ os, p.Ok n := fun p hp => by rw [← hos] at hp; exact hops _ (mem_getD hp).2 p hp
  have hsl := sh_len hb
  have h0 : atI ((shD n b).map dI) (0 : Int) = some (dI b) := PD.atI_nat (i := 0) rfl
  have hshn : ∀ x ∈ shD n b, x < n := fun x hx => (shD_mem hb).mp hx
  have hoff : atI (dOffs offs) (o : Int) = some (dOff os) := by rw [off_at2 ho, hos]
  refine sx_cons (s1_asg (ex_tup (ea_cons (ex_disp1 fun pf hm hd => ex_idx (ex_var (i := 2) rfl (ex_int ⟨_, 0, dI b, .inl .fr, rfl, h0, ex_var (i := 2) rfl ⟨.inl (b : Int), rfl, look_hd, ?_⟩⟩))))))
  rw [setO_hd hd]
  refine ea_cons (ex_lstO (ea_cons (ex_idx (ex_var (i := 2) rfl (ex_int ⟨_, 0, dI b, .inl .fr, rfl, h0, ea_nil ⟨by show 1 ≤ 1000000; decide, fun pq hm2 hd2 => ?_⟩⟩)))))
  refine ea_cons (ex_int (ea_nil ⟨by show 3 ≤ 1000000; decide, gx_tup rfl (gxs_cons (gx_name (i := 3) (gxs_cons (gx_name (i := 4) (gxs_cons (gx_name (i := 5) (gxs_nil ?_) S.nd)) S.nd)) S.nd))⟩))
  have hne : pf ≠ pq := fun z => hd2 (by rw [z]; exact List.mem_map.mpr ⟨_, List.mem_cons_self, rfl⟩)
  have hdq : pq ∉ O.map (·.1) := fun z => hd2 (by rw [List.map_cons]; exact List.mem_cons_of_mem _ z)
  let ow : List (Nat × List Nat) → Own := fun L => (pq, .lst ((ks2 L).map dI)) :: (pf, .dct (L.map kvJ)) :: O
  let W : Nat → Slots → Own → Prop := fun m ρ' O' => ∃ (L : List (Nat × List Nat)) (k : Nat) (x y z : Option D), ρ' = [some (.lst (dOffs offs)), some (dI o), some (.lst ((shD n b).map dI)), some (.raw (.ref pf)), some (.raw (.ref pq)), some (dI k), x, y, z, none, none] ∧ O' = ow L ∧ BK n os b (ks2 L) k ∧ RunsJ b os (shD n b) L ∧ m = n - k
  refine sx_cons (s1_while (passes_of rfl) W n ⟨[(b, shD n b)], 0, none, none, none, rfl, rfl, BK.one hb, ?_, rfl⟩ ?_)
  · intro p hp
    have : p = (b, shD n b) := by simpa using hp
    subst this
    exact ⟨[], nofun, rfl, (List.map_id _).symm⟩
  rintro m ρ' O' ⟨L, k, x, y, z, rfl, rfl, bk, rok, rfl⟩
  have hlq : ((ks2 L).map dI).length = (ks2 L).length := List.length_map ..
  refine et_lt (ex_var (i := 5) rfl (ex_len B (ex_var (i := 4) rfl ⟨(ks2 L).map dI, .inl (.ow look_hd), (k : Int), _, rfl, rfl, fun hlt => ?_, fun hge => ?_⟩)))
  · have hk : k < (ks2 L).length := by
      have := of_decide_eq_true hlt
      rw [hlq] at this
      omega
    obtain ⟨r0, hr0⟩ : ∃ r, (ks2 L)[k]? = some r := ⟨_, List.getElem?_eq_getElem hk⟩
    have hmem : r0 ∈ ks2 L := List.mem_of_getElem? hr0
    have hr0n : r0 < n := bk.lt' hmem
    have atq : ∀ L' : List (Nat × List Nat), (ks2 L')[k]? = some r0 → atI ((ks2 L').map dI) (k : Int) = some (dI r0) := fun L' h => PD.atI_nat (by rw [List.getElem?_map, h]; rfl)
    refine sx_cons (s1_for (passes_of rfl) rfl (ix_tup (ex_idx (ex_var (i := 0) rfl (ex_var (i := 1) rfl ⟨_, (o : Int), _, .inl .fr, rfl, hoff, _, rfl, ?_⟩)))))
    refine ⟨fun j ρ' O' => ∃ (L' : List (Nat × List Nat)) (x y z : Option D), ρ' = [some (.lst (dOffs offs)), some (dI o), some (.lst ((shD n b).map dI)), some (.raw (.ref pf)), some (.raw (.ref pq)), some (dI k), x, y, z, none, none] ∧ O' = ow L' ∧ BK n os b (ks2 L') k ∧ RunsJ b os (shD n b) L' ∧ (ks2 L')[k]? = some r0 ∧ ∀ j', j' < j → ∀ p, os[j']? = some p → p.E r0 ∈ ks2 L', ⟨L, x, y, z, rfl, rfl, bk, rok, hr0, nofun⟩, fun _ _ _ _ => trivial, ?_, ?_⟩
    · rintro j d ρ' O' hj ⟨L', x, y, z, rfl, rfl, bk', rok', hk', hcl⟩
      obtain ⟨p, hp, rfl⟩ : ∃ p, os[j]? = some p ∧ d = dOp p := by
        rw [List.getElem?_map] at hj
        obtain ⟨p, a, e⟩ := Option.map_eq_some_iff.mp hj
        exact ⟨p, a, e.symm⟩
      have hpm := List.mem_of_getElem? hp
      have hpo := hok p hpm
      have hin' : r0 ∈ ks2 L' := List.mem_of_getElem? hk'
      obtain ⟨row, hrow1, hrow2⟩ := in_ksJ hin'
      obtain ⟨Wr, wr1, wr2, wr3⟩ := rok' _ hrow2
      have wrok : ∀ q ∈ Wr, q.Ok n := fun q hq => hok q (wr1 q hq)
      have hrowb : ∀ u ∈ row, u < n := fun u hu => by
        have wr3 : row = (shD n b).map (runE Wr) := wr3
        rw [wr3] at hu
        obtain ⟨v, hv, rfl⟩ := List.mem_map.mp hu
        exact run_lt wrok (hshn v hv)
      have hrl : row.length = n := by
        have wr3 : row = (shD n b).map (runE Wr) := wr3
        rw [wr3, List.length_map, hsl]
      have hlen := bk'.len'
      refine gx_tup rfl (gxs_cons (gx_name (i := 6) (gxs_cons (gx_name (i := 7) (gxs_cons (gx_name (i := 8) (gxs_nil ?_) S.nd)) S.nd)) S.nd))
      refine sx_one (s1_if (et_dnotin (hu_of hr) (ex_idx (ex_var (i := 7) rfl (ex_idx (ex_var (i := 4) rfl (ex_var (i := 5) rfl ⟨_, (k : Int), dI r0, .inl (.ow look_hd), rfl, atq L' hk', _, (r0 : Int), _, .inr (.inl rfl), rfl, at_ends hpo hr0n, ex_var (i := 3) rfl ⟨L'.map kvJ, .inl (p.E r0 : Int), .ow (look_2 hne), rfl, fun hnew => ?_, fun hold => ?_⟩⟩)))))))
      · have hn : p.E r0 ∉ ks2 L' := by
          rcases dval_J (p.E r0) L' with ⟨a, b⟩ | ⟨z, a, b⟩
          · exact b
          · rw [a] at hnew; cases hnew
        have hl2 : L'.length ≤ 1000 := by
          have : (ks2 L').length = L'.length := List.length_map ..
          omega
        refine sx_cons (s1_dput (hu_of hr) (ex_map (j := 9) (own := [("_law_state", 9)]) rfl S.nd (blkOk_by (by kernel_rfl)) rfl (fun _ _ => Or.inl rfl) (.inr fun _ _ => rfl) rfl (ix_lst (ex_dget (hu_of hr) (ex_var (i := 3) rfl (ex_idx (ex_var (i := 4) rfl (ex_var (i := 5) rfl ⟨_, (k : Int), dI r0, .inl (.ow look_hd), rfl, atq L' hk', L'.map kvJ, .inl (r0 : Int), _, .ow (look_2 hne), rfl, hrow1, row.map dI, .inl .fr, fun _ _ _ _ => .inl .fr, fun d => dI (p.E (unI d)), ?_, fun s2 H2 C2 cl2 fp2 q d Lp cp hmp hdp hq => ?_, ?_⟩))))))))
        · rw [List.length_map, hrl]; omega
        · obtain ⟨u, hu, rfl⟩ := Option.map_eq_some_iff.mp (by rw [List.getElem?_map] at hq; exact hq)
          have hun := hrowb u (List.mem_of_getElem? hu)
          refine ex_idx (ex_var (i := 7) rfl (ex_var (i := 9) rfl ⟨_, (u : Int), _, .inr (.inl rfl), rfl, at_ends hpo hun, rfl, ?_⟩))
          show dI (p.E u) = dI (p.E (unI (dI u)))
          rw [unI_d]
        · refine ex_var (i := 3) rfl (ex_idx (ex_var (i := 7) rfl (ex_idx (ex_var (i := 4) rfl (ex_var (i := 5) rfl ⟨_, (k : Int), dI r0, .inl (.ow look_hd), rfl, atq L' hk', _, (r0 : Int), _, .inr (.inl rfl), rfl, at_ends hpo hr0n, pf, L'.map kvJ, .inl (p.E r0 : Int), rfl, look_2 hne, rfl, by rw [List.length_map]; omega, ?_⟩)))))
          have erow : (row.map dI).map (fun d => dI (p.E (unI d))) = (row.map p.E).map dI := by
            rw [List.map_map, List.map_map]
            refine List.map_congr_left fun u _ => ?_
            show dI (p.E (unI (dI u))) = dI (p.E u)
            rw [unI_d]
          rw [erow, dput_J hn]
          show SX _ _ _ _ (setO ((pq, OC.lst ((ks2 L').map dI)) :: (pf, OC.dct (L'.map kvJ)) :: O) pf (.dct ((L' ++ [(p.E r0, row.map p.E)]).map kvJ))) _
          rw [setO_2 hne hd]
          refine sx_one (s1_expr (ex_append (ex_var (i := 4) rfl ⟨pq, _, rfl, look_hd, ex_idx (ex_var (i := 7) rfl (ex_idx (ex_var (i := 4) rfl (ex_var (i := 5) rfl ⟨_, (k : Int), dI r0, .inl (.ow look_hd), rfl, atq L' hk', _, (r0 : Int), _, .inr (.inl rfl), rfl, at_ends hpo hr0n, _, look_hd, by rw [List.length_map]; omega, ?_⟩))))⟩)))
          rw [setO_hd (by rw [List.map_cons]; intro hx; rcases List.mem_cons.mp hx with hx | hx; exact hne hx.symm; exact hdq hx)]
          have ek : ks2 (L' ++ [(p.E r0, row.map p.E)]) = ks2 L' ++ [p.E r0] := by simp [ks2]
          refine ⟨L' ++ [(p.E r0, row.map p.E)], _, _, _, rfl, ?_, ?_, ?_, ?_, ?_⟩
          · show _ = (pq, OC.lst ((ks2 (L' ++ [(p.E r0, row.map p.E)])).map dI)) :: _
            rw [ek, List.map_append (f := dI)]
            rfl
          · rw [ek]
            exact bk'.push hn (hpo.lt hr0n) (.go (bk'.rc' hin') hpm)
          · intro q hq
            rcases List.mem_append.mp hq with hq | hq
            · exact rok' q hq
            · have : q = (p.E r0, row.map p.E) := by simpa using hq
              subst this
              refine ⟨Wr ++ [p], fun q hq => ?_, by rw [runE_app, wr2]; rfl, ?_⟩
              · rcases List.mem_append.mp hq with h | h
                · exact wr1 q h
                · rw [List.mem_singleton.mp h]; exact hpm
              · have wr3 : row = (shD n b).map (runE Wr) := wr3
                show row.map p.E = _
                rw [wr3, List.map_map]
                refine List.map_congr_left fun u _ => ?_
                rw [runE_app]
                rfl
          · rw [ek, List.getElem?_append_left (List.getElem?_eq_some_iff.mp hk').1]
            exact hk'
          · intro j' hj' o' ho'
            rw [ek]
            by_cases e : j' = j
            · subst e
              rw [hp] at ho'
              cases ho'
              exact List.mem_append_right _ (by simp)
            · exact List.mem_append_left _ (hcl j' (by omega) o' ho')
      · refine sx_nil ⟨L', _, _, _, rfl, rfl, bk', rok', hk', ?_⟩
        have hn : p.E r0 ∈ ks2 L' := by
          rcases dval_J (p.E r0) L' with ⟨a, b⟩ | ⟨z, a, b⟩
          · rw [a] at hold; cases hold
          · exact List.mem_map.mpr ⟨_, b, rfl⟩
        intro j' hj' o' ho'
        by_cases e : j' = j
        · subst e
          rw [hp] at ho'
          cases ho'
          exact hn
        · exact hcl j' (by omega) o' ho'
    · rintro ρ' O' ⟨L', x, y, z, rfl, rfl, bk', rok', hk', hcl⟩
      have hlen := bk'.len'
      have hkl := (List.getElem?_eq_some_iff.mp hk').1
      refine sx_one (s1_set (i := 5) S.nd (ex_add (ex_var (i := 5) rfl (ex_int ⟨(k : Int), 1, rfl, rfl, ?_⟩))))
      refine ⟨n - (k + 1), by omega, L', k + 1, _, _, _, rfl, rfl, bk'.next hk' ?_, rok', rfl⟩
      intro p hp
      obtain ⟨j', hj', ej⟩ := List.mem_iff_getElem.mp hp
      exact hcl j' (by rw [List.length_map]; exact hj') p (by rw [List.getElem?_eq_getElem hj', ej])
  · have hk : k = (ks2 L).length := by
      have := of_decide_eq_false hge
      rw [hlq] at this
      have := bk.le'
      omega
    have hall : ∀ x, x < n → ∃ r Wr, dval (L.map kvJ) (.inl (x : Int)) = some (.lst (r.map dI)) ∧ (∀ q ∈ Wr, q ∈ os) ∧ runE Wr b = x ∧ r = (shD n b).map (runE Wr) := fun x hx => by
      obtain ⟨r, h1, h2⟩ := in_ksJ ((bk.all' hk x).mpr (hrch x hx))
      obtain ⟨Wr, a1, a2, a3⟩ := rok _ h2
      exact ⟨r, Wr, h1, a1, a2, a3⟩
    let Wf : Nat → List Op := fun x => if h : x < n then (hall x h).choose_spec.choose else []
    have hWf : ∀ x, x < n → dval (L.map kvJ) (.inl (x : Int)) = some (.lst (((shD n b).map (runE (Wf x))).map dI)) ∧ (∀ q ∈ Wf x, q ∈ os) ∧ runE (Wf x) b = x := fun x hx => by
      have e : Wf x = (hall x hx).choose_spec.choose := dif_pos hx
      rw [e]
      obtain ⟨a1, a2, a3, a4⟩ := (hall x hx).choose_spec.choose_spec
      exact ⟨a1.trans (congrArg (fun l : List Nat => some (D.lst (l.map dI))) a4), a2, a3⟩
    let rowN : Nat → List Nat := fun x => (shD n b).map fun y => plcOf n b (runE (Wf x) y)
    refine sx_one (s1_ret (ex_drop (ex_map (j := 10) (own := [("_law_share", 10)]) rfl S.nd (blkOk_by (by kernel_rfl)) rfl (fun _ _ => Or.inl rfl) (.inr fun _ _ => rfl) rfl (ix_lst (ex_var (i := 2) rfl ⟨_, .inl .fr, fun _ _ _ _ => .inl .fr, fun d => dRow (rowN (unI d)), ?_, fun s2 H2 C2 cl2 fp2 q d Lp cp hmp hdp hq => ?_, ?_⟩)))))
    · rw [List.length_map, hsl]; omega
    · obtain ⟨x, hx, rfl⟩ := Option.map_eq_some_iff.mp (by rw [List.getElem?_map] at hq; exact hq)
      have hxn := hshn x (List.mem_of_getElem? hx)
      obtain ⟨g1, g2, g3⟩ := hWf x hxn
      have gok : ∀ q ∈ Wf x, q.Ok n := fun q hq => hok q (g2 q hq)
      have hne3 : pf ≠ Lp := fun e => hdp (by rw [← e]; exact List.mem_cons_of_mem _ List.mem_cons_self)
      refine ex_map (j := 9) (own := [("_law_state", 9)]) rfl S.nd (blkOk_by (by kernel_rfl)) rfl (fun _ _ => Or.inl rfl) (.inr fun _ _ => rfl) rfl (ix_lst (ex_dget (hu_of hr) (ex_var (i := 3) rfl (ex_var (i := 10) rfl ⟨L.map kvJ, .inl (x : Int), _, .ow (look_tl hne3 (look_2 hne)), rfl, g1, _, .inl .fr, fun _ _ _ _ => .inl .fr, fun d => dI (plcOf n b (unI d)), ?_, fun s3 H3 C3 cl3 fp3 q3 d3 Lp3 cp3 hmp3 hdp3 hq3 => ?_, ?_⟩))))
      · rw [List.length_map, List.length_map, hsl]; omega
      · obtain ⟨v, hv, rfl⟩ := Option.map_eq_some_iff.mp (by rw [List.getElem?_map] at hq3; exact hq3)
        have hvn : v < n := by
          obtain ⟨y, hy, rfl⟩ := Option.map_eq_some_iff.mp (by rw [List.getElem?_map] at hv; exact hv)
          exact run_lt gok (hshn y (List.mem_of_getElem? hy))
        obtain ⟨p1, p2⟩ := plc_at hb hvn
        refine ex_indexI (ex_var (i := 2) rfl ⟨(shD n b).map fun k : Nat => (k : Int), .inl (by rw [dI_int]), ex_var (i := 9) rfl ⟨(v : Int), plcOf n b v, rfl, .inl (by rw [dI_int]), by rw [List.getElem?_map, p2]; rfl, fun m hm he => ?_, rfl, ?_⟩⟩)
        · rw [List.getElem?_map] at he
          obtain ⟨u, hu, e⟩ := Option.map_eq_some_iff.mp he
          have : u = v := by omega
          subst this
          have := plc_of hb hu
          omega
        · show dI (plcOf n b v) = dI (plcOf n b (unI (dI v)))
          rw [unI_d]
      · refine ⟨rfl, ?_⟩
        show D.lst ((((shD n b).map (runE (Wf x))).map dI).map fun d => dI (plcOf n b (unI d))) = dRow (rowN (unI (dI x)))
        rw [unI_d, List.map_map, List.map_map]
        show _ = D.lst (((shD n b).map fun y => plcOf n b (runE (Wf x) y)).map dI)
        rw [List.map_map]
        refine congrArg D.lst (List.map_congr_left fun y _ => ?_)
        show dI (plcOf n b (unI (dI (runE (Wf x) y)))) = dI (plcOf n b (runE (Wf x) y))
        rw [unI_d]
    · refine ⟨O, (List.sublist_cons_self _ _).trans (List.sublist_cons_self _ _), ?_⟩
      have e : ((shD n b).map dI).map (fun d => dRow (rowN (unI d))) = ((shD n b).map rowN).map dRow := by
        rw [List.map_map, List.map_map]
        refine List.map_congr_left fun x _ => ?_
        show dRow (rowN (unI (dI x))) = dRow (rowN x)
        rw [unI_d]
      rw [e]
      refine h4 _ ⟨by rw [List.length_map, hsl], fun i x hx => ?_⟩
      have hxn := hshn x (List.mem_of_getElem? hx)
      obtain ⟨g1, g2, g3⟩ := hWf x hxn
      exact ⟨Wf x, g2, g3, by rw [List.getElem?_map, hx]; rfl⟩
end
end K76

set_option Elab.async false
set_option linter.all false
set_option autoImplicit false
set_option maxRecDepth 100000
set_option maxHeartbeats 600000
/-! k76, part ZC: whether all is multiplied. -/
namespace K76
open PySem PySem.Spec L2 PD
open PyProof.Rows hiding St
theorem dval_mem {α : Type} (kv : α → Key × D) : ∀ {l : List α} {a : α}, (l.map fun x => (kv x).1).Nodup → a ∈ l → dval (l.map kv) (kv a).1 = some (kv a).2
  | [], _, _, h => by cases h
  | x :: l, a, nd, h => by
    rw [List.map_cons, List.nodup_cons] at nd
    by_cases z : (kv x).1 = (kv a).1
    · have e : a = x := by
        rcases List.mem_cons.mp h with h | h
        · exact h
        · exact absurd (List.mem_map.mpr ⟨a, h, z.symm⟩) nd.1
      subst e
      simp [dval]
    · have hm : a ∈ l := by
        rcases List.mem_cons.mp h with h | h
        · exact absurd (by rw [h]) z
        · exact h
      have e1 : dval ((x :: l).map kv) (kv a).1 = dval (l.map kv) (kv a).1 := by
        unfold dval
        rw [List.map_cons, List.find?_cons_of_neg]
        simpa using z
      rw [e1]
      exact dval_mem kv nd.2 hm
theorem dval_M {s : Sto} (h : s.Ok) {b : Nat} {o : Op} (ho : o ∈ s.ops) : dval (s.ops.map (kvM s b)) (.inr o.name) = some (dI (plcOf s.size b (o.E b))) := by
  refine dval_mem (kvM s b) ?_ ho
  have e : (s.ops.map fun x => (kvM s b x).1) = (s.ops.map Op.name).map (Sum.inr : Str → Key) := by rw [List.map_map]; rfl
  rw [e, List.Nodup, List.pairwise_map]
  exact h.nd.imp fun h e => h (Sum.inr.inj e)
/-! squares as data -/
def pyRow (r : List Nat) : PyData := .list ((r.map fun k : Nat => (k : Int)).map .int)
def pyT (T : List (List Nat)) : PyData := .list (T.map pyRow)
theorem py_row (r : List Nat) : (dRow r).py = some (pyRow r) := by
  show (D.lst (r.map dI)).py = _
  rw [dI_int]
  exact py_lints _
theorem pys_rows : ∀ T : List (List Nat), D.pys (T.map dRow) = some (T.map pyRow)
  | [] => rfl
  | r :: T => by
    have h1 := py_row r
    have h2 := pys_rows T
    simp only [List.map_cons, D.pys, h1, h2]
    rfl
theorem py_T (T : List (List Nat)) : (D.lst (T.map dRow)).py = some (pyT T) := by
  show (D.pys (T.map dRow)).map _ = _
  rw [pys_rows]
  rfl
theorem lay_rows : ∀ T : List (List Nat), PyData.canLayAll0 (T.map pyRow) = true
  | [] => rfl
  | r :: T => by
    have h := lay_ints (r.map fun k : Nat => (k : Int))
    rw [List.map_cons, PyData.canLayAll0, lay_rows T]
    show (PyData.canLayAll0 _ && true) = true
    rw [h]
    rfl
theorem dep_row (r : List Nat) : (pyRow r).depth = 1 := by
  simp only [pyRow, PyData.depth, dep_ints]
theorem dep_rows : ∀ T : List (List Nat), PyData.depthAll (T.map pyRow) ≤ 1
  | [] => Nat.zero_le _
  | r :: T => by
    rw [List.map_cons, PyData.depthAll, dep_row]
    exact Nat.max_le.mpr ⟨Nat.le_refl _, dep_rows T⟩
theorem shp_T (T : List (List Nat)) : SeqAt.shaped (pyT T) = true := by
  have h := dep_rows T
  have h2 := lay_rows T
  simp only [pyT, SeqAt.shaped, PyData.canLay0, PyData.depth, h2, Bool.true_and]
  exact decide_eq_true (by omega)
theorem eqv_rows : ∀ T : List (List Nat), PyData.eqvAll (T.map pyRow) (T.map pyRow) = true
  | [] => rfl
  | r :: T => by
    have h : PyData.eqv (pyRow r) (pyRow r) = true := by
      show PyData.eqv (.list _) (.list _) = true
      rw [eqv_lints]
      exact decide_eq_true rfl
    rw [List.map_cons, PyData.eqvAll, h, eqv_rows T]
    rfl
theorem eqv_T (T : List (List Nat)) : PyData.eqv (pyT T) (pyT T) = true := by
  show PyData.eqv (.list _) (.list _) = true
  rw [PyData.eqv]
  exact eqv_rows T
theorem img_len {n b : Nat} {os : List Op} {T : List (List Nat)} (h : ImgOk n b os T) (hb : b < n) {i : Nat} (hi : i < n) : T[i]? = some (T.getD i []) ∧ (T.getD i []).length = n := by
  obtain ⟨x, hx, _⟩ := sh_at hb hi
  obtain ⟨W, _, _, h3⟩ := h.r i x hx
  have e : T.getD i [] = (shD n b).map fun y => plcOf n b (runE W y) := by rw [List.getD_eq_getElem?_getD, h3]; rfl
  exact ⟨by rw [h3, e], by rw [e, List.length_map, sh_len hb]⟩
theorem tr_eq {n : Nat} {T : List (List Nat)} (hl : T.length = n) (hr : ∀ i, i < n → T[i]? = some (T.getD i []) ∧ (T.getD i []).length = n) (hs : ∀ i j, i < n → j < n → tb T i j = tb T j i) : ((List.range n).map fun j => T.map fun row => row.getD j 0) = T := by
  refine List.ext_getElem (by rw [List.length_map, List.length_range, hl]) fun j h1 h2 => ?_
  rw [List.length_map, List.length_range] at h1
  rw [List.getElem_map, List.getElem_range]
  obtain ⟨g1, g2⟩ := hr j h1
  have e : T[j] = T.getD j [] := by
    rw [List.getElem?_eq_getElem h2] at g1
    exact Option.some.inj g1
  rw [e]
  refine List.ext_getElem (by rw [List.length_map, hl, g2]) fun i h3 h4 => ?_
  rw [List.length_map, hl] at h3
  rw [List.getElem_map]
  have e2 : T[i]'(by omega) = T.getD i [] := by
    have := (hr i h3).1
    rw [List.getElem?_eq_getElem (by omega)] at this
    exact Option.some.inj this
  rw [e2]
  have h5 := hs i j h3 h1
  unfold tb at h5
  rw [h5, List.getD_eq_getElem?_getD (l := T.getD j []), List.getElem?_eq_getElem h4]
  rfl
section
variable {P : Program} {w : World} {K : PySem.W.Frag} {mg : Str → Option Value} {base : Heap}
def P_multiplied : DP := fun ds O R _ => ∃ (s : Sto) (b : Nat) (d4 : D), ds = [.lst (dOffs s.offs), .lst ((loneL s).map dI), .lst ((shD s.size b).map dI), d4] ∧ DcAt O d4 (s.ops.map (kvM s b)) ∧ s.Ok ∧ haveClash s = false ∧ 2 ≤ (loneL s).length ∧ b < s.size ∧ R (.bl true) O
theorem ok_law_multiplied (F : Df K mg "_law_multiplied" (top 78) [] []) (B : Bare mg) (I : Ok P w K mg base 1 "_law_images" (top 77) [] [] ["_law_offices", "_law_office", "_law_shares"] P_law_images) :
    Ok P w K mg base 2 "_law_multiplied" (top 78) [] [] ["_law_offices", "_law_lone", "_law_shares", "_law_told_here"] P_multiplied := by
  have S : FnScope ["_law_offices", "_law_lone", "_law_shares", "_law_told_here", "_law_table_here", "_law_office", "_law_name", "_law_ends", "_law_answers", "_law_own", "_law_one", "_law_left", "_law_right", "_law_row", "_law_at"] ["_law_offices", "_law_lone", "_law_shares", "_law_told_here"] (defScope (top 78)) := ⟨rfl, rfl, rfl, by decide +kernel, rfl, by decide +kernel, by decide +kernel⟩
  refine fn_mkD F S (fun ds O R Xr ⟨s, b, d4, h, _⟩ => (by rw [h]; rfl)) fun f cdv A outer s H E hr Z ds O R Xr ⟨t, b, d4, h1, hdc, ht, hc, hl2, hb, h4⟩ tk => ?_
  subst h1
  obtain ⟨o0, o1, rest, hl⟩ : ∃ o1 o2 l, loneL t = o1 :: o2 :: l := by
    cases e : loneL t with
    | nil => rw [e] at hl2; simp at hl2
    | cons a l =>
      cases l with
      | nil => rw [e] at hl2; simp at hl2
      | cons b l => exact ⟨a, b, l, rfl⟩
  obtain ⟨m0, l0⟩ := loneL_mem.mp (by rw [hl]; exact List.mem_cons_self : o0 ∈ loneL t)
  have hn2 := ht.n2
  have ho2 := ht.o2
  have hlo : (dOffs t.offs).length = t.offs.length := List.length_map ..
  have hsl := sh_len hb
  have hat0 : atI ((loneL t).map dI) (0 : Int) = some (dI o0) := by rw [hl]; exact PD.atI_nat (i := 0) rfl
  refine sx_cons (s1_set (i := 4) S.nd (ex_fn I (by decide) hr (fun _ _ _ _ _ _ us hl => match us, hl with | [_, _, _], _ => rfl) tkd0 (ea_cons (ex_var (i := 0) rfl (ea_cons (ex_idx (ex_var (i := 1) rfl (ex_int ⟨_, 0, dI o0, .inl .fr, rfl, hat0, ea_cons (ex_var (i := 2) rfl (ea_nil ⟨t.offs, o0, b, t.size, rfl, hn2, hb, m0, ht.op, fun j hj => l0 b j hb hj, fun T hT => ?_⟩))⟩))))))))
  have hTr := fun i (hi : i < t.size) => img_len hT hb hi
  have atT : ∀ i, i < t.size → atI (T.map dRow) (i : Int) = some (dRow (T.getD i [])) := fun i hi => PD.atI_nat (by rw [List.getElem?_map, (hTr i hi).1]; rfl)
  let V0 : Slots := [some (.lst (dOffs t.offs)), some (.lst ((loneL t).map dI)), some (.lst ((shD t.size b).map dI)), some d4, some (.lst (T.map dRow)), none, none, none, none, none, none, none, none, none, none]
  refine sx_cut (fun ρ' O' => Fewer V0 ρ' ∧ O = O') ?_ ?_
  · refine s1_forF V0 (passes_of rfl) rfl (by repeat (first | exact Fewer.refl _ | exact Fewer.nil | refine Fewer.cons ?_ | refine Fewer.skip ?_)) (ix_range1 (B _ (by decide)) (ex_len B (ex_var (i := 0) rfl ⟨_, .inl .fr, _, rfl, by omega, by omega, ?_⟩)))
    refine ⟨fun _ O' => O = O', rfl, fun _ _ _ => trivial, ?_, fun O' e ρ' hf => ⟨hf, e⟩⟩
    rintro k d O' hk rfl
    obtain ⟨hkm, rfl⟩ := range_at hk
    rw [Int.toNat_natCast, hlo] at hkm
    refine gx_name (i := 5) ?_ S.nd
    let V1 : Slots := [some (.lst (dOffs t.offs)), some (.lst ((loneL t).map dI)), some (.lst ((shD t.size b).map dI)), some d4, some (.lst (T.map dRow)), some (dI k), none, none, none, none, none, none, none, none, none]
    refine sx_one (s1_forF V1 (passes_of rfl) rfl (by repeat (first | exact Fewer.refl _ | exact Fewer.nil | refine Fewer.cons ?_ | refine Fewer.skip ?_)) (ix_tup (ex_idx (ex_var (i := 0) rfl (ex_var (i := 5) rfl ⟨_, (k : Int), _, .inl .fr, rfl, off_at2 hkm, _, rfl, ?_⟩)))))
    refine ⟨fun _ O' => O = O', rfl, fun _ _ _ => trivial, ?_, fun O' e ρ' hf => ⟨Fewer.trans (by repeat (first | exact Fewer.refl _ | exact Fewer.nil | refine Fewer.cons ?_ | refine Fewer.skip ?_)) hf, e⟩⟩
    rintro q d O' hq rfl
    obtain ⟨o, ho, rfl⟩ := Option.map_eq_some_iff.mp (by rw [List.getElem?_map] at hq; exact hq)
    have hom := List.mem_of_getElem? ho
    have hoo := getD_ok ht hom
    have hob := hoo.lt hb
    have hops : o ∈ t.ops := List.mem_flatten.mpr ⟨_, (mem_getD hom).2, hom⟩
    obtain ⟨pn, pa⟩ := plc_at hb hob
    refine gx_tup rfl (gxs_cons (gx_name (i := 6) (gxs_cons (gx_name (i := 7) (gxs_cons (gx_name (i := 8) (gxs_nil ?_) S.nd)) S.nd)) S.nd))
    refine sx_cons (s1_set (i := 9) S.nd (ex_dget (hu_of hr) (ex_var (i := 3) rfl (ex_var (i := 6) rfl ⟨_, .inr o.name, _, hdc, rfl, dval_M ht hops, ?_⟩))))
    let V2 : Slots := [some (.lst (dOffs t.offs)), some (.lst ((loneL t).map dI)), some (.lst ((shD t.size b).map dI)), some d4, some (.lst (T.map dRow)), some (dI k), some (.str o.name), some (.tup (o.ends.map dI)), some (.tup (o.ans.map D.int)), some (dI (plcOf t.size b (o.E b))), none, none, none, none, none]
    refine sx_one (s1_forF V2 (passes_of rfl) rfl (by repeat (first | exact Fewer.refl _ | exact Fewer.nil | refine Fewer.cons ?_ | refine Fewer.skip ?_)) (ix_range1 (B _ (by decide)) (ex_len B (ex_var (i := 2) rfl ⟨_, .inl .fr, _, rfl, by rw [List.length_map, hsl]; omega, by rw [List.length_map, hsl]; omega, ?_⟩))))
    refine ⟨fun _ O' => O = O', rfl, fun _ _ _ => trivial, ?_, fun O' e ρ' hf => ⟨Fewer.trans (by repeat (first | exact Fewer.refl _ | exact Fewer.nil | refine Fewer.cons ?_ | refine Fewer.skip ?_)) hf, e⟩⟩
    rintro j d O' hj rfl
    obtain ⟨hjn, rfl⟩ := range_at hj
    rw [Int.toNat_natCast, List.length_map, hsl] at hjn
    obtain ⟨y, hy, hyn⟩ := sh_at hb hjn
    obtain ⟨L, Rr, f1, f2, f3, f4, f5, f6, f7⟩ := mul_facts ht hc hb hl hT hom hy
    refine gx_name (i := 10) ?_ S.nd
    have atS : ∀ {i x : Nat}, (shD t.size b)[i]? = some x → atI ((shD t.size b).map dI) (i : Int) = some (dI x) := fun h => PD.atI_nat (by rw [List.getElem?_map, h]; rfl)
    have atR : ∀ {i j x : Nat}, (T.getD i [])[j]? = some x → atI ((T.getD i []).map dI) (j : Int) = some (dI x) := fun h => PD.atI_nat (by rw [List.getElem?_map, h]; rfl)
    refine sx_cons (s1_par2 (i := 11) (j := 12) rfl S.nd (by decide) (ea_cons (ex_idx (ex_var (i := 2) rfl (ex_idx (ex_idx (ex_var (i := 4) rfl (ex_var (i := 9) rfl ⟨_, (plcOf t.size b (o.E b) : Int), _, .inl .fr, rfl, atT _ pn, ex_var (i := 10) rfl ⟨_, (j : Int), _, .inl .fr, rfl, atR f1, _, (tb T (plcOf t.size b (o.E b)) j : Int), _, .inl .fr, rfl, atS f3, ?_⟩⟩))))))))
    refine ea_cons (ex_idx (ex_var (i := 2) rfl (ex_idx (ex_idx (ex_var (i := 4) rfl (ex_var (i := 10) rfl ⟨_, (j : Int), _, .inl .fr, rfl, atT _ hjn, ex_var (i := 9) rfl ⟨_, (plcOf t.size b (o.E b) : Int), _, .inl .fr, rfl, atR f2, _, (tb T j (plcOf t.size b (o.E b)) : Int), _, .inl .fr, rfl, atS f4, ea_nil ⟨_, _, rfl, ?_⟩⟩⟩))))))
    let V3 : Slots := [some (.lst (dOffs t.offs)), some (.lst ((loneL t).map dI)), some (.lst ((shD t.size b).map dI)), some d4, some (.lst (T.map dRow)), some (dI k), some (.str o.name), some (.tup (o.ends.map dI)), some (.tup (o.ans.map D.int)), some (dI (plcOf t.size b (o.E b))), some (dI j), some (dI L), some (dI Rr), none, none]
    refine sx_cut (fun ρ' O' => ρ' = V3 ∧ O = O') ?_ ?_
    · refine s1_if (et_neI (ex_idx (ex_var (i := 7) rfl (ex_idx (ex_var (i := 2) rfl (ex_var (i := 10) rfl ⟨_, (j : Int), _, .inl .fr, rfl, atS hy, _, (y : Int), _, .inr (.inl rfl), rfl, at_ends hoo hyn, ex_if (et_eqI (ex_var (i := 5) rfl (ex_idx (ex_var (i := 1) rfl (ex_int ⟨_, 0, dI o0, .inl .fr, rfl, hat0, (k : Int), (o0 : Int), rfl, rfl, fun h => ex_var (i := 11) rfl ⟨(o.E y : Int), (L : Int), rfl, rfl, fun h2 => ?_, fun _ => sx_nil ⟨rfl, rfl⟩⟩, fun h => ex_var (i := 12) rfl ⟨(o.E y : Int), (Rr : Int), rfl, rfl, fun h2 => ?_, fun _ => sx_nil ⟨rfl, rfl⟩⟩⟩)))))⟩))))))
      · have e := f5 (by have := of_decide_eq_true h; omega)
        rw [e, decide_eq_true rfl] at h2
        cases h2
      · have e := f6 (by have := of_decide_eq_false h; omega)
        rw [e, decide_eq_true rfl] at h2
        cases h2
    · rintro ρ' O' ⟨rfl, rfl⟩
      refine sx_one (s1_if (et_and (et_neI (ex_var (i := 11) rfl (ex_var (i := 12) rfl ⟨(L : Int), (Rr : Int), rfl, rfl, fun _ => ⟨nofun, fun _ => sx_nil ⟨(by repeat (first | exact Fewer.refl _ | exact Fewer.nil | refine Fewer.cons ?_ | refine Fewer.skip ?_)), rfl⟩⟩, fun h => ew_and1 ?_⟩)))))
      obtain ⟨k01, hrest⟩ := f7 (fun e => by rw [e, decide_eq_true rfl] at h; cases h)
      subst hrest
      have hcut : PD.cutD ((loneL t).map dI) none (some (2 : Int)) = ([o0, o1].map fun k : Nat => (k : Int)).map D.int := by
        rw [show (2 : Int) = ((2 : Nat) : Int) from rfl, cut_to (by rw [hl]; show 2 ≤ 2; decide), hl]
        rfl
      refine et_or (et_cmp op_notIn_seq (ex_var (i := 5) rfl (ex_slice sl_list (ex_var (i := 1) rfl (show EX _ _ _ _ _ _ from ex_int ⟨2, rfl, sl_L (.inl .fr) (bt_notInI (ns := [o0, o1].map fun k : Nat => (k : Int)) (.inl (.inl (by rw [hcut]))) ⟨fun h => ?_, fun _ => ?_⟩)⟩)))))
      · rw [mem_dI, decide_eq_true] at h
        · cases h
        · rcases k01 with e | e <;> rw [e] <;> simp
      · refine ew_or1 (et_gt (ex_len B (ex_var (i := 1) rfl ⟨_, .inl .fr, ex_int ⟨_, 2, rfl, rfl, fun h => ?_, fun _ => sx_nil ⟨(by repeat (first | exact Fewer.refl _ | exact Fewer.nil | refine Fewer.cons ?_ | refine Fewer.skip ?_)), rfl⟩⟩⟩)))
        rw [List.length_map, hl] at h
        have := of_decide_eq_true h
        have e : (([o0, o1] : List Nat).length : Int) = 2 := rfl
        omega
  rintro ρ' O' ⟨hf, rfl⟩
  refine SX.fewer ?_ hf (List.Sublist.refl _)
  refine sx_one (s1_ret (ex_or (ex_lt (ex_len B (ex_var (i := 1) rfl ⟨_, .inl .fr, ex_int ⟨_, 3, rfl, rfl, _, rfl, fun _ => h4, fun hge => ?_⟩⟩)))))
  have h3 : ∃ o2 r2, rest = o2 :: r2 := by
    have h5 := of_decide_eq_false hge
    rw [List.length_map, hl] at h5
    cases rest with
    | nil => exact absurd (show ((2 : Nat) : Int) < 3 by decide) h5
    | cons a l => exact ⟨a, l, rfl⟩
  obtain ⟨o2, r2, rfl⟩ := h3
  have hsym : ∀ i j, i < t.size → j < t.size → tb T i j = tb T j i := fun i j hi hj => mul_sym ht hc hb hl hT hi hj
  have hcol : ∀ row ∈ T, row.length = t.size := fun row hrow => by
    obtain ⟨i, hi, e⟩ := List.mem_iff_getElem.mp hrow
    rw [hT.l] at hi
    obtain ⟨g1, g2⟩ := hTr i hi
    rw [List.getElem?_eq_getElem (by rw [hT.l]; exact hi)] at g1
    rw [← e, Option.some.inj g1]
    exact g2
  let rowD : D → List Nat := fun d => match d with | .lst l => l.map unI | _ => []
  have rowD_d : ∀ r : List Nat, rowD (dRow r) = r := fun r => map_id' dI unI unI_d r
  refine ex_one (ex_cmp (op_eqD hr.units) (ex_var (i := 4) rfl (ex_map (j := 14) (own := [("_law_at", 14)]) rfl S.nd (blkOk_by (by kernel_rfl)) rfl (fun _ _ => Or.inr rfl) (.inl rfl) rfl (ix_range1 (B _ (by decide)) (ex_len B (ex_var (i := 2) rfl ⟨_, .inl .fr, _, rfl, by rw [List.length_map, hsl]; omega, by rw [List.length_map, hsl]; omega, fun _ _ _ _ => trivial, fun d => dRow (T.map fun row => row.getD (unI d) 0), ?_, fun s2 H2 C2 cl2 fp2 q d Lp cp hmp hdp hq => ?_, ?_⟩))))))
  · rw [range_len, List.length_map, hsl]; omega
  · obtain ⟨hqn, rfl⟩ := range_at hq
    rw [Int.toNat_natCast, List.length_map, hsl] at hqn
    refine ex_map (j := 13) (own := [("_law_row", 13)]) rfl S.nd (blkOk_by (by kernel_rfl)) rfl (fun _ _ => Or.inl rfl) (.inr fun _ _ => rfl) rfl (ix_lst (ex_var (i := 4) rfl ⟨_, .inl .fr, fun _ _ _ _ => .inl .fr, fun d => dI ((rowD d).getD q 0), ?_, fun s3 H3 C3 cl3 fp3 q3 d3 Lp3 cp3 hmp3 hdp3 hq3 => ?_, ?_⟩))
    · rw [List.length_map, hT.l]; omega
    · obtain ⟨row, hrow, rfl⟩ := Option.map_eq_some_iff.mp (by rw [List.getElem?_map] at hq3; exact hq3)
      have hrl := hcol row (List.mem_of_getElem? hrow)
      refine ex_idx (ex_var (i := 13) rfl (ex_var (i := 14) rfl ⟨row.map dI, (q : Int), dI (row.getD q 0), .inl .fr, rfl, PD.atI_nat ?_, rfl, ?_⟩))
      · rw [List.getElem?_map, List.getD_eq_getElem?_getD, List.getElem?_eq_getElem (by omega)]
        rfl
      · show dI (row.getD q 0) = dI ((rowD (dRow row)).getD q 0)
        rw [rowD_d]
    · refine ⟨rfl, ?_⟩
      show D.lst ((T.map dRow).map fun d => dI ((rowD d).getD q 0)) = D.lst ((T.map fun row => row.getD (unI (dI q)) 0).map dI)
      rw [List.map_map, List.map_map, unI_d]
      refine congrArg D.lst (List.map_congr_left fun row _ => ?_)
      show dI ((rowD (dRow row)).getD q 0) = dI (row.getD q 0)
      rw [rowD_d]
  · have e : (rangeD 0 (((shD t.size b).map dI).length : Int).toNat).map (fun d => dRow (T.map fun row => row.getD (unI d) 0)) = T.map dRow := by
      rw [Int.toNat_natCast, List.length_map, hsl, range_dI, List.map_map]
      have e2 : ((List.range t.size).map fun j => T.map fun row => row.getD j 0) = T := tr_eq hT.l hTr hsym
      conv => rhs; rw [← e2]
      rw [List.map_map]
      refine List.map_congr_left fun j _ => ?_
      show dRow (T.map fun row => row.getD (unI (dI j)) 0) = dRow (T.map fun row => row.getD j 0)
      rw [unI_d]
    rw [e]
    refine bd_eqD (p1 := pyT T) (p2 := pyT T) (py_T T) (py_T T) (shp_T T) (shp_T T) ?_
    rw [eqv_T]
    exact h4
end
end K76

set_option Elab.async false
set_option linter.all false
set_option autoImplicit false
set_option maxRecDepth 100000
set_option maxHeartbeats 400000
/-! k76, part ZD: the law's end. -/
namespace K76
open PySem PySem.Spec L2 PD
open PyProof.Rows hiding St
abbrev NLaw : List Str := ["_law_script", "_law_heap_here", "_law_is_spoilt", "_law_many", "_law_offices", "_law_size", "_law_store", "_law_lone", "_law_office", "_law_state", "_law_base", "_law_bad", "_law_due_here", "_law_kind", "_law_told_here", "_law_shares", "_law_names_here", "_law_name", "_law_ends", "_law_answers"]
theorem scLaw : FnScope NLaw ["_law_script"] (defScope (top 79)) := ⟨rfl, rfl, rfl, by decide +kernel, rfl, by decide +kernel, by decide +kernel⟩
theorem isB_yes' {n b : Nat} (h : b < n) : isB (n : Int) (dI b) = true := isB_nat h
theorem kvM_nd {s : Sto} (h : s.Ok) (b : Nat) : ((s.ops.map (kvM s b)).map (·.1)).Nodup := by
  have e : ((s.ops.map (kvM s b)).map (·.1)) = (s.ops.map Op.name).map (Sum.inr : Str → Key) := by rw [List.map_map, List.map_map]; rfl
  rw [e, List.Nodup, List.pairwise_map]
  exact h.nd.imp fun h e => h (Sum.inr.inj e)
theorem kvM_int {s : Sto} {b : Nat} : ∀ q ∈ s.ops.map (kvM s b), ∃ i : Int, q.2 = .int i := fun q hq => by
  obtain ⟨o, _, rfl⟩ := List.mem_map.mp hq
  exact ⟨_, rfl⟩
section
variable {P : Program} {w : World} {K : PySem.W.Frag} {mg : Str → Option Value} {base : Heap}
/-- behind what is due: the law's last statements -/
theorem law_C {C Cr Cn : Addr} (B : Bare mg) (I1 : Ok P w K mg base 14 "_law_told" (top 76) [] [] ["_law_store", "_law_base"] (P_told C)) (I2 : Ok P w K mg base 13 "multipliers" (top 61) [] [("base", .int 0)] ["store", "base"] (P_mult C Cr Cn))
    (I3 : Ok P w K mg base 2 "_law_multiplied" (top 78) [] [] ["_law_offices", "_law_lone", "_law_shares", "_law_told_here"] P_multiplied)
    {f : Addr} {cdv : Value} {A : Around} {outer : List Env} {s : Shared} {H : Hp} {E : XK} (hr : Room 14 (cxD P w K mg base NLaw "law" (top 79) f cdv A outer s H E).A) {Z : Zn} {U : Own} {R : D → Own → Prop} (hR : ∀ O', R (.bl true) O')
    {t : Sto} (ht : t.Ok) (hc : haveClash t = false) (hv : revB t = true) (hl2 : 2 ≤ (loneL t).length) {b : Nat} (hb : b < t.size) {d0 d1 d2 d3 d11 d12 : D} :
    SX (cxD P w K mg base NLaw "law" (top 79) f cdv A outer s H E) Z ((defBody (top 79)).drop 12) [some d0, some d1, some d2, some d3, some (.lst (dOffs t.offs)), some (dI t.size), some (dSto C t), some (.lst ((loneL t).map dI)), none, none, some (dI b), some d11, some d12, none, none, none, none, none, none, none] U { nx := fun _ O' => R .non O', rt := R } := by
  have S := scLaw
  have hn1 := ht.n1
  have hn2 := ht.n2
  have no1 : haveClash t = true → False := fun h => by rw [hc] at h; cases h
  have no2 : revB t = false → False := fun h => by rw [hv] at h; cases h
  refine sx_cons (s1_asg (ex_fn I1 (by decide) hr (fun _ _ _ _ _ _ us hl => match us, hl with | [_, _], _ => rfl) tkd0 (ea_cons (ex_var (i := 6) rfl (ea_cons (ex_var (i := 10) rfl (ea_nil ⟨t, dI b, rfl, ht, ty_int, fun h => ?_, fun _ => ⟨fun h => (no1 h).elim, fun _ h => (no2 h).elim, fun _ _ h => absurd h (by omega), fun _ _ _ b' e pd hpd => ?_⟩⟩)))))))
  · rw [isB_yes' hb] at h; cases h
  have e : b' = b := by
    have e2 : D.int (b : Int) = D.int (b' : Int) := e
    have := D.int.inj e2
    omega
  subst e
  have hdl : (t.ops.map (kvM t b')).length = t.ops.length := List.length_map ..
  refine gx_unl (ds := [.str "told", .raw (.ref pd)]) rfl .fr (gxs_cons (gx_name (i := 13) (gxs_cons (gx_name (i := 14) (gxs_nil ?_) S.nd)) S.nd))
  have key : (rangeD 0 t.size).flatMap (fun d => if (!decide (unI d = b')) = true then [d] else []) = ((List.range t.size).filter fun j => !decide (j = b')).map dI := by
    rw [range_dI, List.flatMap_map, ← flat_if]
    refine flat_congr fun o _ => ?_
    rw [unI_d]
  have hfl : ((List.range t.size).filter fun j => !decide (j = b')).length ≤ t.size := by
    have h1 := List.length_filter_le (fun j => !decide (j = b')) (List.range t.size)
    rwa [List.length_range] at h1
  refine sx_cons (s1_set (i := 15) S.nd (ex_bin op_cat (ex_lst (ea_cons (ex_var (i := 10) rfl (ea_nil ⟨by show 1 ≤ 1000000; decide, ex_lc (own := [("_law_state", 9)]) rfl S.nd (blkOk_by (by kernel_rfl)) (ix_range1 (B _ (by decide)) (ex_var (i := 5) rfl ⟨_, rfl, by omega, by omega, fun _ _ _ _ => trivial, fun d => if (!decide (unI d = b')) = true then [d] else [], ?_, fun s2 H2 C2 cl2 fp2 j d L cc hm hd hj => ?_, ?_⟩))⟩))))))
  · rw [Int.toNat_natCast, key, List.length_map]; omega
  · obtain ⟨hxn, rfl⟩ := range_at hj
    refine gx_name (i := 9) ⟨rfl, Fewer.set rfl (Fewer.refl _), ts_one (et_neI (ex_var (i := 9) rfl (ex_var (i := 10) rfl ⟨(j : Int), (b' : Int), rfl, rfl, ?_⟩)))⟩ S.nd
    have e1 : decide ((j : Int) = (b' : Int)) = decide (j = b') := decide_eq_decide.mpr (by omega)
    have e2 : (!decide (j = b')) = !decide ((j : Int) = (b' : Int)) := by rw [e1]
    refine ⟨rfl, fun hb2 L2 c2 hm2 hd2 => ex_var (i := 9) rfl ⟨rfl, ?_⟩, fun hb2 => ?_⟩
    · show (if (!decide (unI (dI j) = b')) = true then [dI j] else []) = [dI j]
      rw [unI_d, e2.trans hb2]
      rfl
    · show (if (!decide (unI (dI j) = b')) = true then [dI j] else []) = []
      rw [unI_d, e2.trans hb2]
      rfl
  rw [Int.toNat_natCast, key]
  refine bd_cat .fr .fr (by rw [List.length_map]; show 1 + _ ≤ 1000000; omega) ?_
  have esh : D.lst ([dI b'] ++ ((List.range t.size).filter fun j => !decide (j = b')).map dI) = .lst ((shD t.size b').map dI) := rfl
  rw [esh]
  let Od : Own := (pd, .dct (t.ops.map (kvM t b'))) :: U
  let V0 : Slots := [some d0, some d1, some d2, some d3, some (.lst (dOffs t.offs)), some (dI t.size), some (dSto C t), some (.lst ((loneL t).map dI)), none, none, some (dI b'), some d11, some d12, some (.str "told"), some (.raw (.ref pd)), some (.lst ((shD t.size b').map dI)), none, none, none, none]
  refine sx_cut (fun ρ' O' => ρ' = V0 ∧ Od.Sublist O') ?_ ?_
  · refine s1_if (et_or (et_cmp op_ne (ex_var (i := 13) rfl (ex_str (bt_neS ⟨fun h => ?_, fun _ => ew_or (et_not (et_ex ?_))⟩)))))
    · rw [decide_eq_true rfl] at h; cases h
    refine ex_callB call_isi (B _ (by decide)) (by decide +kernel) (ea_cons (ex_var (i := 14) rfl (ea_cons (ex_bltn (v := .ty "dict") (B _ (by decide)) (by kernel_rfl) rfl (ea_nil (cd_isiD (.ow look_hd) rfl ⟨true, rfl, nofun, fun _ => ew_or1 ?_⟩))))))
    refine et_cmp (op_ne_dictA (by have := hu_of hr; omega)) (ex_fnD0 (n := 1) (dv2 := [.int 0]) (dD := [.int 0]) I2 (by decide) hr (by simp) rfl rfl (fun _ => .cons (.int 0) .nil) ?_ (tkd0.imp fun _ _ _ z => z) (ea_cons (ex_var (i := 6) rfl (ea_nil ⟨t, .int 0, rfl, ht, ty_int, fun h => ?_, fun _ => ⟨fun h => (no1 h).elim, fun _ h => (no2 h).elim, fun _ _ h => absurd h (by omega), fun _ _ _ b2 e2 p1 hp1 => ?_⟩⟩))))
    · exact fun D doc pm an cdv ct us ks h1 h2 => match us, ks, h1, h2 with | [u], [k], _, _ => ⟨_, _, _, _, _, _, rfl, rfl, rfl⟩
    · rw [isB_yes (by omega) (by omega)] at h; cases h
    · have e3 : b2 = 0 := by
        have e2 : D.int 0 = D.int (b2 : Int) := e2
        have := D.int.inj e2
        omega
      subst e3
      refine ex_fnK0 (ks := ["base", "store"]) I2 (by decide) hr (fun zs => zs.reverse) (fun r => r.reverse) (fun B zs ws r => r.rev) ?_ (tkd0.imp fun _ _ _ z => z) (ek_cons (ex_int (ek_cons (ex_var (i := 6) rfl (ek_nil ⟨rfl, t, .int 0, rfl, ht, ty_int, fun h => ?_, fun _ => ⟨fun h => (no1 h).elim, fun _ h => (no2 h).elim, fun _ _ h => absurd h (by omega), fun _ _ _ b2 e2 p2 hp2 => ?_⟩⟩)))))
      · exact fun _ _ _ _ _ _ ws hl => match ws, hl with | [_, _], _ => rfl
      · rw [isB_yes (by omega) (by omega)] at h; cases h
      · have e3 : b2 = 0 := by
          have e2 : D.int 0 = D.int (b2 : Int) := e2
          have := D.int.inj e2
          omega
        subst e3
        have hne : p1 ≠ p2 := fun e => hp2 (by rw [← e]; exact List.mem_cons_self)
        refine bt_neDc (.ow (look_2 hne)) (.ow look_hd) (kvM_nd ht 0) kvM_int ⟨nofun, fun _ => sx_nil ⟨rfl, ?_⟩⟩
        exact (List.sublist_cons_self _ _).trans (List.sublist_cons_self _ _)
  rintro ρ' O' ⟨rfl, hsub⟩
  refine SX.fewer ?_ (Fewer.refl _) hsub
  refine sx_cons (s1_set (i := 16) S.nd (ex_lstO (ea_nil ⟨by decide, fun pn hnM hnO => ?_⟩)))
  have hnd : pd ≠ pn := fun e => hnO (by rw [← e]; exact List.mem_cons_self)
  have lookd : ∀ l : List D, DcAt ((pn, .lst l) :: Od) (.raw (.ref pd)) (t.ops.map (kvM t b')) := fun l => .ow (look_2 hnd)
  have few := ht.few
  let V1 : Slots := [some d0, some d1, some d2, some d3, some (.lst (dOffs t.offs)), some (dI t.size), some (dSto C t), some (.lst ((loneL t).map dI)), none, none, some (dI b'), some d11, some d12, some (.str "told"), some (.raw (.ref pd)), some (.lst ((shD t.size b').map dI)), some (.raw (.ref pn)), none, none, none]
  refine sx_cut (fun ρ' O' => Fewer V1 ρ' ∧ ∃ l : List D, (pn, .lst l) :: Od = O' ∧ l.length = t.ops.length) ?_ ?_
  · refine s1_forF V1 (passes_of rfl) rfl (by repeat (first | exact Fewer.refl _ | exact Fewer.nil | refine Fewer.cons ?_ | refine Fewer.skip ?_)) (ix_lst (ex_var (i := 4) rfl ⟨_, .inl .fr, ?_⟩))
    refine ⟨fun i O' => ∃ l : List D, (pn, .lst l) :: Od = O' ∧ l.length = (t.offs.take i).flatten.length, ⟨[], rfl, rfl⟩, fun _ _ _ => .inl .fr, ?_, ?_⟩
    · rintro i d O' hi ⟨l, rfl, hl⟩
      obtain ⟨fo, hfo, rfl⟩ : ∃ fo, t.offs[i]? = some fo ∧ d = dOff fo := by
        unfold dOffs at hi
        rw [List.getElem?_map] at hi
        obtain ⟨p, a, e⟩ := Option.map_eq_some_iff.mp hi
        exact ⟨p, a, e.symm⟩
      have hfm := List.mem_of_getElem? hfo
      have hfi := (List.getElem?_eq_some_iff.mp hfo).1
      have et : (t.offs.take (i + 1)).flatten.length = (t.offs.take i).flatten.length + fo.length := by
        rw [List.take_add_one, hfo, List.flatten_append, List.length_append]
        show _ + ([fo] : List (List Op)).flatten.length = _
        rw [List.flatten_cons, List.flatten_nil, List.append_nil]
      have etl : (t.offs.take (i + 1)).flatten.length ≤ t.ops.length := (take_flat t.offs (i + 1)).length_le
      refine gx_name (i := 8) ?_ S.nd
      let V2 : Slots := [some d0, some d1, some d2, some d3, some (.lst (dOffs t.offs)), some (dI t.size), some (dSto C t), some (.lst ((loneL t).map dI)), some (dOff fo), none, some (dI b'), some d11, some d12, some (.str "told"), some (.raw (.ref pd)), some (.lst ((shD t.size b').map dI)), some (.raw (.ref pn)), none, none, none]
      refine sx_one (s1_forF V2 (passes_of rfl) rfl (by repeat (first | exact Fewer.refl _ | exact Fewer.nil | refine Fewer.cons ?_ | refine Fewer.skip ?_)) (ix_tup (ex_var (i := 8) rfl ⟨_, rfl, ?_⟩)))
      refine ⟨fun j O' => ∃ l : List D, (pn, .lst l) :: Od = O' ∧ l.length = (t.offs.take i).flatten.length + j, ⟨l, rfl, hl⟩, fun _ _ _ => trivial, ?_, ?_⟩
      · rintro j d O' hj ⟨l, rfl, hl⟩
        obtain ⟨o, ho, rfl⟩ := Option.map_eq_some_iff.mp (by rw [List.getElem?_map] at hj; exact hj)
        have hjl := (List.getElem?_eq_some_iff.mp ho).1
        have hom : o ∈ t.ops := List.mem_flatten.mpr ⟨fo, hfm, List.mem_of_getElem? ho⟩
        have hoo := ht.op' hom
        have hob := hoo.lt hb
        obtain ⟨pl1, pl2⟩ := plc_at hb hob
        have hdv := dval_M ht (b := b') hom
        refine gx_tup rfl (gxs_cons (gx_name (i := 17) (gxs_cons (gx_name (i := 18) (gxs_cons (gx_name (i := 19) (gxs_nil ?_) S.nd)) S.nd)) S.nd))
        refine sx_cons (s1_expr (ex_append (ex_var (i := 16) rfl ⟨pn, _, rfl, look_hd, ex_var (i := 17) rfl ⟨_, look_hd, by omega, ?_⟩⟩)))
        rw [setO_hd hnO]
        refine sx_one (s1_if (et_or (et_dnotin (hu_of hr) (ex_var (i := 17) rfl (ex_var (i := 14) rfl ⟨_, .inr o.name, lookd _, rfl, ?_⟩)))))
        rw [hdv]
        refine ⟨nofun, fun _ => ew_or1 (et_cmp op_ne (ex_reprI B (ex_dget (hu_of hr) (ex_var (i := 14) rfl (ex_var (i := 17) rfl ⟨_, .inr o.name, _, lookd _, rfl, hdv, plcOf t.size b' (o.E b'), rfl, by omega, ?_⟩)))))⟩
        refine ex_reprI B (ex_indexI (ex_var (i := 15) rfl ⟨(shD t.size b').map fun k : Nat => (k : Int), .inl (by rw [dI_int]), ex_idx (ex_var (i := 18) rfl (ex_var (i := 10) rfl ⟨_, (b' : Int), _, .inr (.inl rfl), rfl, at_ends hoo hb, (o.E b' : Int), plcOf t.size b' (o.E b'), rfl, .inl (by rw [dI_int]), by rw [List.getElem?_map, pl2]; rfl, fun m hm he => ?_, plcOf t.size b' (o.E b'), rfl, by omega, bt_neS ⟨fun h => ?_, fun _ => sx_nil ⟨(by repeat (first | exact Fewer.refl _ | exact Fewer.nil | refine Fewer.cons ?_ | refine Fewer.skip ?_)), _, rfl, by rw [List.length_append, hl]; rfl⟩⟩⟩))⟩))
        · rw [List.getElem?_map] at he
          obtain ⟨u, hu, e⟩ := Option.map_eq_some_iff.mp he
          have e3 : u = o.E b' := by omega
          subst e3
          have := plc_of hb hu
          omega
        · rw [decide_eq_true rfl] at h; cases h
      · rintro O' ⟨l, rfl, hl⟩ ρ' hf
        rw [List.length_map] at hl
        exact ⟨Fewer.trans (by repeat (first | exact Fewer.refl _ | exact Fewer.nil | refine Fewer.cons ?_ | refine Fewer.skip ?_)) hf, l, rfl, by rw [hl, et]⟩
    · rintro O' ⟨l, rfl, hl⟩ ρ' hf
      have e : (dOffs t.offs).length = t.offs.length := List.length_map ..
      rw [e, List.take_length] at hl
      exact ⟨hf, l, rfl, hl⟩
  rintro ρ' O' ⟨hf, l, rfl, hl⟩
  refine SX.fewer ?_ hf (List.Sublist.refl _)
  refine sx_cut (fun ρ' O' => ρ' = V1 ∧ (pn, .lst l) :: Od = O') ?_ ?_
  · refine s1_if (et_or (et_neI (ex_lenC B (ex_var (i := 14) rfl ⟨_, lookd l, ex_len B (ex_var (i := 16) rfl ⟨l, .inl (.ow look_hd), _, _, rfl, rfl, fun h => ?_, fun _ => ew_or1 (et_not (et_ex (ex_fn I3 (by decide) hr (fun _ _ _ _ _ _ us hl => match us, hl with | [_, _, _, _], _ => rfl) tkd0 (ea_cons (ex_var (i := 4) rfl (ea_cons (ex_var (i := 7) rfl (ea_cons (ex_var (i := 15) rfl (ea_cons (ex_var (i := 14) rfl (ea_nil ⟨t, b', _, rfl, lookd l, ht, hc, hl2, hb, true, rfl, nofun, fun _ => sx_nil ⟨rfl, rfl⟩⟩))))))))))))⟩)⟩))))
    rw [hdl, hl, decide_eq_true rfl] at h
    cases h
  rintro ρ' O' ⟨rfl, rfl⟩
  refine sx_cons (s1_expr (ex_clear (ex_var (i := 14) rfl ⟨pd, _, rfl, look_2 hnd, ?_⟩)))
  have hpd2 : pd ∉ U.map (·.1) := hpd
  rw [setO_2 hnd hpd2]
  refine sx_one (s1_ret (ex_eqI (ex_lenC B (ex_fnKs (n := 1) (ks := ["base"]) I2 (by decide) hr (fun _ _ _ _ _ _ us ws l1 l2 => match us, ws, l1, l2 with | [_], [_], _, _ => rfl) (tkd0.imp fun _ _ _ z => z) (ea_cons (ex_var (i := 6) rfl (ea_nil (ek_cons (ex_var (i := 10) rfl (ek_nil ⟨rfl, rfl, t, dI b', rfl, ht, ty_int, fun h => ?_, fun _ => ⟨fun h => (no1 h).elim, fun _ h => (no2 h).elim, fun _ _ h => absurd h (by omega), fun _ _ _ b2 e2 p3 hp3 => ?_⟩⟩))))))))))
  · rw [isB_yes' hb] at h; cases h
  · have hp3n : pn ≠ p3 := fun e => hp3 (by rw [← e]; exact List.mem_cons_self)
    refine ⟨_, .ow look_hd, ex_len B (ex_var (i := 16) rfl ⟨l, .inl (.ow (look_2 hp3n)), _, _, rfl, rfl, ?_⟩)⟩
    rw [List.length_map, hl]
    show R (.bl (decide ((t.ops.length : Int) = (t.ops.length : Int)))) _
    rw [decide_eq_true rfl]
    exact hR _
end
end K76

set_option Elab.async false
set_option linter.all false
set_option autoImplicit false
set_option maxRecDepth 100000
set_option maxHeartbeats 400000
/-! k76, part ZE: the law's middle. -/
namespace K76
open PySem PySem.Spec L2 PD
open PyProof.Rows hiding St
/-- why the store is refused, one lone office or none among it -/
noncomputable def dueO (t : Sto) : Option Str := if haveClash t = true then some ("seen" : Str) else if revB t = true then (if (loneL t).length < 2 then some ("alone" : Str) else none) else some ("oneway" : Str)
def dz : Option Str → D
  | none => .non
  | some z => .str z
theorem due_seen {t : Sto} (h : haveClash t = true) : dueO t = some ("seen" : Str) := if_pos h
theorem due_way {t : Sto} (h : haveClash t = false) (h2 : revB t = false) : dueO t = some ("oneway" : Str) := by
  unfold dueO
  rw [if_neg (by rw [h]; exact Bool.false_ne_true), if_neg (by rw [h2]; exact Bool.false_ne_true)]
theorem due_alone {t : Sto} (h : haveClash t = false) (h2 : revB t = true) (h3 : (loneL t).length < 2) : dueO t = some ("alone" : Str) := by
  unfold dueO
  rw [if_neg (by rw [h]; exact Bool.false_ne_true), if_pos h2, if_pos h3]
theorem due_none {t : Sto} (h : haveClash t = false) (h2 : revB t = true) (h3 : ¬ (loneL t).length < 2) : dueO t = none := by
  unfold dueO
  rw [if_neg (by rw [h]; exact Bool.false_ne_true), if_pos h2, if_neg h3]
theorem due_of_none {t : Sto} (h : dueO t = none) : haveClash t = false ∧ revB t = true ∧ 2 ≤ (loneL t).length := by
  cases hc : haveClash t with
  | true => rw [due_seen hc] at h; cases h
  | false =>
    cases hv : revB t with
    | false => rw [due_way hc hv] at h; cases h
    | true =>
      by_cases z : (loneL t).length < 2
      · rw [due_alone hc hv z] at h; cases h
      · exact ⟨rfl, rfl, by omega⟩
theorem eqv_s2 (a b c d : Str) : PyData.eqv (.list [.str a, .str b]) (.list [.str c, .str d]) = (a == c && b == d) := by
  simp [PyData.eqv, PyData.eqvAll]
theorem shp_s2 {a b : Str} (ha : PyData.strOk a = true) (hb : PyData.strOk b = true) : SeqAt.shaped (.list [.str a, .str b]) = true := by
  simp [SeqAt.shaped, PyData.canLay0, PyData.canLayAll0, PyData.depth, PyData.depthAll, ha, hb]
section
variable {P : Program} {w : World} {K : PySem.W.Frag} {mg : Str → Option Value} {base : Heap}
/-- behind what is due -/
theorem law_D {C Cr Cn : Addr} (B : Bare mg) (I1 : Ok P w K mg base 14 "_law_told" (top 76) [] [] ["_law_store", "_law_base"] (P_told C)) (I2 : Ok P w K mg base 13 "multipliers" (top 61) [] [("base", .int 0)] ["store", "base"] (P_mult C Cr Cn))
    (I3 : Ok P w K mg base 2 "_law_multiplied" (top 78) [] [] ["_law_offices", "_law_lone", "_law_shares", "_law_told_here"] P_multiplied)
    {f : Addr} {cdv : Value} {A : Around} {outer : List Env} {s : Shared} {H : Hp} {E : XK} (hr : Room 14 (cxD P w K mg base NLaw "law" (top 79) f cdv A outer s H E).A) {Z : Zn} {U : Own} {R : D → Own → Prop} (hR : ∀ O', R (.bl true) O')
    {t : Sto} (ht : t.Ok) {b : Nat} (hb : b < t.size) {d0 d1 d2 d3 x : D} (hx : Ty x) (hx2 : isB (t.size : Int) x = false) :
    SX (cxD P w K mg base NLaw "law" (top 79) f cdv A outer s H E) Z ((defBody (top 79)).drop 10) [some d0, some d1, some d2, some d3, some (.lst (dOffs t.offs)), some (dI t.size), some (dSto C t), some (.lst ((loneL t).map dI)), none, none, some (dI b), some x, some (dz (dueO t)), none, none, none, none, none, none, none] U { nx := fun _ O' => R .non O', rt := R } := by
  have S := scLaw
  refine sx_cons (s1_if (et_cmp (op_neD hr.units) (ex_fn I1 (by decide) hr (fun _ _ _ _ _ _ us hl => match us, hl with | [_, _], _ => rfl) tkd0 (ea_cons (ex_var (i := 6) rfl (ea_cons (ex_var (i := 11) rfl (ea_nil ⟨t, x, rfl, ht, hx, fun _ => ?_, fun h => absurd (hx2.symm.trans h) Bool.false_ne_true⟩))))))))
  refine ex_lst (ea_cons (ex_str (ea_cons (ex_str (ea_nil ⟨by show 2 ≤ 1000000; decide, bt_neD (p1 := .list [.str "number", .str "base"]) (p2 := .list [.str "number", .str "base"]) rfl rfl (by decide +kernel) (by decide +kernel) ?_⟩)))))
  rw [show PyData.eqv (.list [.str "number", .str "base"]) (.list [.str "number", .str "base"]) = true by decide +kernel]
  refine ⟨nofun, fun _ => sx_nil ?_⟩
  cases hd : dueO t with
  | none =>
    obtain ⟨hc, hv, hl2⟩ := due_of_none hd
    refine sx_cons (s1_if (et_notN (ex_var (i := 12) rfl fun k hk => ?_)))
    have e : k = true := (Option.some.inj (show some true = some k from hk)).symm
    subst e
    exact ⟨nofun, fun _ => sx_nil (law_C B I1 I2 I3 hr hR ht hc hv hl2 hb)⟩
  | some z =>
    refine sx_cons (s1_if (et_notN (ex_var (i := 12) rfl fun k hk => ?_)))
    have e : k = false := (Option.some.inj (show some false = some k from hk)).symm
    subst e
    refine ⟨fun _ => ?_, nofun⟩
    have hz : z = "seen" ∨ z = "oneway" ∨ z = "alone" := by
      unfold dueO at hd
      split at hd
      · exact .inl (Option.some.inj hd).symm
      · split at hd
        · split at hd
          · exact .inr (.inr (Option.some.inj hd).symm)
          · cases hd
        · exact .inr (.inl (Option.some.inj hd).symm)
    have zok : PyData.strOk z = true := by rcases hz with e | e | e <;> subst e <;> decide +kernel
    refine sx_one (s1_ret (ex_cmp (op_eqD hr.units) (EX.mono (R := fun d O1 => d = refD z) (ex_fn I1 (by decide) hr (fun _ _ _ _ _ _ us hl => match us, hl with | [_, _], _ => rfl) tkd0 (ea_cons (ex_var (i := 6) rfl (ea_cons (ex_var (i := 10) rfl (ea_nil ⟨t, dI b, rfl, ht, ty_int, fun h => ?_, fun _ => ⟨fun hc => ?_, fun hc hv => ?_, fun hc hv hl => ?_, fun hc hv hl => ?_⟩⟩)))))) ?_)))
    · rw [isB_yes' hb] at h; cases h
    · rw [due_seen hc] at hd; cases hd; rfl
    · rw [due_way hc hv] at hd; cases hd; rfl
    · rw [due_alone hc hv hl] at hd; cases hd; rfl
    · rw [due_none hc hv (by omega)] at hd; cases hd
    rintro d O1 rfl
    refine ex_lst (ea_cons (ex_str (ea_cons (ex_var (i := 12) rfl (ea_nil ⟨by show 2 ≤ 1000000; decide, bd_eqD (p1 := .list [.str "refused", .str z]) (p2 := .list [.str "refused", .str z]) rfl rfl (shp_s2 (by decide +kernel) zok) (shp_s2 (by decide +kernel) zok) ?_⟩)))))
    rw [eqv_s2, beq_self_eq_true, beq_self_eq_true]
    exact hR _
/-- from the drawn base on -/
theorem law_B {C Cr Cn : Addr} (B : Bare mg) (I1 : Ok P w K mg base 14 "_law_told" (top 76) [] [] ["_law_store", "_law_base"] (P_told C)) (I2 : Ok P w K mg base 13 "multipliers" (top 61) [] [("base", .int 0)] ["store", "base"] (P_mult C Cr Cn))
    (I3 : Ok P w K mg base 2 "_law_multiplied" (top 78) [] [] ["_law_offices", "_law_lone", "_law_shares", "_law_told_here"] P_multiplied) (J1 : Ok P w K mg base 1 "_law_draw" (top 64) [] [] ["_law_heap_here", "_law_many"] P_draw) (J2 : Ok P w K mg base 2 "_law_pick" (top 65) [] [] ["_law_heap_here", "_law_some"] P_pick)
    (J3 : Ok P w K mg base 2 "_law_due" (top 69) [] [] ["_law_offices", "_law_size"] P_law_due)
    {f : Addr} {cdv : Value} {A : Around} {outer : List Env} {s : Shared} {H : Hp} {E : XK} (hr : Room 14 (cxD P w K mg base NLaw "law" (top 79) f cdv A outer s H E).A) {Z : Zn} {U : Own} {R : D → Own → Prop} (hR : ∀ O', R (.bl true) O')
    {t : Sto} (ht : t.Ok) {p r : Addr} {ns : List Int} {st : Int} (hn : NsOk ns) (hl : ns.length ≤ 1000) (hst : StOk st) {d0 d2 d3 : D} :
    SX (cxD P w K mg base NLaw "law" (top 79) f cdv A outer s H E) Z ((defBody (top 79)).drop 7) [some d0, some (.raw (.ref p)), some d2, some d3, some (.lst (dOffs t.offs)), some (dI t.size), some (dSto C t), some (.lst ((loneL t).map dI)), none, none, none, none, none, none, none, none, none, none, none, none] (hpO p r ns st U) { nx := fun _ O' => R .non O', rt := R } := by
  have S := scLaw
  have hn1 := ht.n1
  have hn2 := ht.n2
  refine sx_cons (s1_asg (ex_tup (ea_cons (ex_fn J1 (by decide) hr (fun _ _ _ _ _ _ us hl => match us, hl with | [_, _], _ => rfl) tkd0 (ea_cons (ex_var (i := 1) rfl (ea_cons (ex_var (i := 5) rfl (ea_nil ⟨p, r, ns, st, (t.size : Int), [], U, rfl, rfl, hn, hl, hst, by omega, by omega, fun j ns1 st1 j1 j2 n1 l1 t1 => ?_⟩)))))))))
  obtain ⟨b, rfl⟩ : ∃ b : Nat, j = (b : Int) := ⟨j.toNat, by omega⟩
  have hb : b < t.size := by omega
  refine ea_cons ?_
  refine ex_fn J2 (by decide) hr (fun _ _ _ _ _ _ us hl => match us, hl with | [_, _], _ => rfl) tkd0 (ea_cons (ex_var (i := 1) rfl ?_))
  refine ea_cons ?_
  refine ex_lst ?_
  refine ea_cons (ex_var (i := 5) rfl ?_)
  refine ea_cons ?_
  refine ex_sub (ex_int (ex_int ⟨0, 1, rfl, rfl, ?_⟩))
  refine ea_cons (ex_non ?_)
  refine ea_cons ?_
  refine ex_eqI (ex_var (i := 5) rfl (ex_var (i := 5) rfl ⟨(t.size : Int), (t.size : Int), rfl, rfl, ?_⟩))
  refine ea_cons (ex_str ?_)
  refine ea_cons ?_
  refine ex_lst (ea_cons (ex_int (ea_nil ⟨by show 1 ≤ 1000000; decide, ?_⟩)))
  refine ea_cons ?_
  refine ex_tup (ea_cons (ex_int (ea_nil ⟨by show 1 ≤ 1000000; decide, ?_⟩)))
  refine ea_cons ?_
  refine ex_pow (ex_int (ex_int ⟨10, 30, rfl, rfl, ⟨by decide, by decide, by decide⟩, ?_⟩))
  refine ea_nil ⟨by show 8 ≤ 1000000; decide, ?_⟩
  refine ea_nil ⟨p, r, ns1, st1, _, [dI t.size, .int (0 - 1), .non, .bl (decide ((t.size : Int) = (t.size : Int))), .str "0", .lst [.int 0], .tup [.int 0], .int (10 ^ (30 : Int).toNat)], [], U, rfl, rfl, n1, l1, t1, fun _ _ => .inl .fr, by show 1 ≤ 8; decide, by show 8 ≤ 1000000; decide, fun x ns2 st2 hx n2 l2 t2 => ?_⟩
  have hx3 : Ty x ∧ isB (t.size : Int) x = false := by
    simp only [List.mem_cons, List.not_mem_nil, or_false] at hx
    rcases hx with h | h | h | h | h | h | h | h <;> subst h
    · refine ⟨ty_int, ?_⟩
      show (decide (0 ≤ (t.size : Int)) && decide ((t.size : Int) < (t.size : Int))) = false
      rw [decide_eq_false (by omega : ¬ (t.size : Int) < (t.size : Int)), Bool.and_false]
    · exact ⟨ty_int, rfl⟩
    · exact ⟨⟨_, rfl⟩, rfl⟩
    · exact ⟨⟨_, rfl⟩, rfl⟩
    · exact ⟨⟨_, rfl⟩, rfl⟩
    · exact ⟨⟨_, rfl⟩, rfl⟩
    · exact ⟨⟨_, rfl⟩, rfl⟩
    · refine ⟨ty_int, ?_⟩
      have big : (1000 : Int) ≤ 10 ^ (30 : Int).toNat := by decide
      show (decide (0 ≤ (10 : Int) ^ (30 : Int).toNat) && decide ((10 : Int) ^ (30 : Int).toNat < (t.size : Int))) = false
      rw [decide_eq_false (by omega : ¬ (10 : Int) ^ (30 : Int).toNat < (t.size : Int)), Bool.and_false]
  refine ea_nil ⟨by show 2 ≤ 1000000; decide, gx_tup rfl (gxs_cons (gx_name (i := 10) (gxs_cons (gx_name (i := 11) (gxs_nil ?_) S.nd)) S.nd))⟩
  refine sx_cons (s1_set (i := 12) S.nd (ex_fn J3 (by decide) hr (fun _ _ _ _ _ _ us hl => match us, hl with | [_, _], _ => rfl) tkd0 (ea_cons (ex_var (i := 4) rfl (ea_cons (ex_var (i := 5) rfl (ea_nil ⟨t, rfl, ht, ?_⟩)))))))
  let V : D → Slots := fun d => [some d0, some (.raw (.ref p)), some d2, some d3, some (.lst (dOffs t.offs)), some (dI t.size), some (dSto C t), some (.lst ((loneL t).map dI)), none, none, some (dI b), some x, some d, none, none, none, none, none, none, none]
  refine sx_cut (fun ρ' O' => ρ' = V (dz (dueO t)) ∧ hpO p r ns2 st2 U = O') ?_ ?_
  · have hll : (((loneL t).map dI).length : Int) = ((loneL t).length : Nat) := by rw [List.length_map]
    cases hc : haveClash t with
    | true =>
      have e1 : dueD t = .str "seen" := if_pos hc
      have e2 := due_seen hc
      rw [e1, e2]
      refine s1_if (et_and (et_isN (ex_var (i := 12) rfl fun k hk => ?_)))
      have e : k = false := (Option.some.inj (show some false = some k from hk)).symm
      subst e
      exact ⟨fun _ => ⟨nofun, fun _ => sx_nil ⟨rfl, rfl⟩⟩, nofun⟩
    | false =>
      cases hv : revB t with
      | false =>
        have e1 : dueD t = .str "oneway" := by unfold dueD; rw [if_neg (by rw [hc]; exact Bool.false_ne_true), if_neg (by rw [hv]; exact Bool.false_ne_true)]
        have e2 := due_way hc hv
        rw [e1, e2]
        refine s1_if (et_and (et_isN (ex_var (i := 12) rfl fun k hk => ?_)))
        have e : k = false := (Option.some.inj (show some false = some k from hk)).symm
        subst e
        exact ⟨fun _ => ⟨nofun, fun _ => sx_nil ⟨rfl, rfl⟩⟩, nofun⟩
      | true =>
        have e1 : dueD t = .non := by unfold dueD; rw [if_neg (by rw [hc]; exact Bool.false_ne_true), if_pos hv]
        rw [e1]
        refine s1_if (et_and (et_isN (ex_var (i := 12) rfl fun k hk => ?_)))
        have e : k = true := (Option.some.inj (show some true = some k from hk)).symm
        subst e
        refine ⟨nofun, fun _ => ew_and1 (et_lt (ex_len B (ex_var (i := 7) rfl ⟨_, .inl .fr, ex_int ⟨_, 2, rfl, rfl, fun h => ?_, fun h => ?_⟩⟩)))⟩
        · rw [hll] at h
          have := of_decide_eq_true h
          rw [due_alone hc hv (by omega)]
          exact sx_one (s1_set (i := 12) S.nd (ex_str ⟨rfl, rfl⟩))
        · rw [hll] at h
          have := of_decide_eq_false h
          rw [due_none hc hv (by omega)]
          exact sx_nil ⟨rfl, rfl⟩
  rintro ρ' O' ⟨rfl, rfl⟩
  exact law_D B I1 I2 I3 hr hR ht hb hx3.1 hx3.2
end
end K76

set_option Elab.async false
set_option linter.all false
set_option autoImplicit false
set_option maxRecDepth 100000
set_option maxHeartbeats 400000
/-! k76, part ZF: the law's beginning. -/
namespace K76
open PySem PySem.Spec L2 PD
open PyProof.Rows hiding St
theorem opsAt_one (offs : List (List Op)) (i : Nat) : opsAt offs [i] = offs.getD i [] := by
  unfold opsAt
  rw [List.flatMap_cons, List.flatMap_nil, List.append_nil]
theorem lone_all {t : Sto} {i : Nat} : ((List.range t.size).map fun b => decide ((rchN t.size (opsAt t.offs [i]) b).length = t.size)).all id = loneB t i := by
  rw [Bool.eq_iff_iff, loneB_iff, List.all_eq_true, opsAt_one]
  constructor
  · intro h a b ha hb
    have h1 := h _ (List.mem_map.mpr ⟨a, List.mem_range.mpr ha, rfl⟩)
    exact rchN_all.mp (of_decide_eq_true h1) b hb
  · intro h x hx
    obtain ⟨a, ha, rfl⟩ := List.mem_map.mp hx
    exact decide_eq_true (rchN_all.mpr fun j hj => h a j (List.mem_range.mp ha) hj)
section
variable {P : Program} {w : World} {K : PySem.W.Frag} {mg : Str → Option Value} {base : Heap}
theorem law_A {C Cr Cn : Addr} (B : Bare mg) (c : StC K C) (I1 : Ok P w K mg base 14 "_law_told" (top 76) [] [] ["_law_store", "_law_base"] (P_told C)) (I2 : Ok P w K mg base 13 "multipliers" (top 61) [] [("base", .int 0)] ["store", "base"] (P_mult C Cr Cn))
    (I3 : Ok P w K mg base 2 "_law_multiplied" (top 78) [] [] ["_law_offices", "_law_lone", "_law_shares", "_law_told_here"] P_multiplied) (J0 : Ok P w K mg base 1 "_law_heap" (top 63) [] [] ["_law_script", "_law_base"] P_law_heap) (J1 : Ok P w K mg base 1 "_law_draw" (top 64) [] [] ["_law_heap_here", "_law_many"] P_draw) (J2 : Ok P w K mg base 2 "_law_pick" (top 65) [] [] ["_law_heap_here", "_law_some"] P_pick)
    (J3 : Ok P w K mg base 2 "_law_due" (top 69) [] [] ["_law_offices", "_law_size"] P_law_due) (J4 : Ok P w K mg base 4 "_law_stores" (top 75) [] [] ["_law_heap_here", "_law_many"] P_stores) (J5 : Ok P w K mg base 3 "_law_spoilt" (top 73) [] [] ["_law_heap_here", "_law_offices"] P_spoilt)
    (J6 : Ok P w K mg base 1 "_law_reach" (top 68) [] [] ["_law_offices", "_law_numbers", "_law_base"] P_law_reach) (J7 : Ok P w K mg base 12 "lone_offices" (top 60) [] [] ["store"] (P_lone C)) (J8 : MkOk P w K mg base 8 "Store" C ["self", "size", "offices"] (P_store_init C))
    {f : Addr} {cdv : Value} {A : Around} {outer : List Env} {s : Shared} {H : Hp} {E : XK} (hr : Room 14 (cxD P w K mg base NLaw "law" (top 79) f cdv A outer s H E).A) (hgd : (cxD P w K mg base NLaw "law" (top 79) f cdv A outer s H E).A.guards = some []) {Z : Zn} {U : Own} {R : D → Own → Prop} (hR : ∀ O', R (.bl true) O')
    {is : List Int} (hil : is.length ≤ 1000) :
    SX (cxD P w K mg base NLaw "law" (top 79) f cdv A outer s H E) Z (defBody (top 79)) (slots0 NLaw [.scr (is.map .int)]) U { nx := fun _ O' => R .non O', rt := R } := by
  have S := scLaw
  refine sx_cons (s1_set (i := 1) S.nd (ex_fn J0 (by decide) hr (fun _ _ _ _ _ _ us hl => match us, hl with | [_, _], _ => rfl) tkd0 (ea_cons (ex_var (i := 0) rfl (ea_cons (ex_int (ea_nil ⟨is, rfl, hil, fun p r ns st hn hl hst => ?_⟩)))))))
  refine sx_cons (s1_par2 (i := 2) (j := 3) rfl S.nd (by decide) (ea_cons (ex_eqI (ex_fn J1 (by decide) hr (fun _ _ _ _ _ _ us hl => match us, hl with | [_, _], _ => rfl) tkd0 (ea_cons (ex_var (i := 1) rfl (ea_cons (ex_int (ea_nil ⟨p, r, ns, st, 6, [], U, rfl, rfl, hn, hl, hst, by decide, by decide, fun j ns1 st1 j1 j2 n1 l1 t1 => ex_int ⟨j, 0, rfl, rfl, ?_⟩⟩)))))))))
  refine ea_cons (ex_fn J2 (by decide) hr (fun _ _ _ _ _ _ us hl => match us, hl with | [_, _], _ => rfl) tkd0 (ea_cons (ex_var (i := 1) rfl (ea_cons (ex_lst (ea_cons (ex_int (ea_cons (ex_int (ea_cons (ex_int (ea_cons (ex_int (ea_cons (ex_int (ea_cons (ex_int (ea_nil ⟨by show 6 ≤ 1000000; decide, ea_nil ⟨p, r, ns1, st1, _, [.int 2, .int 2, .int 3, .int 3, .int 4, .int 5], [], U, rfl, rfl, n1, l1, t1, fun _ _ => .inl .fr, by decide, by decide, fun x ns2 st2 hx n2 l2 t2 => ea_nil ⟨_, _, rfl, ?_⟩⟩⟩))))))))))))))))))
  obtain ⟨m, rfl, hm2, hm5⟩ : ∃ m : Nat, x = dI m ∧ 2 ≤ m ∧ m ≤ 5 := by
    simp only [List.mem_cons, List.not_mem_nil, or_false] at hx
    rcases hx with h | h | h | h | h | h
    · exact ⟨2, h, by decide, by decide⟩
    · exact ⟨2, h, by decide, by decide⟩
    · exact ⟨3, h, by decide, by decide⟩
    · exact ⟨3, h, by decide, by decide⟩
    · exact ⟨4, h, by decide, by decide⟩
    · exact ⟨5, h, by decide, by decide⟩
  refine sx_cons (s1_asg (ex_fn J4 (by decide) hr (fun _ _ _ _ _ _ us hl => match us, hl with | [_, _], _ => rfl) tkd0 (ea_cons (ex_var (i := 1) rfl (ea_cons (ex_var (i := 3) rfl (ea_nil ⟨p, r, ns2, st2, m, [], U, rfl, rfl, n2, l2, t2, hm2, hm5, fun s0 ns3 st3 hs0 hlow hsl hs8 n3 l3 t3 => gx_tup rfl (gxs_cons (gx_name (i := 4) (gxs_cons (gx_name (i := 5) (gxs_nil ?_) S.nd)) S.nd))⟩)))))))
  let V : Sto → Slots := fun t => [some (.scr (is.map .int)), some (.raw (.ref p)), some (.bl (decide (j = 0))), some (dI m), some (.lst (dOffs t.offs)), some (dI t.size), none, none, none, none, none, none, none, none, none, none, none, none, none, none]
  refine sx_cut (fun ρ' O' => ∃ (t : Sto) (ns : List Int) (st : Int), ρ' = V t ∧ hpO p r ns st U = O' ∧ t.Ok ∧ t.offs.length = m ∧ NsOk ns ∧ ns.length ≤ 1000 ∧ StOk st) ?_ ?_
  · refine s1_if (et_ex (ex_var (i := 2) rfl ⟨_, rfl, fun _ => ?_, fun _ => sx_nil ⟨s0, ns3, st3, rfl, rfl, hs0, hsl, n3, l3, t3⟩⟩))
    exact sx_one (s1_set (i := 4) S.nd (ex_fn J5 (by decide) hr (fun _ _ _ _ _ _ us hl => match us, hl with | [_, _], _ => rfl) tkd0 (ea_cons (ex_var (i := 1) rfl (ea_cons (ex_var (i := 4) rfl (ea_nil ⟨p, r, ns3, st3, s0, [], U, rfl, rfl, n3, l3, t3, hs0, hlow, fun offs ns4 st4 hok hlen n4 l4 t4 => ⟨⟨s0.size, offs⟩, ns4, st4, rfl, rfl, hok, hlen.trans hsl, n4, l4, t4⟩⟩)))))))
  rintro ρ' O' ⟨t, ns4, st4, rfl, rfl, ht, htl, n4, l4, t4⟩
  have hn1 := ht.n1
  have hn2 := ht.n2
  have ho2 := ht.o2
  refine sx_cons (s1_par2 (i := 6) (j := 7) rfl S.nd (by decide) (ea_cons (ex_frz (ex_mk (k' := 13) J8 (by decide) hr tkd0 (ea_cons (ex_var (i := 5) rfl (ea_cons (ex_tuple B (ex_var (i := 4) rfl ⟨_, .fr, ea_nil fun pS hSM hSO => ⟨pS, t, hpO p r ns4 st4 U, rfl, ht, rfl, hSO, rfl, pS, _, _, rfl, hSM, .refl _, ?_⟩⟩)))))))))
  refine ea_cons (ex_lstO (ea_nil ⟨by decide, fun pl hlM hlO => ea_nil ⟨_, _, rfl, ?_⟩⟩))
  let V2 : D → Slots := fun d => [some (.scr (is.map .int)), some (.raw (.ref p)), some (.bl (decide (j = 0))), some (dI m), some (.lst (dOffs t.offs)), some (dI t.size), some (dSto C t), some d, none, none, none, none, none, none, none, none, none, none, none, none]
  refine sx_cut (fun ρ' O' => Fewer (V2 (.raw (.ref pl))) ρ' ∧ (pl, .lst ((loneL t).map dI)) :: hpO p r ns4 st4 U = O') ?_ ?_
  · refine s1_forF (V2 (.raw (.ref pl))) (passes_of rfl) rfl (by repeat (first | exact Fewer.refl _ | exact Fewer.nil | refine Fewer.cons ?_ | refine Fewer.skip ?_)) (ix_range1 (B _ (by decide)) (ex_var (i := 3) rfl ⟨_, rfl, by omega, by omega, ?_⟩))
    rw [Int.toNat_natCast]
    refine ⟨fun i O' => (pl, .lst (((List.range i).filter (loneB t)).map dI)) :: hpO p r ns4 st4 U = O', rfl, fun _ _ _ => trivial, ?_, ?_⟩
    · rintro i d O' hi rfl
      obtain ⟨him, rfl⟩ := range_at hi
      refine gx_name (i := 8) ?_ S.nd
      let f0 : D → D := fun d => .bl (decide ((rchN t.size (opsAt t.offs [i]) (unI d)).length = t.size))
      have key : (rangeD 0 t.size).map f0 = ((List.range t.size).map fun b => decide ((rchN t.size (opsAt t.offs [i]) b).length = t.size)).map D.bl := by
        rw [range_dI, List.map_map, List.map_map]
        refine List.map_congr_left fun b _ => ?_
        show D.bl (decide ((rchN t.size (opsAt t.offs [i]) (unI (dI b))).length = t.size)) = _
        rw [unI_d]
        rfl
      have esucc : (List.range (i + 1)).filter (loneB t) = (List.range i).filter (loneB t) ++ if loneB t i = true then [i] else [] := by
        rw [List.range_succ, List.filter_append]
        congr 1
        by_cases z : loneB t i = true
        · rw [if_pos z, List.filter_cons_of_pos z, List.filter_nil]
        · rw [if_neg z, List.filter_cons_of_neg z, List.filter_nil]
      have hfl : ((List.range i).filter (loneB t)).length ≤ i := by
        have := List.length_filter_le (loneB t) (List.range i)
        rwa [List.length_range] at this
      refine sx_one (s1_if (et_ex (ex_all rfl B (ex_map (j := 9) (own := [("_law_state", 9)]) rfl S.nd (blkOk_by (by kernel_rfl)) rfl (fun _ _ => Or.inl rfl) (.inr fun _ _ => rfl) rfl (ix_range1 (B _ (by decide)) (ex_var (i := 5) rfl ⟨_, rfl, by omega, by omega, fun _ _ _ _ => trivial, f0, by rw [Int.toNat_natCast, range_len]; omega, fun s2 H2 C2 cl2 fp2 q d L cc hm hd hq => ?_, ?_⟩))))))
      · rw [Int.toNat_natCast] at hq
        obtain ⟨hqn, rfl⟩ := range_at hq
        refine ex_eqI (ex_lenC B (ex_fn J6 (by decide) hr (fun _ _ _ _ _ _ us hl => match us, hl with | [_, _, _], _ => rfl) tkd0 (ea_cons (ex_var (i := 4) rfl (ea_cons (ex_lst (ea_cons (ex_var (i := 8) rfl (ea_nil ⟨by show 1 ≤ 1000000; decide, ea_cons (ex_var (i := 9) rfl (ea_nil ⟨_, _, t.offs, [i], q, t.size, rfl, .inl rfl, .inl rfl, hn2, hqn, ht.op, fun k hk => by rw [List.mem_singleton.mp hk]; omega, fun kvs hkvs => ⟨kvs, .fr, ex_var (i := 5) rfl ⟨_, _, rfl, rfl, rfl, ?_⟩⟩⟩))⟩)))))))))
        show D.bl (decide ((kvs.length : Int) = (t.size : Int))) = D.bl (decide ((rchN t.size (opsAt t.offs [i]) (unI (dI q))).length = t.size))
        rw [unI_d, hkvs]
        exact congrArg D.bl (decide_eq_decide.mpr (by omega))
      · rw [Int.toNat_natCast, key]
        refine ⟨_, .fr, _, rfl, fun hb => ?_, fun hb => ?_⟩
        · rw [lone_all] at hb
          refine sx_one (s1_expr (ex_append (ex_var (i := 7) rfl ⟨pl, _, rfl, look_hd, ex_var (i := 8) rfl ⟨_, look_hd, by rw [List.length_map]; omega, ?_⟩⟩)))
          rw [setO_hd hlO]
          refine ⟨(by repeat (first | exact Fewer.refl _ | exact Fewer.nil | refine Fewer.cons ?_ | refine Fewer.skip ?_)), ?_⟩
          show (pl, OC.lst (((List.range (i + 1)).filter (loneB t)).map dI)) :: hpO p r ns4 st4 U = _
          rw [esucc, if_pos hb, List.map_append]
          rfl
        · rw [lone_all] at hb
          refine sx_nil ⟨(by repeat (first | exact Fewer.refl _ | exact Fewer.nil | refine Fewer.cons ?_ | refine Fewer.skip ?_)), ?_⟩
          show (pl, OC.lst (((List.range (i + 1)).filter (loneB t)).map dI)) :: hpO p r ns4 st4 U = _
          rw [esucc, if_neg (by rw [hb]; exact Bool.false_ne_true), List.append_nil]
    · rintro O' rfl ρ' hf
      rw [range_len, ← htl]
      exact ⟨hf, rfl⟩
  rintro ρ' O' ⟨hf, rfl⟩
  refine SX.fewer (ρ' := List.set (V2 .non) 7 (some (.raw (.ref pl)))) ?_ hf (List.Sublist.refl _)
  refine sx_frz hlM ?_
  have l8 : ∀ n ∈ loneL t, n < 8 := fun n hn => by
    have := (loneL_mem.mp hn).1
    omega
  have ll : (loneL t).length ≤ 1000 := by
    have := List.length_filter_le (loneB t) (List.range t.offs.length)
    rw [List.length_range] at this
    have h2 : (loneL t).length ≤ t.offs.length := this
    omega
  have hu2 : (cxD P w K mg base NLaw "law" (top 79) f cdv A outer s H E).A.units + 1 < cLine := hu_of hr
  refine sx_cons (s1_if (et_cmp op_ne (ex_reprN hgd hu2 B (ex_fnK0 (ks := ["store"]) J7 (by decide) hr (fun zs => zs) (fun r => r) (fun B zs ws r => r) ?_ tkd0 (ek_cons (ex_var (i := 6) rfl (ek_nil ⟨rfl, t, rfl, ht, loneL t, rfl, l8, ll, ?_⟩)))))))
  · exact fun _ _ _ _ _ _ ws hl => match ws, hl with | [_], _ => rfl
  refine ex_reprN hgd hu2 B (ex_tuple B (ex_var (i := 7) rfl ⟨_, .fr, loneL t, rfl, l8, ll, bt_neS ⟨fun h => ?_, fun _ => sx_nil ?_⟩⟩))
  · rw [decide_eq_true rfl] at h; cases h
  exact law_B B I1 I2 I3 J1 J2 J3 hr hR ht n4 l4 t4
end
end K76

set_option Elab.async false
set_option linter.all false
set_option autoImplicit false
set_option maxRecDepth 100000
set_option maxHeartbeats 1000000
/-! k76, part ZI: from what the head saw to the law's body. -/
namespace K76
open PySem PySem.Spec L2 PD
open PyProof.Rows hiding St
abbrev PW : Program := PySem.Challenge.pw_sharedunseen_k76_whole_offices_that_reac
theorem cellB_ok {K : PySem.W.Frag} {C : Addr} {cl : List (Str × Addr)} (h : cellB K C cl = true) : ∃ cc oc od osl, cl = [(("__class__" : Str), cc)] ∧ K.lookup cc = some ⟨oc, od, .cell (some (.ref C)), osl⟩ := by
  unfold cellB at h
  split at h
  · rename_i n cc
    obtain ⟨h1, h2⟩ := He.ba h
    have h1 := of_decide_eq_true h1
    subst h1
    split at h2
    · rename_i oc od D osl e
      have h2 := of_decide_eq_true h2
      subst h2
      exact ⟨cc, oc, od, osl, rfl, e⟩
    · cases h2
  · cases h
theorem fileB_ok {K : PySem.W.Frag} {cd : Value} {qual file : Str} (h : fileB K cd qual file = true) : ∃ c oc od vs osl tf, cd = .ref c ∧ PySem.W.codeIn K (.ref c) qual = true ∧ K.lookup c = some ⟨oc, od, .fields vs, osl⟩ ∧ vs[2]? = some (.str file tf) := by
  unfold fileB at h
  split at h
  · rename_i c
    obtain ⟨h1, h2⟩ := He.ba h
    split at h2
    · rename_i oc od vs osl e
      split at h2
      · rename_i f tf e2
        have h2 := of_decide_eq_true h2
        subst h2
        exact ⟨c, oc, od, vs, osl, tf, rfl, h1, e, e2⟩
      · cases h2
    · cases h2
  · cases h
theorem noneB_ok {v : Value} (h : noneB v = true) : v = .none := by
  cases v with
  | none => rfl
  | _ => cases h
theorem suF_ok {K : PySem.W.Frag} {x qual file : Str} {i : Nat} (h : suF K (He.ga K x) (He.ma K (He.ga K x) "__init__") qual file = true) (e : fnS K x = valS i qual) :
    ∃ oc od doc pm an ct osl cda cc ccl cdd vs ccs tf cl cld csl, K.lookup (He.ma K (He.ga K x) "__init__") = some ⟨oc, od, .func (PySem.W.fnX "__init__" qual (defArgs (mem (top i) 0)) (defBody (mem (top i) 0)) (defScope (mem (top i) 0)) [("__class__", cc)] .none .none doc pm an (.ref cda) ct), osl⟩ ∧
      PySem.W.codeIn K (.ref cda) qual = true ∧ K.lookup cda = some ⟨ccl, cdd, .fields vs, ccs⟩ ∧ vs[2]? = some (.str file tf) ∧ K.lookup cc = some ⟨cl, cld, .cell (some (.ref (He.ga K x))), csl⟩ := by
  unfold suF at h
  unfold fnS valS at e
  cases q : K.lookup (He.ma K (He.ga K x) "__init__") with
  | none => rw [q] at h; cases h
  | some o =>
    obtain ⟨oc, od, dt, osl⟩ := o
    rw [q] at h e
    cases dt with
    | func fd =>
      obtain ⟨n1, n2, n3, n4, n5, n6, n7, n8, n9, n10, n11, n12, n13, n14, n15⟩ := fd
      have e2 : (some (n1, n2, n3, n4, n5, n6, n15) : FnS) = (some (("__init__" : Str), qual, defArgs (mem (top i) 0), FuncBody.stmts (defBody (mem (top i) 0)), defScope (mem (top i) 0), mainGlobals, builtinsNs) : FnS) := e
      simp only [Option.some.injEq, Prod.mk.injEq] at e2
      obtain ⟨h1, h2, h3, h4, h5, h6, h7⟩ := e2
      subst h1 h2 h3 h4 h5 h6 h7
      have h : (noneB n8 && (noneB n9 && (cellB K (He.ga K x) n7 && fileB K n13 n2 file))) = true := h
      obtain ⟨a1, h⟩ := He.ba h
      obtain ⟨a2, h⟩ := He.ba h
      obtain ⟨a3, a4⟩ := He.ba h
      obtain ⟨cc, cl, cld, csl, b1, b2⟩ := cellB_ok a3
      obtain ⟨cda, ccl, cdd, vs, ccs, tf, d1, d2, d3, d4⟩ := fileB_ok a4
      have a1 := noneB_ok a1
      have a2 := noneB_ok a2
      subst b1 d1 a1 a2
      exact ⟨oc, od, _, _, _, _, osl, cda, cc, ccl, cdd, vs, ccs, tf, cl, cld, csl, rfl, d2, d3, d4, b2⟩
    | _ => cases h
theorem errs {K : PySem.W.Frag} {mg : Str → Option Value} (gS : mg "super" = none) (c : obsK K = valK) (gr : mg "Refused" = some (.ref (He.ga K "Refused"))) (gn : mg "InvalidNumber" = some (.ref (He.ga K "InvalidNumber"))) :
    Rfs PW K mg (He.ga K "Refused") (He.ga K "InvalidNumber") ∧ XfC K (He.ga K "InvalidNumber") ∧ XfC K (He.ga K "Refused") := by
  have e1 : exB K = true := congrArg (fun z : AlK => z.2.1) c
  have e2 : fnS K "Refused" = valS 5 "Refused.__init__" := congrArg (fun z : AlK => z.2.2.1) c
  have e3 : fnS K "InvalidNumber" = valS 4 "InvalidNumber.__init__" := congrArg (fun z : AlK => z.2.2.2) c
  obtain ⟨s1, s2⟩ := He.ba e1
  have r : (∃ fI, PySem.SUX.SuTxt PW K mg (He.ga K "Refused") fI "Refused.__init__" "refused") ∧ XfC K (He.ga K "Refused") := by
    obtain ⟨b1, q⟩ := He.ba s1
    obtain ⟨b2, q⟩ := He.ba q
    obtain ⟨b3, q⟩ := He.ba q
    obtain ⟨b4, q⟩ := He.ba q
    obtain ⟨b5, q⟩ := He.ba q
    obtain ⟨b6, q⟩ := He.ba q
    obtain ⟨b7, q⟩ := He.ba q
    obtain ⟨b8, q⟩ := He.ba q
    obtain ⟨b9, q⟩ := He.ba q
    obtain ⟨b10, q⟩ := He.ba q
    obtain ⟨b11, q⟩ := He.ba q
    obtain ⟨b12, q⟩ := He.ba q
    obtain ⟨b13, q⟩ := He.ba q
    obtain ⟨b14, b15⟩ := He.ba q
    obtain ⟨oc, od, doc, pm, an, ct, osl, cda, cc, ccl, cdd, vs, ccs, tf, cl, cld, csl, f1, f2, f3, f4, f5⟩ := suF_ok b14 e2
    exact ⟨⟨_, clsB_ok b1, He.eqO_ok b2, He.eqO_ok b3, He.eqO_ok b4, of_decide_eq_true b5, b6, of_decide_eq_true b7, of_decide_eq_true b8, of_decide_eq_true b9, of_decide_eq_true b10, gS, He.eqO_ok b11, He.eqO_ok b12, b13, by decide +kernel,
      oc, od, doc, pm, an, ct, osl, cda, cc, ccl, cdd, vs, ccs, hFile, tf, cl, cld, csl, _, _, _, _, _, _, _, _, _, _, _, _, _, f1, f2, f3, f4, by decide +kernel, f5, fun _ => rfl, fun _ _ => rfl⟩, xfB_ok b15⟩
  have n : (∃ fI, PySem.SUX.SuTxt PW K mg (He.ga K "InvalidNumber") fI "InvalidNumber.__init__" "invalid number") ∧ XfC K (He.ga K "InvalidNumber") := by
    obtain ⟨b1, q⟩ := He.ba s2
    obtain ⟨b2, q⟩ := He.ba q
    obtain ⟨b3, q⟩ := He.ba q
    obtain ⟨b4, q⟩ := He.ba q
    obtain ⟨b5, q⟩ := He.ba q
    obtain ⟨b6, q⟩ := He.ba q
    obtain ⟨b7, q⟩ := He.ba q
    obtain ⟨b8, q⟩ := He.ba q
    obtain ⟨b9, q⟩ := He.ba q
    obtain ⟨b10, q⟩ := He.ba q
    obtain ⟨b11, q⟩ := He.ba q
    obtain ⟨b12, q⟩ := He.ba q
    obtain ⟨b13, q⟩ := He.ba q
    obtain ⟨b14, b15⟩ := He.ba q
    obtain ⟨oc, od, doc, pm, an, ct, osl, cda, cc, ccl, cdd, vs, ccs, tf, cl, cld, csl, f1, f2, f3, f4, f5⟩ := suF_ok b14 e3
    exact ⟨⟨_, clsB_ok b1, He.eqO_ok b2, He.eqO_ok b3, He.eqO_ok b4, of_decide_eq_true b5, b6, of_decide_eq_true b7, of_decide_eq_true b8, of_decide_eq_true b9, of_decide_eq_true b10, gS, He.eqO_ok b11, He.eqO_ok b12, b13, by decide +kernel,
      oc, od, doc, pm, an, ct, osl, cda, cc, ccl, cdd, vs, ccs, hFile, tf, cl, cld, csl, _, _, _, _, _, _, _, _, _, _, _, _, _, f1, f2, f3, f4, by decide +kernel, f5, fun _ => rfl, fun _ _ => rfl⟩, xfB_ok b15⟩
  exact ⟨⟨r.1, n.1, gr, gn⟩, n.2, r.2⟩
theorem law_all {w : World} {K : PySem.W.Frag} {mg : Str → Option Value} {h base : Heap} (X : K.In h) (G : h.Ns mainGlobals mg) (c : obsK K = valK)
    {f : Addr} {cdv : Value} {A : Around} {outer : List Env} {s : Shared} {H : Hp} {E : XK} (hr : Room 14 (cxD PW w K mg base NLaw "law" (top 79) f cdv A outer s H E).A) (hgd : (cxD PW w K mg base NLaw "law" (top 79) f cdv A outer s H E).A.guards = some []) {Z : Zn} {U : Own} {R : D → Own → Prop} (hR : ∀ O', R (.bl true) O')
    {is : List Int} (hil : is.length ≤ 1000) :
    SX (cxD PW w K mg base NLaw "law" (top 79) f cdv A outer s H E) Z (defBody (top 79)) (slots0 NLaw [.scr (is.map .int)]) U { nx := fun _ O' => R .non O', rt := R } := by
  have cd : He.SaysD hfa hfn K := congrArg (fun z : AlK => z.1) c
  have B : Bare mg := fun x hx => by
    simp only [bareNames, List.mem_cons, List.not_mem_nil, or_false] at hx
    rcases hx with h | h | h | h | h | h | h | h | h | h | h | h | h | h | h | h | h | h
    · rw [h]; exact He.free_ok X G (cd.fact 64 (f := .free "isinstance") rfl)
    · rw [h]; exact He.free_ok X G (cd.fact 65 (f := .free "int") rfl)
    · rw [h]; exact He.free_ok X G (cd.fact 66 (f := .free "bool") rfl)
    · rw [h]; exact He.free_ok X G (cd.fact 67 (f := .free "str") rfl)
    · rw [h]; exact He.free_ok X G (cd.fact 68 (f := .free "tuple") rfl)
    · rw [h]; exact He.free_ok X G (cd.fact 69 (f := .free "list") rfl)
    · rw [h]; exact He.free_ok X G (cd.fact 70 (f := .free "dict") rfl)
    · rw [h]; exact He.free_ok X G (cd.fact 71 (f := .free "len") rfl)
    · rw [h]; exact He.free_ok X G (cd.fact 72 (f := .free "all") rfl)
    · rw [h]; exact He.free_ok X G (cd.fact 73 (f := .free "any") rfl)
    · rw [h]; exact He.free_ok X G (cd.fact 74 (f := .free "sum") rfl)
    · rw [h]; exact He.free_ok X G (cd.fact 75 (f := .free "max") rfl)
    · rw [h]; exact He.free_ok X G (cd.fact 76 (f := .free "abs") rfl)
    · rw [h]; exact He.free_ok X G (cd.fact 77 (f := .free "sorted") rfl)
    · rw [h]; exact He.free_ok X G (cd.fact 78 (f := .free "set") rfl)
    · rw [h]; exact He.free_ok X G (cd.fact 79 (f := .free "range") rfl)
    · rw [h]; exact He.free_ok X G (cd.fact 80 (f := .free "enumerate") rfl)
    · rw [h]; exact He.free_ok X G (cd.fact 81 (f := .free "repr") rfl)
  have c1 : StC K (He.ga K "Store") := ⟨He.cls_ok (cd.fact 57 (f := .cls "Store") rfl), He.noat_ok (cd.fact 58 (f := .noat "Store" "size") rfl), He.noat_ok (cd.fact 59 (f := .noat "Store" "offices") rfl)⟩
  have c2 : ShC K (He.ga K "Shared") := ⟨He.cls_ok (cd.fact 56 (f := .cls "Shared") rfl), He.noat_ok (cd.fact 60 (f := .noat "Shared" "table") rfl), He.noat_ok (cd.fact 61 (f := .noat "Shared" "shares") rfl)⟩
  have D10 : Df K mg "is_integer" (top 10) [] [] := by
    obtain ⟨fd, F⟩ := cd.def_ 0 (d := ⟨("is_integer", none), "is_integer", "is_integer", defArgs (top 10), defBody (top 10), defScope (top 10), [], []⟩) rfl
    exact ⟨_, fd, He.glo_ok X G (cd.fact 0 (f := .glo "is_integer") rfl), F⟩
  have D11 : Df K mg "is_number" (top 11) [] [] := by
    obtain ⟨fd, F⟩ := cd.def_ 1 (d := ⟨("is_number", none), "is_number", "is_number", defArgs (top 11), defBody (top 11), defScope (top 11), [], []⟩) rfl
    exact ⟨_, fd, He.glo_ok X G (cd.fact 1 (f := .glo "is_number") rfl), F⟩
  have D12 : Df K mg "is_below" (top 12) [] [] := by
    obtain ⟨fd, F⟩ := cd.def_ 2 (d := ⟨("is_below", none), "is_below", "is_below", defArgs (top 12), defBody (top 12), defScope (top 12), [], []⟩) rfl
    exact ⟨_, fd, He.glo_ok X G (cd.fact 2 (f := .glo "is_below") rfl), F⟩
  have D13 : Df K mg "is_letter" (top 13) [] [] := by
    obtain ⟨fd, F⟩ := cd.def_ 3 (d := ⟨("is_letter", none), "is_letter", "is_letter", defArgs (top 13), defBody (top 13), defScope (top 13), [], []⟩) rfl
    exact ⟨_, fd, He.glo_ok X G (cd.fact 3 (f := .glo "is_letter") rfl), F⟩
  have D14 : Df K mg "is_name" (top 14) [] [] := by
    obtain ⟨fd, F⟩ := cd.def_ 4 (d := ⟨("is_name", none), "is_name", "is_name", defArgs (top 14), defBody (top 14), defScope (top 14), [], []⟩) rfl
    exact ⟨_, fd, He.glo_ok X G (cd.fact 4 (f := .glo "is_name") rfl), F⟩
  have D15 : Df K mg "is_row" (top 15) [] [] := by
    obtain ⟨fd, F⟩ := cd.def_ 5 (d := ⟨("is_row", none), "is_row", "is_row", defArgs (top 15), defBody (top 15), defScope (top 15), [], []⟩) rfl
    exact ⟨_, fd, He.glo_ok X G (cd.fact 5 (f := .glo "is_row") rfl), F⟩
  have D16 : Df K mg "is_listing" (top 16) [] [] := by
    obtain ⟨fd, F⟩ := cd.def_ 6 (d := ⟨("is_listing", none), "is_listing", "is_listing", defArgs (top 16), defBody (top 16), defScope (top 16), [], []⟩) rfl
    exact ⟨_, fd, He.glo_ok X G (cd.fact 6 (f := .glo "is_listing") rfl), F⟩
  have D20 : Df K mg "pairs_across" (top 20) [] [] := by
    obtain ⟨fd, F⟩ := cd.def_ 7 (d := ⟨("pairs_across", none), "pairs_across", "pairs_across", defArgs (top 20), defBody (top 20), defScope (top 20), [], []⟩) rfl
    exact ⟨_, fd, He.glo_ok X G (cd.fact 7 (f := .glo "pairs_across") rfl), F⟩
  have D21 : Df K mg "ends_clash" (top 21) [] [] := by
    obtain ⟨fd, F⟩ := cd.def_ 8 (d := ⟨("ends_clash", none), "ends_clash", "ends_clash", defArgs (top 21), defBody (top 21), defScope (top 21), [], []⟩) rfl
    exact ⟨_, fd, He.glo_ok X G (cd.fact 8 (f := .glo "ends_clash") rfl), F⟩
  have D22 : Df K mg "is_told_otherwise" (top 22) [] [] := by
    obtain ⟨fd, F⟩ := cd.def_ 9 (d := ⟨("is_told_otherwise", none), "is_told_otherwise", "is_told_otherwise", defArgs (top 22), defBody (top 22), defScope (top 22), [], []⟩) rfl
    exact ⟨_, fd, He.glo_ok X G (cd.fact 9 (f := .glo "is_told_otherwise") rfl), F⟩
  have D23 : Df K mg "answers_clash" (top 23) [] [] := by
    obtain ⟨fd, F⟩ := cd.def_ 10 (d := ⟨("answers_clash", none), "answers_clash", "answers_clash", defArgs (top 23), defBody (top 23), defScope (top 23), [], []⟩) rfl
    exact ⟨_, fd, He.glo_ok X G (cd.fact 10 (f := .glo "answers_clash") rfl), F⟩
  have D24 : Df K mg "kinds_at" (top 24) [] [] := by
    obtain ⟨fd, F⟩ := cd.def_ 11 (d := ⟨("kinds_at", none), "kinds_at", "kinds_at", defArgs (top 24), defBody (top 24), defScope (top 24), [], []⟩) rfl
    exact ⟨_, fd, He.glo_ok X G (cd.fact 11 (f := .glo "kinds_at") rfl), F⟩
  have D25 : Df K mg "clash_anywhere" (top 25) [] [] := by
    obtain ⟨fd, F⟩ := cd.def_ 12 (d := ⟨("clash_anywhere", none), "clash_anywhere", "clash_anywhere", defArgs (top 25), defBody (top 25), defScope (top 25), [], []⟩) rfl
    exact ⟨_, fd, He.glo_ok X G (cd.fact 12 (f := .glo "clash_anywhere") rfl), F⟩
  have D26 : Df K mg "have_clash" (top 26) [] [] := by
    obtain ⟨fd, F⟩ := cd.def_ 13 (d := ⟨("have_clash", none), "have_clash", "have_clash", defArgs (top 26), defBody (top 26), defScope (top 26), [], []⟩) rfl
    exact ⟨_, fd, He.glo_ok X G (cd.fact 13 (f := .glo "have_clash") rfl), F⟩
  have D28 : Df K mg "check_state" (top 28) [] [] := by
    obtain ⟨fd, F⟩ := cd.def_ 14 (d := ⟨("check_state", none), "check_state", "check_state", defArgs (top 28), defBody (top 28), defScope (top 28), [], []⟩) rfl
    exact ⟨_, fd, He.glo_ok X G (cd.fact 14 (f := .glo "check_state") rfl), F⟩
  have D29 : Df K mg "need_office" (top 29) [] [] := by
    obtain ⟨fd, F⟩ := cd.def_ 15 (d := ⟨("need_office", none), "need_office", "need_office", defArgs (top 29), defBody (top 29), defScope (top 29), [], []⟩) rfl
    exact ⟨_, fd, He.glo_ok X G (cd.fact 15 (f := .glo "need_office") rfl), F⟩
  have D30 : Df K mg "need_offices" (top 30) [] [] := by
    obtain ⟨fd, F⟩ := cd.def_ 16 (d := ⟨("need_offices", none), "need_offices", "need_offices", defArgs (top 30), defBody (top 30), defScope (top 30), [], []⟩) rfl
    exact ⟨_, fd, He.glo_ok X G (cd.fact 16 (f := .glo "need_offices") rfl), F⟩
  have D31 : Df K mg "operation_table" (top 31) [] [] := by
    obtain ⟨fd, F⟩ := cd.def_ 17 (d := ⟨("operation_table", none), "operation_table", "operation_table", defArgs (top 31), defBody (top 31), defScope (top 31), [], []⟩) rfl
    exact ⟨_, fd, He.glo_ok X G (cd.fact 17 (f := .glo "operation_table") rfl), F⟩
  have D32 : Df K mg "operations_of" (top 32) [] [] := by
    obtain ⟨fd, F⟩ := cd.def_ 18 (d := ⟨("operations_of", none), "operations_of", "operations_of", defArgs (top 32), defBody (top 32), defScope (top 32), [], []⟩) rfl
    exact ⟨_, fd, He.glo_ok X G (cd.fact 18 (f := .glo "operations_of") rfl), F⟩
  have D33 : Df K mg "distances" (top 33) [.non] [] := by
    obtain ⟨fd, F⟩ := cd.def_ 19 (d := ⟨("distances", none), "distances", "distances", defArgs (top 33), defBody (top 33), defScope (top 33), [.non], []⟩) rfl
    exact ⟨_, fd, He.glo_ok X G (cd.fact 19 (f := .glo "distances") rfl), F⟩
  have D34 : Df K mg "reachable" (top 34) [.non] [] := by
    obtain ⟨fd, F⟩ := cd.def_ 20 (d := ⟨("reachable", none), "reachable", "reachable", defArgs (top 34), defBody (top 34), defScope (top 34), [.non], []⟩) rfl
    exact ⟨_, fd, He.glo_ok X G (cd.fact 20 (f := .glo "reachable") rfl), F⟩
  have D36 : Df K mg "all_offices" (top 36) [] [] := by
    obtain ⟨fd, F⟩ := cd.def_ 21 (d := ⟨("all_offices", none), "all_offices", "all_offices", defArgs (top 36), defBody (top 36), defScope (top 36), [], []⟩) rfl
    exact ⟨_, fd, He.glo_ok X G (cd.fact 21 (f := .glo "all_offices") rfl), F⟩
  have D37 : Df K mg "other_offices" (top 37) [] [] := by
    obtain ⟨fd, F⟩ := cd.def_ 22 (d := ⟨("other_offices", none), "other_offices", "other_offices", defArgs (top 37), defBody (top 37), defScope (top 37), [], []⟩) rfl
    exact ⟨_, fd, He.glo_ok X G (cd.fact 22 (f := .glo "other_offices") rfl), F⟩
  have D38 : Df K mg "reach_tables" (top 38) [] [] := by
    obtain ⟨fd, F⟩ := cd.def_ 23 (d := ⟨("reach_tables", none), "reach_tables", "reach_tables", defArgs (top 38), defBody (top 38), defScope (top 38), [], []⟩) rfl
    exact ⟨_, fd, He.glo_ok X G (cd.fact 23 (f := .glo "reach_tables") rfl), F⟩
  have D39 : Df K mg "joint_homes" (top 39) [] [] := by
    obtain ⟨fd, F⟩ := cd.def_ 24 (d := ⟨("joint_homes", none), "joint_homes", "joint_homes", defArgs (top 39), defBody (top 39), defScope (top 39), [], []⟩) rfl
    exact ⟨_, fd, He.glo_ok X G (cd.fact 24 (f := .glo "joint_homes") rfl), F⟩
  have D40 : Df K mg "homes" (top 40) [] [] := by
    obtain ⟨fd, F⟩ := cd.def_ 25 (d := ⟨("homes", none), "homes", "homes", defArgs (top 40), defBody (top 40), defScope (top 40), [], []⟩) rfl
    exact ⟨_, fd, He.glo_ok X G (cd.fact 25 (f := .glo "homes") rfl), F⟩
  have D41 : Df K mg "is_reversible" (top 41) [] [] := by
    obtain ⟨fd, F⟩ := cd.def_ 26 (d := ⟨("is_reversible", none), "is_reversible", "is_reversible", defArgs (top 41), defBody (top 41), defScope (top 41), [], []⟩) rfl
    exact ⟨_, fd, He.glo_ok X G (cd.fact 26 (f := .glo "is_reversible") rfl), F⟩
  have D42 : Df K mg "need_unseen_reversible" (top 42) [] [] := by
    obtain ⟨fd, F⟩ := cd.def_ 27 (d := ⟨("need_unseen_reversible", none), "need_unseen_reversible", "need_unseen_reversible", defArgs (top 42), defBody (top 42), defScope (top 42), [], []⟩) rfl
    exact ⟨_, fd, He.glo_ok X G (cd.fact 27 (f := .glo "need_unseen_reversible") rfl), F⟩
  have D45 : Df K mg "need_group" (top 45) [] [] := by
    obtain ⟨fd, F⟩ := cd.def_ 28 (d := ⟨("need_group", none), "need_group", "need_group", defArgs (top 45), defBody (top 45), defScope (top 45), [], []⟩) rfl
    exact ⟨_, fd, He.glo_ok X G (cd.fact 28 (f := .glo "need_group") rfl), F⟩
  have D46 : Df K mg "shares_of_cell" (top 46) [] [] := by
    obtain ⟨fd, F⟩ := cd.def_ 29 (d := ⟨("shares_of_cell", none), "shares_of_cell", "shares_of_cell", defArgs (top 46), defBody (top 46), defScope (top 46), [], []⟩) rfl
    exact ⟨_, fd, He.glo_ok X G (cd.fact 29 (f := .glo "shares_of_cell") rfl), F⟩
  have D47 : Df K mg "images_by_runs" (top 47) [] [] := by
    obtain ⟨fd, F⟩ := cd.def_ 30 (d := ⟨("images_by_runs", none), "images_by_runs", "images_by_runs", defArgs (top 47), defBody (top 47), defScope (top 47), [], []⟩) rfl
    exact ⟨_, fd, He.glo_ok X G (cd.fact 30 (f := .glo "images_by_runs") rfl), F⟩
  have D48 : Df K mg "shared_group" (top 48) [] [("office", .int 0), ("base", .int 0)] := by
    obtain ⟨fd, F⟩ := cd.def_ 31 (d := ⟨("shared_group", none), "shared_group", "shared_group", defArgs (top 48), defBody (top 48), defScope (top 48), [], [("office", .int 0), ("base", .int 0)]⟩) rfl
    exact ⟨_, fd, He.glo_ok X G (cd.fact 31 (f := .glo "shared_group") rfl), F⟩
  have D50 : Df K mg "need_base" (top 50) [] [] := by
    obtain ⟨fd, F⟩ := cd.def_ 32 (d := ⟨("need_base", none), "need_base", "need_base", defArgs (top 50), defBody (top 50), defScope (top 50), [], []⟩) rfl
    exact ⟨_, fd, He.glo_ok X G (cd.fact 32 (f := .glo "need_base") rfl), F⟩
  have D56 : Df K mg "is_operation" (top 56) [] [] := by
    obtain ⟨fd, F⟩ := cd.def_ 33 (d := ⟨("is_operation", none), "is_operation", "is_operation", defArgs (top 56), defBody (top 56), defScope (top 56), [], []⟩) rfl
    exact ⟨_, fd, He.glo_ok X G (cd.fact 33 (f := .glo "is_operation") rfl), F⟩
  have D57 : Df K mg "check_offices" (top 57) [] [] := by
    obtain ⟨fd, F⟩ := cd.def_ 34 (d := ⟨("check_offices", none), "check_offices", "check_offices", defArgs (top 57), defBody (top 57), defScope (top 57), [], []⟩) rfl
    exact ⟨_, fd, He.glo_ok X G (cd.fact 34 (f := .glo "check_offices") rfl), F⟩
  have D60 : Df K mg "lone_offices" (top 60) [] [] := by
    obtain ⟨fd, F⟩ := cd.def_ 35 (d := ⟨("lone_offices", none), "lone_offices", "lone_offices", defArgs (top 60), defBody (top 60), defScope (top 60), [], []⟩) rfl
    exact ⟨_, fd, He.glo_ok X G (cd.fact 35 (f := .glo "lone_offices") rfl), F⟩
  have D61 : Df K mg "multipliers" (top 61) [] [("base", .int 0)] := by
    obtain ⟨fd, F⟩ := cd.def_ 36 (d := ⟨("multipliers", none), "multipliers", "multipliers", defArgs (top 61), defBody (top 61), defScope (top 61), [], [("base", .int 0)]⟩) rfl
    exact ⟨_, fd, He.glo_ok X G (cd.fact 36 (f := .glo "multipliers") rfl), F⟩
  have D63 : Df K mg "_law_heap" (top 63) [] [] := by
    obtain ⟨fd, F⟩ := cd.def_ 37 (d := ⟨("_law_heap", none), "_law_heap", "_law_heap", defArgs (top 63), defBody (top 63), defScope (top 63), [], []⟩) rfl
    exact ⟨_, fd, He.glo_ok X G (cd.fact 37 (f := .glo "_law_heap") rfl), F⟩
  have D64 : Df K mg "_law_draw" (top 64) [] [] := by
    obtain ⟨fd, F⟩ := cd.def_ 38 (d := ⟨("_law_draw", none), "_law_draw", "_law_draw", defArgs (top 64), defBody (top 64), defScope (top 64), [], []⟩) rfl
    exact ⟨_, fd, He.glo_ok X G (cd.fact 38 (f := .glo "_law_draw") rfl), F⟩
  have D65 : Df K mg "_law_pick" (top 65) [] [] := by
    obtain ⟨fd, F⟩ := cd.def_ 39 (d := ⟨("_law_pick", none), "_law_pick", "_law_pick", defArgs (top 65), defBody (top 65), defScope (top 65), [], []⟩) rfl
    exact ⟨_, fd, He.glo_ok X G (cd.fact 39 (f := .glo "_law_pick") rfl), F⟩
  have D66 : Df K mg "_law_order" (top 66) [] [] := by
    obtain ⟨fd, F⟩ := cd.def_ 40 (d := ⟨("_law_order", none), "_law_order", "_law_order", defArgs (top 66), defBody (top 66), defScope (top 66), [], []⟩) rfl
    exact ⟨_, fd, He.glo_ok X G (cd.fact 40 (f := .glo "_law_order") rfl), F⟩
  have D67 : Df K mg "_law_names" (top 67) [] [] := by
    obtain ⟨fd, F⟩ := cd.def_ 41 (d := ⟨("_law_names", none), "_law_names", "_law_names", defArgs (top 67), defBody (top 67), defScope (top 67), [], []⟩) rfl
    exact ⟨_, fd, He.glo_ok X G (cd.fact 41 (f := .glo "_law_names") rfl), F⟩
  have D68 : Df K mg "_law_reach" (top 68) [] [] := by
    obtain ⟨fd, F⟩ := cd.def_ 42 (d := ⟨("_law_reach", none), "_law_reach", "_law_reach", defArgs (top 68), defBody (top 68), defScope (top 68), [], []⟩) rfl
    exact ⟨_, fd, He.glo_ok X G (cd.fact 42 (f := .glo "_law_reach") rfl), F⟩
  have D69 : Df K mg "_law_due" (top 69) [] [] := by
    obtain ⟨fd, F⟩ := cd.def_ 43 (d := ⟨("_law_due", none), "_law_due", "_law_due", defArgs (top 69), defBody (top 69), defScope (top 69), [], []⟩) rfl
    exact ⟨_, fd, He.glo_ok X G (cd.fact 43 (f := .glo "_law_due") rfl), F⟩
  have D72 : Df K mg "_law_table" (top 72) [] [] := by
    obtain ⟨fd, F⟩ := cd.def_ 44 (d := ⟨("_law_table", none), "_law_table", "_law_table", defArgs (top 72), defBody (top 72), defScope (top 72), [], []⟩) rfl
    exact ⟨_, fd, He.glo_ok X G (cd.fact 44 (f := .glo "_law_table") rfl), F⟩
  have D73 : Df K mg "_law_spoilt" (top 73) [] [] := by
    obtain ⟨fd, F⟩ := cd.def_ 45 (d := ⟨("_law_spoilt", none), "_law_spoilt", "_law_spoilt", defArgs (top 73), defBody (top 73), defScope (top 73), [], []⟩) rfl
    exact ⟨_, fd, He.glo_ok X G (cd.fact 45 (f := .glo "_law_spoilt") rfl), F⟩
  have D74 : Df K mg "_law_lists" (top 74) [] [] := by
    obtain ⟨fd, F⟩ := cd.def_ 46 (d := ⟨("_law_lists", none), "_law_lists", "_law_lists", defArgs (top 74), defBody (top 74), defScope (top 74), [], []⟩) rfl
    exact ⟨_, fd, He.glo_ok X G (cd.fact 46 (f := .glo "_law_lists") rfl), F⟩
  have D75 : Df K mg "_law_stores" (top 75) [] [] := by
    obtain ⟨fd, F⟩ := cd.def_ 47 (d := ⟨("_law_stores", none), "_law_stores", "_law_stores", defArgs (top 75), defBody (top 75), defScope (top 75), [], []⟩) rfl
    exact ⟨_, fd, He.glo_ok X G (cd.fact 47 (f := .glo "_law_stores") rfl), F⟩
  have D76 : Df K mg "_law_told" (top 76) [] [] := by
    obtain ⟨fd, F⟩ := cd.def_ 48 (d := ⟨("_law_told", none), "_law_told", "_law_told", defArgs (top 76), defBody (top 76), defScope (top 76), [], []⟩) rfl
    exact ⟨_, fd, He.glo_ok X G (cd.fact 48 (f := .glo "_law_told") rfl), F⟩
  have D77 : Df K mg "_law_images" (top 77) [] [] := by
    obtain ⟨fd, F⟩ := cd.def_ 49 (d := ⟨("_law_images", none), "_law_images", "_law_images", defArgs (top 77), defBody (top 77), defScope (top 77), [], []⟩) rfl
    exact ⟨_, fd, He.glo_ok X G (cd.fact 49 (f := .glo "_law_images") rfl), F⟩
  have D78 : Df K mg "_law_multiplied" (top 78) [] [] := by
    obtain ⟨fd, F⟩ := cd.def_ 50 (d := ⟨("_law_multiplied", none), "_law_multiplied", "_law_multiplied", defArgs (top 78), defBody (top 78), defScope (top 78), [], []⟩) rfl
    exact ⟨_, fd, He.glo_ok X G (cd.fact 50 (f := .glo "_law_multiplied") rfl), F⟩
  have D44 : Ci K mg "Shared" "Shared.__init__" (He.ga K "Shared") (mem (top 44) 0) := by
    obtain ⟨fd, F⟩ := cd.def_ 52 (d := ⟨("Shared", some "__init__"), "__init__", "Shared.__init__", defArgs (mem (top 44) 0), defBody (mem (top 44) 0), defScope (mem (top 44) 0), [], []⟩) rfl
    exact ⟨_, fd, He.glo_ok X G (cd.fact 52 (f := .glo "Shared") rfl), He.mkr_ok (cd.fact 62 (f := .mkr "Shared") rfl), F⟩
  have D58 : Ci K mg "Store" "Store.__init__" (He.ga K "Store") (mem (top 58) 0) := by
    obtain ⟨fd, F⟩ := cd.def_ 53 (d := ⟨("Store", some "__init__"), "__init__", "Store.__init__", defArgs (mem (top 58) 0), defBody (mem (top 58) 0), defScope (mem (top 58) 0), [], []⟩) rfl
    exact ⟨_, fd, He.glo_ok X G (cd.fact 53 (f := .glo "Store") rfl), He.mkr_ok (cd.fact 63 (f := .mkr "Store") rfl), F⟩
  have g0 := He.str_ok X G (cd.fact 91 (f := .str "LETTERS" letters) rfl)
  have g1 := He.int_ok X G (cd.fact 83 (f := .int "LONGEST_NAME" 5) rfl)
  have g2 := He.int_ok X G (cd.fact 84 (f := .int "MOST_ANSWER" 1000000000000) rfl)
  have g3 := He.int_ok X G (cd.fact 85 (f := .int "MOST_STATES" 200) rfl)
  have g4 := He.int_ok X G (cd.fact 86 (f := .int "LEAST_OFFICES" 2) rfl)
  have g5 := He.int_ok X G (cd.fact 87 (f := .int "MOST_OFFICES" 8) rfl)
  have g6 := He.int_ok X G (cd.fact 88 (f := .int "MOST_OPERATIONS" 40) rfl)
  have g7 := He.str_ok X G (cd.fact 89 (f := .str "ENDS" "ends") rfl)
  have g8 := He.str_ok X G (cd.fact 90 (f := .str "ANSWERS" "answers") rfl)
  have gS := He.free_ok X G (cd.fact 82 (f := .free "super") rfl)
  obtain ⟨N, x1, x2⟩ := errs gS c (He.glo_ok X G (cd.fact 54 (f := .glo "Refused") rfl)) (He.glo_ok X G (cd.fact 55 (f := .glo "InvalidNumber") rfl))
  have xc : Xcs K (He.ga K "Refused") (He.ga K "InvalidNumber") := ⟨He.exm_ok (cd.fact 92 (f := .exm "InvalidNumber" "InvalidNumber" true) rfl), He.exm_ok (cd.fact 93 (f := .exm "Refused" "InvalidNumber" false) rfl), He.exm_ok (cd.fact 94 (f := .exm "Refused" "Refused" true) rfl), x1, x2⟩
  have I10 := ok_is_integer (P := PW) (w := w) (base := base) D10 B
  have I11 := ok_is_number (P := PW) (w := w) (base := base) D11 I10
  have I12 := ok_is_below (P := PW) (w := w) (base := base) D12 I11
  have I13 := ok_is_letter (P := PW) (w := w) (base := base) D13 B g0
  have I14 := ok_is_name (P := PW) (w := w) (base := base) D14 B g1 I13
  have I15 := ok_is_row (P := PW) (w := w) (base := base) D15 B I12
  have I16 := ok_is_listing (P := PW) (w := w) (base := base) D16 B I12
  have I21 := ok_ends_clash (P := PW) (w := w) (base := base) D21 
  have I22 := ok_is_told_otherwise (P := PW) (w := w) (base := base) D22 
  have I23 := ok_answers_clash (P := PW) (w := w) (base := base) D23 I22
  have I24 := ok_kinds_at (P := PW) (w := w) (base := base) D24 g7 g8 I21 I23
  have I25 := ok_clash_anywhere (P := PW) (w := w) (base := base) D25 B I24
  have I20 := ok_pairs_across (P := PW) (w := w) (base := base) D20 B c1
  have I26 := ok_have_clash (P := PW) (w := w) (base := base) D26 B I20 I25
  have I28 := ok_check_state (P := PW) (w := w) (base := base) D28 c1 I12
  have I29 := ok_need_office (P := PW) (w := w) (base := base) D29 B c1 I12
  have I30 := ok_need_offices (P := PW) (w := w) (base := base) D30 B c1 I16
  have I31 := ok_operation_table (P := PW) (w := w) (base := base) D31 c1
  have I32 := ok_operations_of (P := PW) (w := w) (base := base) D32 B c1
  have I33 := ok_distances (P := PW) (w := w) (base := base) D33 B c1 I28 I30 I32
  have I34 := ok_reachable (P := PW) (w := w) (base := base) D34 B I33
  have I36 := ok_all_offices (P := PW) (w := w) (base := base) D36 B c1
  have I37 := ok_other_offices (P := PW) (w := w) (base := base) D37 B c1 I36
  have I41 := ok_is_reversible (P := PW) (w := w) (base := base) D41 B c1 I34
  have I38 := ok_reach_tables (P := PW) (w := w) (base := base) D38 B c1 I34
  have I39 := ok_joint_homes (P := PW) (w := w) (base := base) D39 B c1 I38
  have I40 := ok_homes (P := PW) (w := w) (base := base) D40 I39
  have I60 := ok_lone_offices (P := PW) (w := w) (base := base) D60 B c1 I40
  have I42 := ok_need_unseen (P := PW) (w := w) (base := base) D42 N I26 I41
  have I50 := ok_need_base (P := PW) (w := w) (base := base) D50 c1 N I12
  have I45 := ok_need_group (P := PW) (w := w) (base := base) D45 c1 I29 I12 I42
  have I46 := ok_shares_of_cell (P := PW) (w := w) (base := base) D46 B I34 I37
  have I47 := ok_images_by_runs (P := PW) (w := w) (base := base) D47 B c1
  have I44 := ok_shared_init (P := PW) (w := w) (base := base) D44 c2
  have I48 := ok_shared_group (P := PW) (w := w) (base := base) D48 B c1 I45 I46 I47 I44
  have I61 := ok_multipliers (P := PW) (w := w) (base := base) D61 B c1 c2 N I50 I42 I60 I48 I31
  have I56 := ok_is_operation (P := PW) (w := w) (base := base) D56 B g2 I14 I15
  have I57 := ok_check_offices (P := PW) (w := w) (base := base) (C := He.ga K "Store") D57 B g3 g4 g5 g6 I12 I56
  have I58 := ok_store_init (P := PW) (w := w) (base := base) D58 c1 I57
  have I64 := ok_law_draw (P := PW) (w := w) (base := base) D64 B
  have I65 := ok_law_pick (P := PW) (w := w) (base := base) D65 B I64
  have I63 := ok_law_heap (P := PW) (w := w) (base := base) D63 B
  have I66 := ok_law_order (P := PW) (w := w) (base := base) D66 B I64
  have I67 := ok_law_names (P := PW) (w := w) (base := base) D67 B I64 I65
  have I72 := ok_law_table (P := PW) (w := w) (base := base) D72 B
  have I68 := ok_law_reach (P := PW) (w := w) (base := base) D68 B
  have I69 := ok_law_due (P := PW) (w := w) (base := base) D69 B I68
  have I74 := ok_law_lists (P := PW) (w := w) (base := base) D74 B I64 I65 I72
  have I75 := ok_law_stores (P := PW) (w := w) (base := base) D75 B I64 I66 I67 I74
  have I73 := ok_law_spoilt (P := PW) (w := w) (base := base) D73 B I64 I65
  have I76 := ok_law_told (P := PW) (w := w) (base := base) D76 N xc I61
  have I77 := ok_law_images (P := PW) (w := w) (base := base) D77 B
  have I78 := ok_law_multiplied (P := PW) (w := w) (base := base) D78 B I77
  exact law_A B c1 I76 I61 I78 I63 I64 I65 I69 I75 I73 I68 I60 I58 hr hgd hR hil
end K76

set_option Elab.async false
set_option linter.all false
set_option autoImplicit false
set_option maxRecDepth 100000
set_option maxHeartbeats 1000000
/-! k76, part ZJ: the law called as its caller calls it. -/
namespace K76
open PySem PySem.Spec L2 PD
open PyProof.Rows hiding St
abbrev LawD (K : PySem.W.Frag) (f : Addr) (fd : FuncData) : Prop := FunD K "law" "law" (defArgs (top 79)) (defBody (top 79)) (defScope (top 79)) [] [] f fd
abbrev trueQ : VK := fun v _ => v = .bl true
abbrev noE : XK := fun _ _ _ => False
theorem room15 : Room 15 callerA := ⟨rfl, by decide, by decide⟩
theorem call_law {w : World} {K : PySem.W.Frag} {mg : Str → Option Value} {base hp : Heap} {f a : Addr} {fd : FuncData} {s : Shared} {H : Hp} {is : List Int} (F : LawD K f fd) (X : K.In hp) (G : hp.Ns mainGlobals mg) (c : obsK K = valK)
    (e0 : Env0 PW w K mg base callerA [] s H) (hS : SqL K H a (is.map V.int)) (hil : is.length ≤ 1000) :
    codeAny (model PW w) callerA (.call (.ref f) ⟨[.ref a], []⟩) (CR (L2.CX PW w) [] PW w H s trueQ noE) s := by
  have bind1 := FunD.bindsA (ps := ["_law_script"]) F fun _ _ _ _ _ _ us hl => match us, hl with | [_], _ => rfl
  have bind := bind1 s [.ref a] rfl
  obtain ⟨oc, od, dV, kV, doc, pm, an, cdv, ct, osl, rfl, at_f, hcode, _, _⟩ := F.ex
  have kin : K.In s.heap := e0.mod.kin.keeps fun b o z => (e0.bs b o z).1
  have free : s.heap.NoLimit := e0.mod.nolimit.keeps fun b o z => (e0.bs b o z).1
  have kinds : ∀ y ∈ (["_law_script"] : List Str).zip [Value.ref a], (defScope (top 79)).names.lookup y.1 = some .local ∨ ((defScope (top 79)).names.lookup y.1 = some .cell ∧ ((cellsFrom (s.heap.objs.size + 1) (defScope (top 79)).names []).lookup y.1).isSome = true) := by
    rintro ⟨n, v⟩ hy
    exact (scLaw.par n (List.of_mem_zip hy).1).elim .inl fun q => .inr ⟨q, PySem.W.cellsFrom_some _ _ _ (.inl q)⟩
  refine codeAny_call_function room15.depth (kin _ _ at_f) rfl scLaw.co scLaw.gen rfl (PySem.W.codeRec_of kin hcode) (bind _ _ _ _ ?_)
  refine wpAny_newFunctionEnv_cells scLaw.kind kinds fun env he s1 inn => ?_
  subst he
  refine ⟨free.keeps inn.toInCall.keep, codeAny_func ?_⟩
  have I : Inv (cxD PW w K mg base NLaw "law" (top 79) f cdv callerA [] s H noE) [] (L2.start NLaw [V.ref a]) H s1 := inv_start scLaw room15.hd e0 rfl (.cons rfl .nil) inn
  have S0 : Sts K (zn H H []) H H (L2.start NLaw [V.ref a]) (slots0 NLaw [.scr (is.map .int)]) [] := by
    refine ⟨Grow.refl (Ex.refl _), fun i d z => ?_, nofun, List.nodup_nil, nofun⟩
    have rs : Reps K H [.scr (is.map .int)] [V.ref a] := .cons (.scr hS (Reps.ints is)) .nil
    obtain ⟨v, h1, h2⟩ := rs.get (slots0_some z)
    exact ⟨v, start_some h1, h2⟩
  have body := law_all (w := w) (base := base) (f := f) (cdv := cdv) (A := callerA) (outer := []) (s := s) (H := H) (E := noE) X G c (room15.deeper _) rfl (Z := zn H H []) (U := []) (R := fun d _ => d = .bl true) (fun _ => rfl) hil
  refine wpAny_mono (body _ _ _ S0 [] s1 I) (fun fl s' out => ?_) fun e s' out => out
  cases fl with
  | ret u =>
    obtain ⟨v, σ', H', J, rv, d, σ2, B2, ρ2, O2, _, rd, _, rfl⟩ := out
    refine ⟨v, H', J.os, J.bare, J.base, J.hok, rv, ?_⟩
    cases rd
    rfl
  | next =>
    obtain ⟨σ', H', J, B2, ρ2, O2, _, _, q⟩ := out
    have q : D.non = D.bl true := q
    cases q
  | brk =>
    obtain ⟨σ', H', J, B2, ρ2, O2, _, _, q⟩ := out
    exact q.elim
  | cont =>
    obtain ⟨σ', H', J, B2, ρ2, O2, _, _, q⟩ := out
    exact q.elim
theorem head_law {w : World} {K : PySem.W.Frag} {mg mb : Str → Option Value} {f a : Addr} {fd : FuncData} {t : Shared} {vs : List Value} {is : List Int} (F : LawD K f fd) (c : obsK K = valK) (kin : K.In t.heap)
    (nsG : t.heap.Ns mainGlobals mg) (nsB : t.heap.Ns builtinsNs mb) (boot : ∀ x : Str, x ≠ "__name__" → mb x = bootBuiltins x) (free : t.heap.NoLimit) (gns : t.gens = #[])
    (obj : t.heap.get? a = some { cls := .type "list", data := .seq vs.toArray }) (hin : IntsAre vs is) (hil : is.length ≤ 63) :
    codeAny (model PW w) callerA (.call (.ref f) ⟨[.ref a], []⟩) (fun r t' => r = .ok (.ret (.bool true)) ∧ OldK t.heap t'.heap ∧ t'.os = t.os ∧ AllBare t'.gens) t := by
  have rv := vals_ints hin
  have lv := hin.length
  have le : is.length ≤ sizeLine := by rw [sizeLine_eq]; omega
  let z : HO := .frz { cls := .type "list", data := .seq vs.toArray } (.lst (is.map V.int))
  let H : Hp := fun b => if b = a ∧ K.lookup a = none then some z else none
  have inv : ∀ {b : Addr} {u : HO}, H b = some u → b = a ∧ K.lookup a = none ∧ u = z := fun {b u} e => by
    by_cases q : b = a ∧ K.lookup a = none
    · exact ⟨q.1, q.2, (Option.some.inj ((if_pos q).symm.trans e)).symm⟩
    · cases (if_neg q).symm.trans e
  have out : ∀ {b : Addr}, b ≠ a ∨ K.lookup a ≠ none → H b = none := fun {b} q => if_neg fun y => q.elim (fun n => n y.1) fun n => n y.2
  have low : ∀ {b : Addr} {o : Obj}, t.heap.get? b = some o → H b = none → (hidT t.heap H).get? b = some o := fun e n => hidT_get e n
  have dicts : ∀ {b : Addr} {m : Str → Option Value}, t.heap.Ns b m → (hidT t.heap H).Ns b m := fun {b m} ⟨o, es, ep, e, d, r⟩ => by
    refine ⟨o, es, ep, low e (out (.inl fun q => ?_)), d, r⟩
    subst q
    rw [obj] at e
    cases e
    have d' : Data.seq vs.toArray _ = Data.dict es ep := d
    cases d'
  have kin2 : K.In (hidT t.heap H) := fun b o e => low (kin b o e) (by
    by_cases q : b = a
    · subst q
      exact out (.inr (by rw [e]; simp))
    · exact out (.inl q))
  obtain ⟨mc, hc1, hc2⟩ := free
  have hM : Mod K mg (hidT t.heap H) := ⟨kin2, dicts nsG, ⟨mb, dicts nsB, boot⟩, ⟨mc, dicts hc1, hc2⟩⟩
  have hok : HOk PW w H t.heap := fun b u e => by
    obtain ⟨rfl, _, rfl⟩ := inv e
    exact ⟨obj, by rw [List.length_map]; exact le, vs, _, rv, obj⟩
  have e0 : Env0 PW w K mg (hidT t.heap H) callerA [] t H := ⟨rfl, hM, fun b o e => of_hidT e, Nat.le_of_eq (hidT_size _ _), trivial, nofun, hok, .of_eq gns⟩
  have hS : SqL K H a (is.map V.int) := by
    cases hk : K.lookup a with
    | none => exact .inl (.inr ⟨_, if_pos ⟨rfl, hk⟩⟩)
    | some o =>
      have e := kin a o hk
      rw [obj] at e
      cases e
      exact .inr ⟨_, vs.toArray, _, hk, rfl, rfl, rfl, by rw [List.size_toArray, lv]; exact le, by simpa using rv⟩
  refine codeAny_mono (call_law F kin nsG c e0 hS (by omega)) fun r t' h => ?_
  cases r with
  | error e =>
    obtain ⟨_, _, _, _, _, _, _, _, _, _, _, _, no⟩ := h
    exact no.elim
  | ok fl =>
    cases fl with
    | next => exact False.elim h
    | brk => exact False.elim h
    | cont => exact False.elim h
    | ret u =>
      obtain ⟨v, H', os, bare, un, hok', r', q⟩ := h
      have q : v = .bl true := q
      subst q
      obtain rfl : u = Value.bool true := r'
      refine ⟨rfl, OldK.of_keep fun b o e => ?_, os, bare⟩
      cases q : H b with
      | none => exact un.keep b o e q nofun nofun
      | some u =>
        obtain ⟨rfl, _, rfl⟩ := inv q
        have z2 := un.frzs b _ _ q
        obtain ⟨e2, _⟩ := hok' b _ z2
        rw [obj] at e
        cases e
        exact e2
theorem law_def {K : PySem.W.Frag} {hp : Heap} {mg : Str → Option Value} {f : Addr} (X : K.In hp) (G : hp.Ns mainGlobals mg) (hf : mg ("law" : Str) = some (.ref f)) (c : obsK K = valK) : ∃ fd, LawD K f fd := by
  have cd : He.SaysD hfa hfn K := congrArg (fun z : AlK => z.1) c
  obtain ⟨fd, F⟩ := cd.def_ 51 (d := ⟨("law", none), "law", "law", defArgs (top 79), defBody (top 79), defScope (top 79), [], []⟩) rfl
  have e := hf.symm.trans (He.glo_ok X G (cd.fact 51 (f := .glo "law") rfl))
  cases e
  exact ⟨fd, F⟩
end K76

set_option Elab.async false
set_option linter.all false
set_option autoImplicit false
open PySem PySem.W PySem.Calls PyProof.Rows
set_option maxRecDepth 100000
set_option maxHeartbeats 0
theorem PySem.Challenge.cw_sharedunseen_k76_whole_offices_that_reac_holds : PySem.Challenge.rw_sharedunseen_k76_whole_offices_that_reac.Holds := by
  w_on; o_law
  refine HandSHeadRun.head_any (r := OpenLaw.row PySem.Challenge.rw_sharedunseen_k76_whole_offices_that_reac) (q := view (OpenLaw.row PySem.Challenge.rw_sharedunseen_k76_whole_offices_that_reac).prog [79]) (H := K76.hookK) (ob := K76.obH) (M := 6000) (loose := K76.hloose)
    (d := HandSHeadRun.topDef (OpenLaw.row PySem.Challenge.rw_sharedunseen_k76_whole_offices_that_reac).prog 79) (kwd := []) K76.obH_eq (by kernel_rfl) (fun s => by kernel_rfl) K76.hrun (by kernel_rfl) (by kernel_rfl) (by kernel_rfl) (by rfl) (by first | assumption | decide +kernel) (by decide +kernel)
    ⟨rfl, rfl, rfl, rfl, rfl, by decide +kernel⟩ ?hw ?hc
  case hw => w_witness2
  case hc =>
    refine Att.attach_call (n := 63) rfl (by kernel_rfl) fun w s₀ s₁ mg mb fa o pm cd doc a vs ns G Y ho hd hcd hmg hobj hints hlen hg => ?_
    obtain ⟨K, kin, c⟩ := Y
    have hlaw : mg ("law" : PySem.Str) = some (.ref fa) := by
      have e : (HandSHeadRun.topDef (OpenLaw.row PySem.Challenge.rw_sharedunseen_k76_whole_offices_that_reac).prog 79).name = ("law" : PySem.Str) := by kernel_rfl
      rw [← e]
      exact hmg
    obtain ⟨fd, F⟩ := K76.law_def kin G.T.g hlaw c
    exact K76.head_law F c kin G.T.g G.T.b G.T.builtins G.T.nolimit hg hobj hints hlen

