import PyProof.Rows.All
import Wide.All
import OpenK.AllK
import Wide.FinOn
import KE.KStateDown
import Lean
import HandS.More
import HandS.WordsExc
import HandS.Head0
import HandS.Head1
import HandS.Head2
import HandS.HeadEnd
import HandS.HeadHook1
import HandS.HeadHook2
import HandS.HeadHook3
import HandS.HeadHook4
import HandS.HeadWalk
import PyProof.ReprRoads
import HandS.Base
import HandS.Call
import HandS.List
import HandS.Comp
import HandS.Ends
import HandS.Iter
import HandS.Text
import HandS.Words
import HandS.WordsList
import HandS.Flow
import HandS.IsInst
import HandS.Defaults
import HandS.TupAny
import HandS.TupMul
import HandS.Codes
import HandS.FStrTup
import PyProof.StrBlock2
import HandS.Walk
import KE.GoesZip
import KE.GoesMore
import KE.GoesEnum
import KE.KDictZip
import PyProof.ListNew
import HandS.Conv
import HandS.Replace
import HandS.ReplaceLit
import HandS.ReplaceDef
import HandS.SetFor
import HandS.Strs
import KE.KSuper
import HandS.Nested
import HandS.Exc
import HandS.ExcInit
import HandS.ExcSuper
import HandS.ReplaceList
import KE.IntTextLaws
import PyProof.Rows.StrDigitsNeg
import HandS.Lambda
import HandS.Zip
import HandS.Dict
import HandS.ExcField
import PyProof.SumWalkG
import HandS.RaiseMore
import KE.KExcIs
import HandS.ExcIs
import HandS.Style
import HandS.Deep
import HandS.OwnEq
import HandS.New0
import HandS.SortKw
import KE.SortKeyHeap
import KE.GoesNew
import HandS.EndTab
import HandS.TryOnly
import HandS.ExcValue
import PyProof.StrLawsChain
import PySem.Challenge.RW_refmodes_k05_texts_of_no_value
set_option Elab.async false
set_option linter.all false
set_option maxRecDepth 100000
set_option maxHeartbeats 0
namespace Rm
open PySem PySem.Spec PyProof.Rows L2
def letters : Str := "abcdefghijklmnopqrstuvwxyz"
def resv : List Str := ["apply", "call", "case", "close", "drop", "dup", "else", "end", "function", "if", "lend", "let", "match", "mod", "move", "new", "own", "return"]
def digs : Str := "0123456789"
def clsBody : Stmt → List Stmt
  | .ClassDef _ _ _ body _ _ _ _ _ _ _ => body
  | _ => []
def clsE (K : PySem.W.Frag) (C : Addr) : Bool := match K.lookup C with
  | some ⟨.type t, _, .cls cd, sl⟩ => (match cd.mro, sl.toList with
    | .ref C' :: bm, [_, _, _, _, some (.builtin n), _] => decide (t = "type") && (decide (C' = C) && (decide (n = "ValueError.__new__") && (!cd.hasDel && (cd.hasDict && HandSPX.refsVE bm))))
    | _, _ => false)
  | _ => false
def cellE (K : PySem.W.Frag) (cc C : Addr) : Bool := match K.lookup cc with
  | some ⟨_, _, .cell (some (.ref D)), _⟩ => decide (D = C)
  | _ => false
def fileE (file : Str) (K : PySem.W.Frag) (c : Addr) : Bool := match K.lookup c with
  | some ⟨_, _, .fields vs, _⟩ => (match (vs[2]? : Option Value) with
    | some (.str fl _) => file == fl
    | _ => false)
  | _ => false
def funE (file : Str) (K : PySem.W.Frag) (C f : Addr) : Bool := match K.lookup f with
  | some ⟨_, _, .func fd, _⟩ => (match fd.defaults, fd.kwdefaults, fd.annotations, fd.code, fd.closure with
    | .none, .none, none, .ref c, [(n, cc)] => decide (n = "__class__") && (PySem.W.codeIn K (.ref c) fd.qualname && (fileE file K c && cellE K cc C))
    | _, _, _, _, _ => false)
  | _ => false
abbrev FnX : Type := Option (Str × Str × Arguments × FuncBody × Scope × Addr × Addr)
def fnE (K : PySem.W.Frag) (x : Str) : FnX := match K.lookup (He.ma K (He.ga K x) "__init__") with
  | some ⟨_, _, .func fd, _⟩ => some (fd.name, fd.qualname, fd.params, fd.body, fd.scope, fd.globals, fd.builtins)
  | _ => none
def fnV (q : Str) (st : Stmt) : FnX := some ("__init__", q, defArgs st, .stmts (defBody st), defScope st, mainGlobals, builtinsNs)
def excE (file : Str) (K : PySem.W.Frag) (x : Str) (ns : List Str) : Bool :=
  clsE K (He.ga K x) && (funE file K (He.ga K x) (He.ma K (He.ga K x) "__init__") && (He.eqO (PySem.W.findIn K (.ref (He.ga K x)) "__setattr__") (some (some (.builtin "object.__setattr__"))) &&
  (decide (PySem.W.subIn K (.ref (He.ga K x)) (.type "BaseException") = some true) && (decide (PySem.W.typeIn K (.ref (He.ga K x)) = some (.type "type")) && (PySem.W.keepIn K (.ref (He.ga K x)) &&
  (He.eqO (PySem.W.findIn K (.ref (He.ga K x)) "__init__") (some (some (.ref (He.ma K (He.ga K x) "__init__")))) && (decide (PySem.W.typeIn K (.ref (He.ma K (He.ga K x) "__init__")) = some (.type "function")) &&
  (He.eqO (PySem.W.nsIn K cStatics "thirdparty.any") (some none) && (He.eqO (PySem.W.ks_superIn K (He.ga K x) (He.ga K x) "__init__") (some (some (.builtin "ValueError.__init__"))) &&
  ((ns.all fun n => He.eqO (PySem.W.findIn K (.ref (He.ga K x)) n) (some none)) && (xfB K (He.ga K x) && decide (PySem.W.exmOne K (.ref (He.ga K x)) (.ref (He.ga K x)) = some true))))))))))))
def topS (i : Nat) : Stmt := PySem.Challenge.pw_refmodes_k05_texts_of_no_value.main.body.getD i (.Pass ⟨0, 0, 0, 0⟩)
def clsS (i j : Nat) : Stmt := (clsBody (topS i)).getD j (.Pass ⟨0, 0, 0, 0⟩)
abbrev f_frozen_s : Stmt := topS 6
abbrev f_is_row_s : Stmt := topS 7
abbrev f_is_integer_s : Stmt := topS 8
abbrev f_is_small_s : Stmt := topS 9
abbrev f_is_name_s : Stmt := topS 10
abbrev f_is_written_integer_s : Stmt := topS 11
abbrev f_head_of_s : Stmt := topS 19
abbrev f_parts_of_s : Stmt := topS 20
abbrev f_is_value_s : Stmt := topS 21
abbrev f_value_text_s : Stmt := topS 22
abbrev f_grouped_s : Stmt := topS 23
abbrev f_read_value_s : Stmt := topS 24
abbrev f_law_draw_s : Stmt := topS 26
abbrev f_law_start_s : Stmt := topS 27
abbrev f_law_pick_s : Stmt := topS 28
abbrev f_law_reserved_s : Stmt := topS 29
abbrev f_law_is_name_s : Stmt := topS 30
abbrev f_law_fresh_s : Stmt := topS 31
abbrev f_law_number_s : Stmt := topS 32
abbrev f_law_same_s : Stmt := topS 33
abbrev f_law_tried_s : Stmt := topS 34
abbrev f_law_text_s : Stmt := topS 35
abbrev f_law_bent_s : Stmt := topS 36
abbrev f_law_is_number_s : Stmt := topS 37
abbrev f_law_read_s : Stmt := topS 38
abbrev f_law_s : Stmt := topS 39
abbrev x_BadValue_s : Stmt := clsS 14 0
def kpE (K : PySem.W.Frag) : Bool :=
  He.eqO (PySem.W.findIn K (.ref (He.ga K "BadValue")) "__getattribute__") (some (some (.builtin "BaseException.__getattribute__"))) && (He.eqO (PySem.W.findIn K (.ref (He.ga K "BadValue")) "__getattr__") (some none) && (decide (PySem.W.subIn K (.ref (He.ga K "BadValue")) (.type "BaseException") = some true) && (PySem.W.hasDictIn K (He.ga K "BadValue") &&
  (He.eqO (PySem.W.findIn K (.ref (He.ga K "BadValue")) "__class__") (some (some (.builtin "object.__class__"))) && (He.eqO (PySem.W.specialIn K (.builtin "object.__class__") "__get__") (some (some (.builtin "getset_descriptor.__get__"))) && (decide (PySem.W.takesIn K (.builtin "object.__class__") = some true) && (decide (PySem.W.mroIn K (He.ga K "BadValue") (.type "object") = some true) &&
  (decide (PySem.W.exmOne K (.ref (He.ga K "BadValue")) (.ref (He.ga K "ModeError")) = some true) && (decide (PySem.W.kitOne K (.ref (He.ga K "BadValue")) (.ref (He.ga K "BadValue")) = some true) && (decide (PySem.W.kitAny K (.ref (He.ga K "BadValue")) [.ref (He.ga K "BadValues"), .ref (He.ga K "BadCode")] = some false)))))))))))
def Kof (n : Nat) (g : Addr → Option Obj) : PySem.W.Frag := He.frT g (He.asD g n ++ [cStatics])
structure TabsK (tf : List He.Defn) (h : Heap) (K : PySem.W.Frag) : Prop where
  hd : ∀ p ∈ tf, PySem.W.codeHdIn K (He.cT K p).1 (He.cT K p).2 = true
  out : ∀ p ∈ tf, K.lookup (He.cT K p).2 = none
  empty : ∀ p ∈ tf, h.get? (He.cT K p).2 = some { cls := .none, data := .fields #[] }
theorem tabsK_of {tf : List He.Defn} {h : Heap} {n : Nat} (e : He.tabsB h.get? tf (Kof n h.get?) = true) : TabsK tf h (Kof n h.get?) := by
  have key : ∀ p ∈ tf, PySem.W.codeHdIn (Kof n h.get?) (He.cT (Kof n h.get?) p).1 (He.cT (Kof n h.get?) p).2 = true ∧ ∃ o, h.get? (He.cT (Kof n h.get?) p).2 = some o ∧ He.emptyTab o = true := fun p hp => by
    obtain ⟨h3, h4⟩ := He.ba (List.all_eq_true.mp e p hp)
    refine ⟨h3, ?_⟩
    cases q : h.get? (He.cT (Kof n h.get?) p).2 with
    | none =>
      rw [q] at h4
      cases h4
    | some o =>
      rw [q] at h4
      exact ⟨o, rfl, h4⟩
  exact ⟨fun p hp => (key p hp).1, fun p hp => by
    obtain ⟨_, o, q, z⟩ := key p hp
    exact He.frT_none q z, fun p hp => by
    obtain ⟨_, o, q, z⟩ := key p hp
    rw [q, He.emptyTab_eq z]⟩
def hookX (n : Nat) (fa : List He.Fa) (fn : List He.DefD) (xn : List Str) (xv : List FnX) (tf : List He.Defn) (ex : PySem.W.Frag → Bool) : PySem.W.Hook where
  α := He.AlD × (List FnX × (Bool × Bool))
  obs := fun s => (He.obsD fa fn (Kof n s.heap.get?), (xn.map (fnE (Kof n s.heap.get?)), (ex (Kof n s.heap.get?), He.tabsB s.heap.get? tf (Kof n s.heap.get?))))
  val := fun _ => (He.valD fn, (xv, (true, true)))
  says := fun _ h => ∃ K : PySem.W.Frag, K.In h ∧ He.SaysD fa fn K ∧ xn.map (fnE K) = xv ∧ ex K = true ∧ TabsK tf h K
  of := fun _ _ e => ⟨_, He.frT_in, (Prod.mk.inj e).1, (Prod.mk.inj (Prod.mk.inj e).2).1, (Prod.mk.inj (Prod.mk.inj (Prod.mk.inj e).2).2).1, tabsK_of (Prod.mk.inj (Prod.mk.inj (Prod.mk.inj e).2).2).2⟩
  keeps := fun _ _ _ ⟨K, hK, c1, c2, c3, c4⟩ k => ⟨K, PySem.W.Frag.In.keeps hK k, c1, c2, c3, c4.hd, c4.out, fun p hp => k _ _ (c4.empty p hp)⟩
def f_frozen_d : He.DefD := ⟨("frozen", none), "frozen", "frozen", defArgs f_frozen_s, defBody f_frozen_s, defScope f_frozen_s, [], []⟩
def f_is_row_d : He.DefD := ⟨("is_row", none), "is_row", "is_row", defArgs f_is_row_s, defBody f_is_row_s, defScope f_is_row_s, [], []⟩
def f_is_integer_d : He.DefD := ⟨("is_integer", none), "is_integer", "is_integer", defArgs f_is_integer_s, defBody f_is_integer_s, defScope f_is_integer_s, [], []⟩
def f_is_small_d : He.DefD := ⟨("is_small", none), "is_small", "is_small", defArgs f_is_small_s, defBody f_is_small_s, defScope f_is_small_s, [], []⟩
def f_is_name_d : He.DefD := ⟨("is_name", none), "is_name", "is_name", defArgs f_is_name_s, defBody f_is_name_s, defScope f_is_name_s, [], []⟩
def f_is_written_integer_d : He.DefD := ⟨("is_written_integer", none), "is_written_integer", "is_written_integer", defArgs f_is_written_integer_s, defBody f_is_written_integer_s, defScope f_is_written_integer_s, [], []⟩
def f_head_of_d : He.DefD := ⟨("head_of", none), "head_of", "head_of", defArgs f_head_of_s, defBody f_head_of_s, defScope f_head_of_s, [], []⟩
def f_parts_of_d : He.DefD := ⟨("parts_of", none), "parts_of", "parts_of", defArgs f_parts_of_s, defBody f_parts_of_s, defScope f_parts_of_s, [], []⟩
def f_is_value_d : He.DefD := ⟨("is_value", none), "is_value", "is_value", defArgs f_is_value_s, defBody f_is_value_s, defScope f_is_value_s, [], []⟩
def f_value_text_d : He.DefD := ⟨("value_text", none), "value_text", "value_text", defArgs f_value_text_s, defBody f_value_text_s, defScope f_value_text_s, [], []⟩
def f_grouped_d : He.DefD := ⟨("grouped", none), "grouped", "grouped", defArgs f_grouped_s, defBody f_grouped_s, defScope f_grouped_s, [], []⟩
def f_read_value_d : He.DefD := ⟨("read_value", none), "read_value", "read_value", defArgs f_read_value_s, defBody f_read_value_s, defScope f_read_value_s, [], []⟩
def f_law_draw_d : He.DefD := ⟨("_law_draw", none), "_law_draw", "_law_draw", defArgs f_law_draw_s, defBody f_law_draw_s, defScope f_law_draw_s, [], []⟩
def f_law_start_d : He.DefD := ⟨("_law_start", none), "_law_start", "_law_start", defArgs f_law_start_s, defBody f_law_start_s, defScope f_law_start_s, [], []⟩
def f_law_pick_d : He.DefD := ⟨("_law_pick", none), "_law_pick", "_law_pick", defArgs f_law_pick_s, defBody f_law_pick_s, defScope f_law_pick_s, [], []⟩
def f_law_reserved_d : He.DefD := ⟨("_law_reserved", none), "_law_reserved", "_law_reserved", defArgs f_law_reserved_s, defBody f_law_reserved_s, defScope f_law_reserved_s, [], []⟩
def f_law_is_name_d : He.DefD := ⟨("_law_is_name", none), "_law_is_name", "_law_is_name", defArgs f_law_is_name_s, defBody f_law_is_name_s, defScope f_law_is_name_s, [], []⟩
def f_law_fresh_d : He.DefD := ⟨("_law_fresh", none), "_law_fresh", "_law_fresh", defArgs f_law_fresh_s, defBody f_law_fresh_s, defScope f_law_fresh_s, [], []⟩
def f_law_number_d : He.DefD := ⟨("_law_number", none), "_law_number", "_law_number", defArgs f_law_number_s, defBody f_law_number_s, defScope f_law_number_s, [], []⟩
def f_law_same_d : He.DefD := ⟨("_law_same", none), "_law_same", "_law_same", defArgs f_law_same_s, defBody f_law_same_s, defScope f_law_same_s, [], []⟩
def f_law_tried_d : He.DefD := ⟨("_law_tried", none), "_law_tried", "_law_tried", defArgs f_law_tried_s, defBody f_law_tried_s, defScope f_law_tried_s, [], []⟩
def f_law_text_d : He.DefD := ⟨("_law_text", none), "_law_text", "_law_text", defArgs f_law_text_s, defBody f_law_text_s, defScope f_law_text_s, [], []⟩
def f_law_bent_d : He.DefD := ⟨("_law_bent", none), "_law_bent", "_law_bent", defArgs f_law_bent_s, defBody f_law_bent_s, defScope f_law_bent_s, [], []⟩
def f_law_is_number_d : He.DefD := ⟨("_law_is_number", none), "_law_is_number", "_law_is_number", defArgs f_law_is_number_s, defBody f_law_is_number_s, defScope f_law_is_number_s, [], []⟩
def f_law_read_d : He.DefD := ⟨("_law_read", none), "_law_read", "_law_read", defArgs f_law_read_s, defBody f_law_read_s, defScope f_law_read_s, [], []⟩
def f_law_d : He.DefD := ⟨("law", none), "law", "law", defArgs f_law_s, defBody f_law_s, defScope f_law_s, [], []⟩
def hfn : List He.DefD := [f_frozen_d, f_is_row_d, f_is_integer_d, f_is_small_d, f_is_name_d, f_is_written_integer_d, f_head_of_d, f_parts_of_d, f_is_value_d, f_value_text_d, f_grouped_d, f_read_value_d, f_law_draw_d, f_law_start_d, f_law_pick_d, f_law_reserved_d, f_law_is_name_d, f_law_fresh_d, f_law_number_d, f_law_same_d, f_law_tried_d, f_law_text_d, f_law_bent_d, f_law_is_number_d, f_law_read_d, f_law_d]
def hfa : List He.Fa := [.glo "frozen", .glo "is_row", .glo "is_integer", .glo "is_small", .glo "is_name", .glo "is_written_integer", .glo "head_of", .glo "parts_of", .glo "is_value", .glo "value_text", .glo "grouped", .glo "read_value", .glo "_law_draw", .glo "_law_start", .glo "_law_pick", .glo "_law_reserved", .glo "_law_is_name", .glo "_law_fresh", .glo "_law_number", .glo "_law_same", .glo "_law_tried", .glo "_law_text", .glo "_law_bent", .glo "_law_is_number", .glo "_law_read", .glo "law", .free "zip", .free "isinstance", .free "tuple", .free "list", .free "int", .free "str", .free "len", .free "all", .free "any", .free "range", .free "abs", .free "sorted", .free "sum", .free "bool", .free "super", .free "ValueError", .int "LONGEST_NAME" 8, .int "MOST_DIGITS" 30, .int "MOST_WORDS" 7, .str "LETTERS" letters, .str "DIGITS" digs, .glo "ModeError", .glo "BadValues", .glo "BadCode", .glo "RESERVED", .glo "BadValue"]
def hex (K : PySem.W.Frag) : Bool := (He.tupB K "RESERVED" (resv.map He.Dv.str)) && (excE PySem.Challenge.rw_refmodes_k05_texts_of_no_value.prog.main.file K "BadValue" ["text"] && kpE K)
theorem hex_RESERVED {K : PySem.W.Frag} (h : hex K = true) : He.tupB K "RESERVED" (resv.map He.Dv.str) = true := (Bool.and_eq_true_iff.mp h).1
abbrev R : PySem.W.OpenRow := PySem.W.OpenLaw.row PySem.Challenge.rw_refmodes_k05_texts_of_no_value
def hxn : List Str := ["BadValue"]
def hxv : List FnX := [fnV "BadValue.__init__" x_BadValue_s]
def htf : List He.Defn := [("law", none)]
abbrev hk : PySem.W.Hook := hookX 4 hfa hfn hxn hxv htf hex
def ob (s : PySem.W.SharedT) : He.AlD × (List FnX × (Bool × Bool)) := (He.obsD hfa hfn (Kof 4 (HandSHeadRun.getT s)), (hxn.map (fnE (Kof 4 (HandSHeadRun.getT s))), (hex (Kof 4 (HandSHeadRun.getT s)), He.tabsB (HandSHeadRun.getT s) htf (Kof 4 (HandSHeadRun.getT s)))))
theorem ob_eq (s : PySem.W.SharedT) : ob s = hk.obs s.abs := by
  have e : HandSHeadRun.getT s = s.abs.heap.get? := funext (HandSHeadRun.getT_eq s)
  unfold ob
  rw [e]
  rfl
def loose : List Str := [("LETTERS" : Str), ("DIGITS" : Str), ("RESERVED" : Str), ("LONGEST_NAME" : Str), ("MOST_DIGITS" : Str), ("frozen" : Str), ("is_row" : Str), ("is_integer" : Str), ("is_small" : Str), ("is_name" : Str), ("is_written_integer" : Str), ("ModeError" : Str), ("BadValue" : Str), ("BadValues" : Str), ("BadCode" : Str), ("MOST_WORDS" : Str), ("head_of" : Str), ("parts_of" : Str), ("is_value" : Str), ("value_text" : Str), ("grouped" : Str), ("read_value" : Str), ("_law_draw" : Str), ("_law_start" : Str), ("_law_pick" : Str), ("_law_reserved" : Str), ("_law_is_name" : Str), ("_law_fresh" : Str), ("_law_number" : Str), ("_law_same" : Str), ("_law_tried" : Str), ("_law_text" : Str), ("_law_bent" : Str), ("_law_is_number" : Str), ("_law_read" : Str)]
theorem run (w : World) : HandSHeadRun.RunEq R (PySem.W.view R.prog [39]) hk ob 100000 loose w := by
  intro os
  kernel_rfl
end Rm

set_option Elab.async false
set_option linter.all false
set_option maxRecDepth 100000
set_option maxHeartbeats 4000000
namespace Rm
open PySem PySem.Spec PyProof.Rows L2
structure Df (K : PySem.W.Frag) (mg : Str → Option Value) (x : Str) (st : Stmt) : Prop where
  ex : ∃ (f : Addr) (fd : FuncData), FunD K x x (defArgs st) (defBody st) (defScope st) [] [] f fd ∧ mg x = some (.ref f)
structure Cal (P : Program) (w : World) (K : PySem.W.Frag) (mg : Str → Option Value) (base : Heap) (k : Nat) (x : Str) (sp : Sp) : Prop where
  ex : ∃ (f : Addr) (fd : FuncData) (ps : List Str), FnOk P w K mg base CX0 k f fd ps sp ∧ mg x = some (.ref f) ∧ PySem.W.keepIn K (.ref f) = true ∧ Binds K fd ps []
section
variable {P : Program} {w : World} {K : PySem.W.Frag} {mg : Str → Option Value} {base : Heap} {x : Str} {st : Stmt} {N ps : List Str} {k : Nat} {sp : Sp}
theorem Df.cal (F : Df K mg x st) (S : FnScope N ps (defScope st))
    (hb : ∀ (kV doc pm : Value) (an : Option Addr) (cdv ct : Value) (us : List Value), us.length = ps.length → bindArgs (PySem.W.fnOf x x (defArgs st) (defBody st) (defScope st) .none kV doc pm an cdv ct) ⟨us, []⟩ = pure (ps.zip us))
    (len : ∀ vs H Q E, sp vs H Q E → vs.length = ps.length)
    (hbody : ∀ (f : Addr) (cdv : Value) (A : Around) (outer : List Env) (s : Shared) (H : Hp) (vs : List V) (Q : VK) (E : XK), Room k (A.deeper (envOfC x (defScope st) s.heap.objs.size f cdv)) → sp vs H Q E →
      ∃ t, PSs (cxOf CX0 P w K mg base N x (defScope st) f cdv A outer s H E).nox (defBody st) t ∧ t { nx := fun _ H' => Q .non H', rt := Q } (start N vs) H) : Cal P w K mg base (k + 1) x sp := by
  obtain ⟨f, fd, F, m⟩ := F.ex
  refine ⟨f, fd, ps, F.ok S len fun cdv A outer s H vs Q E hr hs => ?_, m, F.kp, F.bindsN hb⟩
  obtain ⟨t, h, q⟩ := hbody f cdv A outer s H vs Q E hr hs
  exact ⟨t, h.nox, q⟩
theorem Cal.mono {j : Nat} (c : Cal P w K mg base j x sp) (h : j ≤ k) : Cal P w K mg base k x sp := by
  obtain ⟨f, fd, ps, F, r⟩ := c.ex
  exact ⟨f, fd, ps, F.mono h, r⟩
theorem Cal.imp {sp' : Sp} (c : Cal P w K mg base k x sp) (h : ∀ vs H Q E, sp' vs H Q E → sp vs H Q E) : Cal P w K mg base k x sp' := by
  obtain ⟨f, fd, ps, F, r⟩ := c.ex
  exact ⟨f, fd, ps, F.imp h, r⟩
theorem Df.zero (F : Df K mg x st)
    (hb : ∀ (kV doc pm : Value) (an : Option Addr) (cdv ct : Value) (us : List Value), us.length = ps.length → bindArgs (PySem.W.fnOf x x (defArgs st) (defBody st) (defScope st) .none kV doc pm an cdv ct) ⟨us, []⟩ = pure (ps.zip us))
    (no : ∀ vs H Q E, ¬ sp vs H Q E) : Cal P w K mg base k x sp := by
  obtain ⟨f, fd, F, m⟩ := F.ex
  exact ⟨f, fd, ps, ⟨fun vs H Q E h => absurd h (no vs H Q E), fun A outer s H args us vs Q E _ _ _ _ h => absurd h (no vs H Q E)⟩, m, F.kp, F.bindsN hb⟩
end
section
variable {X : Cx} {k j : Nat} {x : Str} {sp : Sp} {p pos : Pos} {e : Expr} {es : List Expr} {t : TA}
theorem pe_c (c : Cal X.prog X.w X.K X.mg X.base k x sp) (hr : Room j X.A) (hk : k ≤ j) (hg : Gl X x) (ha : PA X (e :: es) t)
    (hdb : (x == ("__debug__" : Str)) = false := by decide) (he : starEach (e :: es) X.env = (false, eval e X.env) :: starEach es X.env := by rfl) (hpl : (backTo pos (starEach es X.env)).any (·.1) = false := by rfl) :
    PE X (.Call (.Name x p) (e :: es) [] pos) (tCall sp [] E0 t) := by
  obtain ⟨f, fd, ps, F, hm, kp, b⟩ := c.ex
  exact pe_call F (hr.mono hk) hg hm kp b .nil pass0 ha hdb he hpl
theorem pe_c0 (c : Cal X.prog X.w X.K X.mg X.base k x sp) (hr : Room j X.A) (hk : k ≤ j) (hg : Gl X x)
    (hdb : (x == ("__debug__" : Str)) = false := by decide) : PE X (.Call (.Name x p) [] [] pos) (tCall sp [] E0 tNil) := by
  obtain ⟨f, fd, ps, F, hm, kp, b⟩ := c.ex
  exact pe_call0 F (hr.mono hk) hg hm kp b .nil pass0 hdb
end
theorem small {n : Nat} (h : n ≤ 1000) : n ≤ sizeLine := Nat.le_of_lt (small1000 h)
theorem same_new {H : Hp} {p : Addr} (h : H p = none) (o : HO) : Same H (upd H p o) := fun b u q => by
  rw [upd_ne (ne_of_none q h)]
  exact q
def Keep (st sl : Addr) (H H' : Hp) : Prop := ∀ b o, b ≠ st → b ≠ sl → H b = some o → H' b = some o
theorem Keep.of {st sl : Addr} {H H' : Hp} (h : ∀ b o, b ≠ st → b ≠ sl → H b = some o → H' b = some o) : Keep st sl H H' := h
theorem Keep.refl {st sl : Addr} (H : Hp) : Keep st sl H H := fun _ _ _ _ e => e
theorem Keep.trans {st sl : Addr} {H H1 H2 : Hp} (h : Keep st sl H H1) (h' : Keep st sl H1 H2) : Keep st sl H H2 := fun b o n1 n2 e => h' b o n1 n2 (h b o n1 n2 e)
theorem Keep.same {st sl : Addr} {H H' : Hp} (h : Same H H') : Keep st sl H H' := fun b o _ _ q => h b o q
theorem Keep.new {st sl p : Addr} {H : Hp} {o : HO} (h : H p = none) : Keep st sl H (upd H p o) := .same (same_new h o)
def hid (Z : List Addr) (H : Hp) : Hp := fun b => if b ∈ Z then none else H b
theorem hid_ne {Z : List Addr} {b : Addr} {H : Hp} (h : b ∉ Z) : hid Z H b = H b := if_neg h
theorem hid_some {Z : List Addr} {b : Addr} {H : Hp} {o : HO} (h : hid Z H b = some o) : H b = some o ∧ b ∉ Z := by
  unfold hid at h
  split at h
  · cases h
  · rename_i q
    exact ⟨h, q⟩
theorem Keep.hid {st sl : Addr} {Z : List Addr} {H H' : Hp} (k : Keep st sl H H') (h1 : st ∈ Z) (h2 : sl ∈ Z) : Same (hid Z H) (hid Z H') := fun b u e => by
  obtain ⟨e1, e2⟩ := hid_some e
  rw [hid_ne e2]
  exact k _ _ (fun q => e2 (by rw [q]; exact h1)) (fun q => e2 (by rw [q]; exact h2)) e1
structure Sk (st sl : Addr) (c : Nat) (H : Hp) : Prop where
  ne : st ≠ sl
  ex : ∃ (r m : Int) (ns : List Int), H st = some (.lst [.ref sl, .int r, .int c, .int m]) ∧ H sl = some (.lst (ns.map V.int)) ∧ 0 ≤ r ∧ 0 ≤ m ∧ m < 2147483647 ∧ ns.length ≤ 63
theorem Sk.new {st sl p : Addr} {c : Nat} {H : Hp} {o : HO} (k : Sk st sl c H) (h : H p = none) : Sk st sl c (upd H p o) := by
  obtain ⟨n, r, m, ns, h1, h2, q⟩ := k
  exact ⟨n, r, m, ns, same_new h o _ _ h1, same_new h o _ _ h2, q⟩
theorem Sk.upd {st sl p : Addr} {c : Nat} {H : Hp} {o : HO} (k : Sk st sl c H) (h1 : p ≠ st) (h2 : p ≠ sl) : Sk st sl c (upd H p o) := by
  obtain ⟨n, r, m, ns, e1, e2, q⟩ := k
  exact ⟨n, r, m, ns, by rw [upd_ne h1.symm]; exact e1, by rw [upd_ne h2.symm]; exact e2, q⟩
structure Liv (Z : List Addr) (st sl : Addr) (H : Hp) : Prop where
  st : st ∈ Z
  sl : sl ∈ Z
  on : ∀ z ∈ Z, H z ≠ none
theorem Liv.keep {Z : List Addr} {st sl : Addr} {c : Nat} {H H' : Hp} (l : Liv Z st sl H) (k : Keep st sl H H') (s : Sk st sl c H') : Liv Z st sl H' := by
  refine ⟨l.st, l.sl, fun z hz => ?_⟩
  obtain ⟨n, r, m, ns, e1, e2, q⟩ := s
  by_cases h1 : z = st
  · rw [h1, e1]; exact fun e => nomatch e
  by_cases h2 : z = sl
  · rw [h2, e2]; exact fun e => nomatch e
  cases e : H z with
  | none => exact absurd e (l.on z hz)
  | some o => rw [k z o h1 h2 e]; exact fun e => nomatch e
theorem Liv.cons {Z : List Addr} {st sl p : Addr} {H : Hp} {o : HO} (l : Liv Z st sl H) : Liv (p :: Z) st sl (upd H p o) := by
  refine ⟨List.mem_cons_of_mem _ l.st, List.mem_cons_of_mem _ l.sl, fun z hz => ?_⟩
  by_cases h : z = p
  · rw [h, upd_same]; exact fun e => nomatch e
  · rw [upd_ne h]
    rcases List.mem_cons.mp hz with e | e
    · exact absurd e h
    · exact l.on z e
theorem Liv.upd {Z : List Addr} {st sl p : Addr} {H : Hp} {o : HO} (l : Liv Z st sl H) : Liv Z st sl (upd H p o) := by
  refine ⟨l.st, l.sl, fun z hz => ?_⟩
  by_cases h : z = p
  · rw [h, upd_same]; exact fun e => nomatch e
  · rw [upd_ne h]; exact l.on z hz
theorem Liv.out {Z : List Addr} {st sl p : Addr} {H : Hp} (l : Liv Z st sl H) (h : H p = none) : p ∉ Z := fun q => l.on p q h
theorem Liv.same {Z : List Addr} {st sl : Addr} {H H' : Hp} (l : Liv Z st sl H) (k : Same H H') : Liv Z st sl H' := by
  refine ⟨l.st, l.sl, fun z hz => ?_⟩
  cases e : H z with
  | none => exact absurd e (l.on z hz)
  | some o => rw [k z o e]; exact fun e => nomatch e
theorem Sk.same {st sl : Addr} {c : Nat} {H H' : Hp} (k : Sk st sl c H) (g : Same H H') : Sk st sl c H' := by
  obtain ⟨n, r, m, ns, h1, h2, q⟩ := k
  exact ⟨n, r, m, ns, g _ _ h1, g _ _ h2, q⟩
theorem dp_ints {K : PySem.W.Frag} {H : Hp} : ∀ ns : List Int, DpAll K H (ns.map V.int) (ns.map PyData.int)
  | [] => .nil
  | n :: r => .cons (.int n) (dp_ints r)
theorem lay_ints : ∀ ns : List Int, PyData.canLayAll0 (ns.map PyData.int) = true
  | [] => by simp only [List.map_nil, PyData.canLayAll0]
  | n :: r => by simp only [List.map_cons, PyData.canLayAll0, PyData.canLay0, lay_ints r, Bool.and_self]
theorem depth_ints : ∀ ns : List Int, PyData.depthAll (ns.map PyData.int) = 0
  | [] => by simp only [List.map_nil, PyData.depthAll]
  | n :: r => by simp only [List.map_cons, PyData.depthAll, PyData.depth, depth_ints r, Nat.max_self]
theorem shaped_ints (ns : List Int) : SeqAt.shaped (.list (ns.map PyData.int)) = true := by
  unfold SeqAt.shaped
  simp only [PyData.canLay0, PyData.depth, lay_ints, depth_ints, Bool.true_and]
  decide
theorem eqv_ints_nil (ns : List Int) : PyData.eqv (.list (ns.map PyData.int)) (.list []) = ns.isEmpty := by
  cases ns <;> simp [PyData.eqv, PyData.eqvAll]
theorem seqIx0 (n : Nat) : seqIndex? 0 (n + 1) = some 0 := by
  have h : ixN (n + 1) 0 = some 0 := by
    unfold ixN
    rw [if_pos (by decide), if_pos (by omega)]
    rfl
  exact (ixN_seq h).1
def spDraw : Sp := fun vs H Q _ => ∃ (st sl : Addr) (c : Nat) (n : Int), vs = [.ref st, .int n] ∧ Sk st sl c H ∧ c < 1000000 ∧ 0 < n ∧ n < 1073741824 ∧
  ∀ (r : Int) (H' : Hp), 0 ≤ r → r < n → Sk st sl (c + 1) H' → Keep st sl H H' → Q (.int r) H'
end Rm

set_option Elab.async false
set_option linter.all false
set_option maxRecDepth 100000
set_option maxHeartbeats 4000000
namespace Rm
open PySem PySem.Spec PyProof.Rows L2
def atom : PyData → Prop
  | .none => True
  | .bool _ => True
  | .int i => i.natAbs ≤ 10 ^ 30
  | .str x => x.length ≤ 9 ∧ ∀ c ∈ x.cps.toList, c < 128
  | _ => False
def ok : Nat → PyData → Prop
  | 0, d => atom d
  | n + 1, .list ds => ds.length ≤ 9 ∧ ∀ e ∈ ds, ok n e
  | n + 1, .tuple ds => ds.length ≤ 9 ∧ ∀ e ∈ ds, ok n e
  | _ + 1, d => atom d
theorem sameT {K : PySem.W.Frag} {H H' : Hp} {a : Addr} {xs : List V} (g : Same H H') (h : SqT K H a xs) : SqT K H' a xs := by
  rcases h with (h | ⟨o, h⟩) | h
  · exact .inl (.inl (g _ _ h))
  · exact .inl (.inr ⟨o, g _ _ h⟩)
  · exact .inr h
def tyN : PyData → String
  | .none => "NoneType"
  | .bool _ => "bool"
  | .int _ => "int"
  | .str _ => "str"
  | .list _ => "list"
  | .tuple _ => "tuple"
  | .dict _ => "dict"
theorem _root_.L2.Dp.tyx {K : PySem.W.Frag} {H : Hp} {v : V} {d : PyData} (h : Dp K H v d) : TyX K H v (.type (tyN d)) := by
  cases h with
  | non => exact .base .non
  | bl b => exact .base (.bl b)
  | int i => exact .base (.int i)
  | str x => exact .base (.str x)
  | lst q _ =>
    rcases q with (q | ⟨o, q⟩) | ⟨o, its, n, q, c, _⟩
    · exact .base (.lst q)
    · exact .base (.frz q)
    · exact .kList q c
  | tup q _ =>
    rcases q with (q | ⟨o, q⟩) | ⟨o, its, n, q, c, _⟩
    · exact .base (.tup q)
    · exact .fTuple q
    · exact .kTuple q c
def isTn (t n : String) : Bool := n == t || (t == "int" && n == "bool")
def isT (t : String) (d : PyData) : Bool := isTn t (tyN d)
theorem tyN_of {d : PyData} (h : ∀ k, d ≠ .dict k) : tyN d = "NoneType" ∨ tyN d = "bool" ∨ tyN d = "int" ∨ tyN d = "str" ∨ tyN d = "list" ∨ tyN d = "tuple" := by
  cases d with
  | dict k => exact absurd rfl (h k)
  | _ => simp [tyN]
theorem kit_one {K : PySem.W.Frag} {d : PyData} (h : ∀ k, d ≠ .dict k) (t : String) (ht : t = "int" ∨ t = "bool" ∨ t = "str" ∨ t = "tuple" ∨ t = "list") : PySem.W.kitOne K (.type (tyN d)) (.type t) = some (isT t d) := by
  unfold isT
  rcases tyN_of h with e | e | e | e | e | e <;> rw [e] <;> rcases ht with rfl | rfl | rfl | rfl | rfl <;> exact kit_ty (by decide +kernel)
theorem kit_many {K : PySem.W.Frag} {d : PyData} (h : ∀ k, d ≠ .dict k) : ∀ ts : List String, (∀ t ∈ ts, t = "int" ∨ t = "bool" ∨ t = "str" ∨ t = "tuple" ∨ t = "list") → PySem.W.kitAny K (.type (tyN d)) (ts.map Value.type) = some (ts.any (isT · d))
  | [], _ => kitAny_nil
  | t :: r, ht => by
    refine kitAny_cons (kit_one h t (ht t (List.mem_cons_self ..))) (fun e => ?_) (fun e => ?_)
    · rw [kit_many h r fun u hu => ht u (List.mem_cons_of_mem _ hu), List.any_cons, e, Bool.false_or]
    · rw [List.any_cons, e, Bool.true_or]
mutual
theorem dpMono {K : PySem.W.Frag} {H H' : Hp} (g : Same H H') : ∀ {d : PyData} {v : V}, Dp K H v d → Dp K H' v d
  | _, _, .non => .non
  | _, _, .bl b => .bl b
  | _, _, .int i => .int i
  | _, _, .str x => .str x
  | _, _, .lst q r => .lst (g.seq q) (dpAllMono g r)
  | _, _, .tup q r => .tup (sameT g q) (dpAllMono g r)
theorem dpAllMono {K : PySem.W.Frag} {H H' : Hp} (g : Same H H') : ∀ {ds : List PyData} {vs : List V}, DpAll K H vs ds → DpAll K H' vs ds
  | _, _, .nil => .nil
  | _, _, .cons h r => .cons (dpMono g h) (dpAllMono g r)
end
theorem _root_.L2.Dp.mono {K : PySem.W.Frag} {H H' : Hp} (g : Same H H') {d : PyData} {v : V} (h : Dp K H v d) : Dp K H' v d := dpMono g h
theorem _root_.L2.DpAll.mono {K : PySem.W.Frag} {H H' : Hp} (g : Same H H') {ds : List PyData} {vs : List V} (h : DpAll K H vs ds) : DpAll K H' vs ds := dpAllMono g h
end Rm

set_option Elab.async false
set_option linter.all false
set_option maxRecDepth 100000
set_option maxHeartbeats 4000000
namespace Rm
open PySem PySem.Spec PyProof.Rows L2
section
variable {X : Cx}
theorem mulOk {z : Str} {n : Int} (h1 : n ≤ 1000) (h2 : z.length ≤ 1000) (h0 : -1000 ≤ n) : MulOk z n := by
  refine ⟨?_, fun h _ => ?_, fun h _ => ?_⟩
  · rw [decide_eq_false (by omega), decide_eq_false (by omega)]
    rfl
  · have h3 : (z.length : Int) * n ≤ 1000 * 1000 := Int.mul_le_mul (by omega) h1 (by omega) (by decide)
    have h4 : (z.length : Int) ≤ (2 ^ 63 - 1) / n := Int.le_ediv_of_mul_le (by omega) (by omega)
    omega
  · unfold Builtin.Str.tooLong
    refine decide_eq_false ?_
    have h3 : z.length * n.toNat ≤ 1000 * 1000 := Nat.mul_le_mul h2 (by omega)
    have h4 : 1000 * 1000 ≤ sizeLine := by decide
    omega
theorem op_mul_str : OpR X (binaryOp .Mult) (fun x y H Q => ∃ (z : Str) (n : Int), x = .str z ∧ y = .int n ∧ -1000 ≤ n ∧ n ≤ 1000 ∧ z.length ≤ 1000 ∧ Q (.str (Txt.mul z n)) H) := by
  intro pins s σ H x y v u Q I rx ry h
  obtain ⟨z, n, rfl, rfl, h0, h1, h2, q⟩ := h
  obtain ⟨t, rfl⟩ := rx
  obtain ⟨t', rfl⟩ := ry
  exact PySem.SB.mul (mulOk h1 h2 h0) fun t'' k => ⟨.str _, H, I.tok _, ⟨_, rfl⟩, q⟩
end
abbrev Sq (K : PySem.W.Frag) (H : Hp) (a : Addr) (xs : List V) : Prop := SqL K H a xs ∨ SqT K H a xs
theorem Sq.mono {K : PySem.W.Frag} {H H' : Hp} {a : Addr} {xs : List V} (g : Same H H') (h : Sq K H a xs) : Sq K H' a xs := h.imp (fun q => g.seq q) (fun q => sameT g q)
mutual
def wt : PyData → Nat
  | .list ds => wtAll ds + 100
  | .tuple ds => wtAll ds + 100
  | _ => 100
def wtAll : List PyData → Nat
  | [] => 0
  | d :: r => (wt d + 2) + wtAll r
end
end Rm

set_option Elab.async false
set_option linter.all false
set_option maxRecDepth 100000
set_option maxHeartbeats 4000000
namespace Rm
open PySem PySem.Spec PyProof.Rows L2
section
variable {prog : Program} {w : World} {A : Around} {E : Value → Shared → Prop} {s : Shared} {z TI TO i1 i2 T : Addr} {fp1 fp2 : List Addr} {n1 n2 i : Nat} {P1 P2 : Nat → Value → Prop} {St1 St2 : Nat → Heap → Prop} {f : Bool} {oT : Obj}
theorem zh_item {Q : Value → Shared → Prop} (S : ZipSep2 z TI TO i1 i2 fp1 fp2) (D1 : Draws prog w A i1 fp1 n1 P1 St1) (D2 : Draws prog w A i2 fp2 n2 P2 St2)
    (hz : IsZipHeld s.heap z TI TO T f) (hT : s.heap.get? T = some oT) (hTI : IsTupOf2 s.heap TI (.ref i1) (.ref i2)) (st1 : St1 i s.heap) (st2 : St2 i s.heap) (hlt1 : i < n1) (hlt2 : i < n2)
    (hQ : ∀ x1 x2 h' tk, P1 i x1 → P2 i x2 → IsZipHeld h' z TI TO T true → St1 (i + 1) h' → St2 (i + 1) h' → IsTupOf2 h' s.heap.objs.size x1 x2 → h'.objs.size = s.heap.objs.size + 1 →
      (∀ c o, c ≠ z → c ≠ i1 → c ≠ i2 → s.heap.get? c = some o → h'.get? c = some o) → Q (.ref s.heap.objs.size) { s with heap := h', toks := tk }) :
    wpAny (model prog w) A (Builtin.«zip.__next__» ⟨[.ref z], []⟩) (fun fin s' => ∃ v, fin = .done (.ret v) ∧ Q v s') E s := by
  obtain ⟨hp, g, d, tk0, os⟩ := s
  show wpAny _ _ (field (.ref z) 2 >>= _) _ _ _
  refine wpAny_bind (wpAny_field hz rfl (x := .bool false) rfl ?_)
  show wpAny _ _ (field (.ref z) 3 >>= _) _ _ _
  refine wpAny_bind (wpAny_field hz rfl (x := .ref TI) rfl ?_)
  refine wpAny_bind (wpAny_seqItems hTI rfl ?_)
  show wpAny _ _ (Builtin.SmallTypes.ownedTupleIsFree (.ref z) >>= _) _ _ _
  refine wpAny_bind (wpAny_tupleHeld_zip hz hT fun h₁ hz₁ hs₁ => ?_)
  replace hs₁ : Heap.SameBut z hp h₁ := hs₁
  simp only [Bool.false_eq_true, if_false]
  refine wpAny_bind ?_
  rw [← Array.forIn_toList]
  simp only [List.forIn_cons, List.forIn_nil]
  refine wpAny_bind (wpAny_bind (wpAny_holding ?_))
  show wpAny _ _ (Builtin.SmallTypes.nextOf (.ref i1) >>= _) _ _ ⟨h₁, g, d, tk0, os⟩
  refine wpAny_bind (D1.item i _ _ _ hlt1 (D1.over st1 hs₁ S.zf1) fun x1 p1 tk1 hx1 sn1 hp1 => wpAny_pure ?_)
  replace hp1 : Heap.SameBut i1 h₁ p1 := hp1
  refine wpAny_pure ?_
  refine wpAny_bind (wpAny_bind (wpAny_holding ?_))
  show wpAny _ _ (Builtin.SmallTypes.nextOf (.ref i2) >>= _) _ _ ⟨p1, g, d, tk1, os⟩
  refine wpAny_bind (D2.item i _ _ _ hlt2 (D2.over (D2.over st2 hs₁ S.zf2) hp1 S.sep1_2) fun x2 p2 tk2 hx2 sn2 hp2 => wpAny_pure ?_)
  replace hp2 : Heap.SameBut i2 p1 p2 := hp2
  refine wpAny_pure (wpAny_pure ?_)
  show wpAny _ _ (newTuple [x1, x2] >>= _) _ _ _
  refine wpAny_bind (wpAny_newTuple ?_)
  have hsz : p2.objs.size = hp.objs.size := by rw [hp2.1, hp1.1, hs₁.1]
  have hz₃ : IsZipHeld p2 z TI TO T true := hp2.extBut _ _ S.zi2 (hp1.extBut _ _ S.zi1 hz₁)
  have hk : ∀ c o, c ≠ z → c ≠ i1 → c ≠ i2 → hp.get? c = some o → p2.get? c = some o := fun c o c1 c2 c3 e => hp2.extBut _ _ c3 (hp1.extBut _ _ c2 (hs₁.extBut _ _ c1 e))
  have h1₃ : St1 (i + 1) p2 := D1.over sn1 hp2 S.sep2_1
  refine wpAny_pure ⟨_, rfl, ?_⟩
  show Q (.ref p2.objs.size) _
  have hpp : IsTupOf2 (p2.push { cls := .type "tuple", data := .seq #[x1, x2] }) p2.objs.size x1 x2 := Heap.get?_push_size _ rfl
  have hz4 : (p2.push { cls := .type "tuple", data := .seq #[x1, x2] }).objs.size = p2.objs.size + 1 := Heap.size_push ..
  rw [hsz] at hpp hz4 ⊢
  exact hQ x1 x2 _ tk2 hx1 hx2 (Heap.get?_push_of_some _ hz₃) (D1.frame _ _ _ h1₃ fun b _ o e => Heap.get?_push_of_some _ e) (D2.frame _ _ _ sn2 fun b _ o e => Heap.get?_push_of_some _ e) hpp hz4 fun c o c1 c2 c3 e => Heap.get?_push_of_some _ (hk c o c1 c2 c3 e)
theorem zh_end {Q : Fin → Shared → Prop} (S : ZipSep2 z TI TO i1 i2 fp1 fp2) (D1 : Draws prog w A i1 fp1 n1 P1 St1) (D2 : Draws prog w A i2 fp2 n2 P2 St2)
    (hz : IsZipHeld s.heap z TI TO T f) (hT : s.heap.get? T = some oT) (hTI : IsTupOf2 s.heap TI (.ref i1) (.ref i2)) (st1 : St1 n1 s.heap)
    (hE : ∀ h' tk e, (∀ c o, c ≠ z → c ≠ i1 → c ≠ i2 → s.heap.get? c = some o → h'.get? c = some o) → (∃ o, h'.get? e = some o ∧ o.cls = .type "StopIteration") → E (.ref e) { s with heap := h', toks := tk }) :
    wpAny (model prog w) A (Builtin.«zip.__next__» ⟨[.ref z], []⟩) Q E s := by
  obtain ⟨hp, g, d, tk0, os⟩ := s
  show wpAny _ _ (field (.ref z) 2 >>= _) _ _ _
  refine wpAny_bind (wpAny_field hz rfl (x := .bool false) rfl ?_)
  show wpAny _ _ (field (.ref z) 3 >>= _) _ _ _
  refine wpAny_bind (wpAny_field hz rfl (x := .ref TI) rfl ?_)
  refine wpAny_bind (wpAny_seqItems hTI rfl ?_)
  show wpAny _ _ (Builtin.SmallTypes.ownedTupleIsFree (.ref z) >>= _) _ _ _
  refine wpAny_bind (wpAny_tupleHeld_zip hz hT fun h₁ hz₁ hs₁ => ?_)
  replace hs₁ : Heap.SameBut z hp h₁ := hs₁
  simp only [Bool.false_eq_true, if_false]
  refine wpAny_bind ?_
  rw [← Array.forIn_toList]
  simp only [List.forIn_cons, List.forIn_nil]
  refine wpAny_bind (wpAny_bind (wpAny_holding ?_))
  show wpAny _ _ (Builtin.SmallTypes.nextOf (.ref i1) >>= _) _ _ ⟨h₁, g, d, tk0, os⟩
  refine wpAny_bind (D1.done _ _ _ (D1.over st1 hs₁ S.zf1) fun h₂ e hs₂ he => ?_)
  exact hE h₂ tk0 e (fun c o c1 c2 _ x => hs₂ _ _ c2 (hs₁.extBut _ _ c1 x)) he
theorem zh_next {Q : Option Value → Shared → Prop} (S : ZipSep2 z TI TO i1 i2 fp1 fp2) (D1 : Draws prog w A.in1 i1 fp1 n1 P1 St1) (D2 : Draws prog w A.in1 i2 fp2 n2 P2 St2)
    (hz : IsZipHeld s.heap z TI TO T f) (hT : s.heap.get? T = some oT) (hTI : IsTupOf2 s.heap TI (.ref i1) (.ref i2)) (st1 : St1 i s.heap) (st2 : St2 i s.heap) (hlt1 : i < n1) (hlt2 : i < n2)
    (hQ : ∀ x1 x2 h' tk, P1 i x1 → P2 i x2 → IsZipHeld h' z TI TO T true → St1 (i + 1) h' → St2 (i + 1) h' → IsTupOf2 h' s.heap.objs.size x1 x2 → h'.objs.size = s.heap.objs.size + 1 →
      (∀ c o, c ≠ z → c ≠ i1 → c ≠ i2 → s.heap.get? c = some o → h'.get? c = some o) → Q (some (.ref s.heap.objs.size)) { s with heap := h', toks := tk }) :
    wpAny (model prog w) A (pyNext (.ref z)) Q E s := by
  have hTy : s.TypeIs (.ref z) "zip" := ⟨_, hz, rfl⟩
  unfold pyNext
  exact wpAny_bind (wpAny_attempt (wpAny_callSpecial?_slot (name := Str.ofString "__next__") hTy F.slot_zip_next
    (wpAny_call_entry F.slot_zip_next hTy F.entry_zip_next
      (zh_item S D1 D2 hz hT hTI st1 st2 hlt1 hlt2 fun x1 x2 h' tk a1 a2 a3 a4 a5 a6 a7 a8 => wpAny_pure (hQ x1 x2 h' tk a1 a2 a3 a4 a5 a6 a7 a8)) (F.args_zip_next_1 _))))
theorem zh_stop {Q : Option Value → Shared → Prop} (S : ZipSep2 z TI TO i1 i2 fp1 fp2) (D1 : Draws prog w A.in1 i1 fp1 n1 P1 St1) (D2 : Draws prog w A.in1 i2 fp2 n2 P2 St2)
    (hz : IsZipHeld s.heap z TI TO T f) (hT : s.heap.get? T = some oT) (hTI : IsTupOf2 s.heap TI (.ref i1) (.ref i2)) (st1 : St1 n1 s.heap)
    (hQ : ∀ h' tk, (∀ c o, c ≠ z → c ≠ i1 → c ≠ i2 → s.heap.get? c = some o → h'.get? c = some o) → Q none { s with heap := h', toks := tk }) : wpAny (model prog w) A (pyNext (.ref z)) Q E s := by
  have hTy : s.TypeIs (.ref z) "zip" := ⟨_, hz, rfl⟩
  unfold pyNext
  refine wpAny_bind (wpAny_attempt (wpAny_callSpecial?_slot (name := Str.ofString "__next__") hTy F.slot_zip_next
    (wpAny_call_entry F.slot_zip_next hTy F.entry_zip_next (zh_end S D1 D2 hz hT hTI st1 fun h' tk e hk he => ?_) (F.args_zip_next_1 _))))
  obtain ⟨o, ho, hc⟩ := he
  refine wpAny_bind (wpAny_isInstance (T := "StopIteration") (b := true) ⟨o, ho, hc⟩ isSubtype_stop ?_)
  exact wpAny_pure (hQ _ _ hk)
end

theorem zip_no_len : typeLookup (.type "zip") "__len__" = pure none := by rw [typeLookup_type, builtinLookup_eq_fast]; kernel_rfl
theorem zip_no_hint : typeLookup (.type "zip") "__length_hint__" = pure none := by rw [typeLookup_type, builtinLookup_eq_fast]; kernel_rfl
structure ZSt (z TI TO i1 i2 : Addr) (St1 St2 : Nat → Heap → Prop) (ts : List Addr) (i : Nat) (h : Heap) : Prop where
  hTI : IsTupOf2 h TI (.ref i1) (.ref i2)
  hTO : ∃ a1 a2, IsTupOf2 h TO a1 a2
  st1 : St1 i h
  st2 : St2 i h
  hz : IsZip h z TI TO .none ∨ ∃ T f, T ∈ ts ∧ IsZipHeld h z TI TO T f
theorem ZSt.type {z TI TO i1 i2 : Addr} {St1 St2 : Nat → Heap → Prop} {ts : List Addr} {i : Nat} {s : Shared} (h : ZSt z TI TO i1 i2 St1 St2 ts i s.heap) : s.TypeIs (.ref z) "zip" := by
  rcases h.hz with q | ⟨T, f, _, q⟩
  · exact ⟨_, q, rfl⟩
  · exact ⟨_, q, rfl⟩
theorem ZSt.keep {prog : Program} {w : World} {A : Around} {z TI TO i1 i2 : Addr} {fp1 fp2 : List Addr} {n1 n2 : Nat} {P1 P2 : Nat → Value → Prop} {St1 St2 : Nat → Heap → Prop} {ts : List Addr} {i : Nat} {h h' : Heap} {L : Addr}
    (D1 : Draws prog w A i1 fp1 n1 P1 St1) (D2 : Draws prog w A i2 fp2 n2 P2 St2) (x : ZSt z TI TO i1 i2 St1 St2 ts i h) (k : ∀ b o, b ≠ L → h.get? b = some o → h'.get? b = some o) (lz : z ≠ L) (lI : TI ≠ L) (lO : TO ≠ L) (l1 : L ∉ fp1) (l2 : L ∉ fp2) :
    ZSt z TI TO i1 i2 St1 St2 ts i h' := by
  obtain ⟨hTI, ⟨a1, a2, hTO⟩, st1, st2, hz⟩ := x
  refine ⟨k _ _ lI hTI, ⟨a1, a2, k _ _ lO hTO⟩, D1.frame _ _ _ st1 fun b hb o e => k b o (fun q => l1 (q ▸ hb)) e, D2.frame _ _ _ st2 fun b hb o e => k b o (fun q => l2 (q ▸ hb)) e, ?_⟩
  rcases hz with q | ⟨T, f, h1, q⟩
  · exact .inl (k _ _ lz q)
  · exact .inr ⟨T, f, h1, k _ _ lz q⟩
section
variable {prog : Program} {w : World} {A : Around} {E : Value → Shared → Prop} {s : Shared} {z TI TO i1 i2 : Addr} {fp1 fp2 : List Addr} {n i : Nat} {P1 P2 : Nat → Value → Prop} {St1 St2 : Nat → Heap → Prop} {ts : List Addr}
theorem zs_next {Q : Option Value → Shared → Prop} (S : ZipSep2 z TI TO i1 i2 fp1 fp2) (D1 : Draws prog w A.in1 i1 fp1 n P1 St1) (D2 : Draws prog w A.in1 i2 fp2 n P2 St2) (st : ZSt z TI TO i1 i2 St1 St2 ts i s.heap) (al : ∀ T ∈ ts, ∃ o, s.heap.get? T = some o) (hi : i < n)
    (hQ : ∀ x1 x2 h' tk, P1 i x1 → P2 i x2 → ZSt z TI TO i1 i2 St1 St2 (ts ++ [s.heap.objs.size]) (i + 1) h' → IsTupOf2 h' s.heap.objs.size x1 x2 → (∀ c o, c ∉ [z, TI, TO, i1, i2] → s.heap.get? c = some o → h'.get? c = some o) → Q (some (.ref s.heap.objs.size)) { s with heap := h', toks := tk }) :
    wpAny (model prog w) A (pyNext (.ref z)) Q E s := by
  obtain ⟨hTI, ⟨a1, a2, hTO⟩, st1, st2, hz⟩ := st
  rcases hz with hz | ⟨T, f, hm, hz⟩
  · refine wpAny_pyNext_zipD2_item S D1 D2 hz hTI hTO st1 st2 hi hi fun x1 x2 h' tk p1 p2 z' TO' q1 q2 hT _ hk => ?_
    refine hQ x1 x2 h' tk p1 p2 ⟨hk _ _ S.TIz S.TITO S.TIi1 S.TIi2 hTI, ⟨_, _, TO'⟩, q1, q2, .inr ⟨_, false, by simp, z'⟩⟩ hT fun c o hc e => ?_
    exact hk c o (fun q => hc (by simp [q])) (fun q => hc (by simp [q])) (fun q => hc (by simp [q])) (fun q => hc (by simp [q])) e
  · obtain ⟨oT, hT⟩ := al T hm
    refine zh_next S D1 D2 hz hT hTI st1 st2 hi hi fun x1 x2 h' tk p1 p2 z' q1 q2 hT' _ hk => ?_
    refine hQ x1 x2 h' tk p1 p2 ⟨hk _ _ S.TIz S.TIi1 S.TIi2 hTI, ⟨_, _, hk _ _ S.TOz S.Ti1 S.Ti2 hTO⟩, q1, q2, .inr ⟨T, true, by simp [hm], z'⟩⟩ hT' fun c o hc e => ?_
    exact hk c o (fun q => hc (by simp [q])) (fun q => hc (by simp [q])) (fun q => hc (by simp [q])) e
theorem zs_stop {Q : Option Value → Shared → Prop} (S : ZipSep2 z TI TO i1 i2 fp1 fp2) (D1 : Draws prog w A.in1 i1 fp1 n P1 St1) (D2 : Draws prog w A.in1 i2 fp2 n P2 St2) (st : ZSt z TI TO i1 i2 St1 St2 ts n s.heap) (al : ∀ T ∈ ts, ∃ o, s.heap.get? T = some o)
    (hQ : ∀ h' tk, (∀ c o, c ∉ [z, TI, TO, i1, i2] → s.heap.get? c = some o → h'.get? c = some o) → Q none { s with heap := h', toks := tk }) :
    wpAny (model prog w) A (pyNext (.ref z)) Q E s := by
  obtain ⟨hTI, ⟨a1, a2, hTO⟩, st1, st2, hz⟩ := st
  rcases hz with hz | ⟨T, f, hm, hz⟩
  · refine wpAny_pyNext_zipD2_end S D1 D2 hz hTI hTO st1 st2 (Nat.le_refl _) (Nat.le_refl _) (.inl rfl) fun h' tk hk => hQ h' tk fun c o hc e => ?_
    exact hk c o (fun q => hc (by simp [q])) (fun q => hc (by simp [q])) (fun q => hc (by simp [q])) (fun q => hc (by simp [q])) e
  · obtain ⟨oT, hT⟩ := al T hm
    refine zh_stop S D1 D2 hz hT hTI st1 fun h' tk hk => hQ h' tk fun c o hc e => ?_
    exact hk c o (fun q => hc (by simp [q])) (fun q => hc (by simp [q])) (fun q => hc (by simp [q])) e
end
theorem vals_refs : ∀ {ts : List Addr} {us : List Value}, Vals (ts.map V.ref) us → us = ts.map Value.ref
  | [], _, h => by cases h; rfl
  | t :: ts, _, h => by
    cases h with
    | cons r rr =>
      cases r
      rw [vals_refs rr]
      rfl
theorem refs_vals : ∀ ts : List Addr, Vals (ts.map V.ref) (ts.map Value.ref)
  | [] => .nil
  | t :: ts => .cons rfl (refs_vals ts)
section
variable {X : Cx} {pins : List (Addr × Obj)} {σ : L2.St} {H : Hp} {z TI TO i1 i2 L : Addr} {fp1 fp2 : List Addr} {St1 St2 : Nat → Heap → Prop} {xs ys : List V} {its1 its2 : List Value} {A : Around} {R : Result → Shared → Prop} {res : Value}
def Prs (xs ys : List V) (ts : List Addr) (H : Hp) : Prop := ∀ (j : Nat) (t : Addr), ts[j]? = some t → ∃ x y, xs[j]? = some x ∧ ys[j]? = some y ∧ H t = some (.tup [x, y])
theorem lz_loop (S : ZipSep2 z TI TO i1 i2 fp1 fp2) (D1 : Draws X.prog X.w A.in1.in1 i1 fp1 xs.length (fun j v => its1[j]? = some v) St1) (D2 : Draws X.prog X.w A.in1.in1 i2 fp2 xs.length (fun j v => its2[j]? = some v) St2) (hl : ys.length = xs.length) (hn : xs.length ≤ 1000) (v1 : Vals xs its1) (v2 : Vals ys its2)
    (lz : z ≠ L) (lI : TI ≠ L) (lO : TO ≠ L) (l1 : L ∉ fp1) (l2 : L ∉ fp2)
    (fin : ∀ Hf ts s', Inv X pins σ Hf s' → Same H Hf → Hf L = some (.lst (ts.map V.ref)) → ts.length = xs.length → Prs xs ys ts Hf → (∀ t ∈ ts, H t = none) → R (.ok (.ret res)) s') (hL : H L = none) :
    ∀ (k i : Nat) (s : Shared) (Hi : Hp) (ts : List Addr), xs.length - i = k → i ≤ xs.length → Inv X pins σ Hi s → Same H Hi → Hi L = some (.lst (ts.map V.ref)) → ts.length = i → Prs xs ys ts Hi → (∀ t ∈ ts, H t = none) → ZSt z TI TO i1 i2 St1 St2 ts i s.heap → (∀ b ∈ [z, TI, TO, i1, i2], FpOk X pins Hi b) →
      codeAny (model X.prog X.w) A (.builtin "list.extend.loop" ⟨[.ref L, .ref z, res], []⟩) R s := by
  intro k
  induction k with
  | zero =>
    intro i s Hi ts hk hi I g hLi hts hp hfr st hf
    have hin : i = xs.length := by omega
    subst hin
    have al : ∀ T ∈ ts, ∃ o, s.heap.get? T = some o := fun T hT => by
      obtain ⟨j, hj⟩ := List.getElem?_of_mem hT
      obtain ⟨x, y, _, _, e⟩ := hp j T hj
      obtain ⟨_, _, _, ⟨o, ho, _⟩⟩ := I.hok _ _ e
      exact ⟨o, ho⟩
    refine codeAny_builtin F.entry_extend_loop ?_
    rw [Around.under_plainId F.plain_extend_loop _]
    show wpAny _ A.in1 (pyNext (.ref z) >>= _) _ _ s
    refine wpAny_bind (zs_stop S D1 D2 st al fun h' tk hk => ?_)
    exact wpAny_pure (fin Hi ts _ (I.turnedL (t' := tk) (ch := [z, TI, TO, i1, i2]) hk hf) g hLi hts hp hfr)
  | succ k ih =>
    intro i s Hi ts hk hi I g hLi hts hp hfr st hf
    have hlt : i < xs.length := by omega
    have al : ∀ T ∈ ts, ∃ o, s.heap.get? T = some o := fun T hT => by
      obtain ⟨j, hj⟩ := List.getElem?_of_mem hT
      obtain ⟨x, y, _, _, e⟩ := hp j T hj
      obtain ⟨_, _, _, ⟨o, ho, _⟩⟩ := I.hok _ _ e
      exact ⟨o, ho⟩
    refine codeAny_builtin F.entry_extend_loop ?_
    rw [Around.under_plainId F.plain_extend_loop _]
    show wpAny _ A.in1 (pyNext (.ref z) >>= _) _ _ s
    refine wpAny_bind (zs_next S D1 D2 st al hlt fun u1 u2 h' tk p1 p2 st' hT hk' => ?_)
    obtain ⟨x, hx, rx⟩ : ∃ x, xs[i]? = some x ∧ RelV x u1 := by
      have hx : xs[i]? = some xs[i] := List.getElem?_eq_getElem hlt
      obtain ⟨u, hu, ru⟩ := v1.get hx
      rw [hu] at p1
      cases p1
      exact ⟨_, hx, ru⟩
    obtain ⟨y, hy, ry⟩ : ∃ y, ys[i]? = some y ∧ RelV y u2 := by
      have hy : ys[i]? = some (ys[i]'(by omega)) := List.getElem?_eq_getElem (by omega)
      obtain ⟨u, hu, ru⟩ := v2.get hy
      rw [hu] at p2
      cases p2
      exact ⟨_, hy, ru⟩
    have new : ObjOk X.prog X.w (upd Hi s.heap.objs.size (.tup [x, y])) h' s.heap.objs.size (.tup [x, y]) :=
      ⟨by show 2 ≤ sizeLine; decide, [u1, u2], .cons rx (.cons ry .nil), ⟨_, hT, rfl, _, rfl⟩⟩
    have hnT : Hi s.heap.objs.size = none := I.hok.fresh (Nat.le_refl _)
    have I1 : Inv X pins σ (upd Hi s.heap.objs.size (.tup [x, y])) { s with heap := h', toks := tk } := I.turnedNew (t' := tk) (ch := [z, TI, TO, i1, i2]) hk' hf (Nat.le_refl _) new
    have g1 : Same Hi (upd Hi s.heap.objs.size (.tup [x, y])) := same_new hnT _
    have hT1 : upd Hi s.heap.objs.size (.tup [x, y]) s.heap.objs.size = some (.tup [x, y]) := upd_same
    have hf1 : ∀ b ∈ [z, TI, TO, i1, i2], FpOk X pins (upd Hi s.heap.objs.size (.tup [x, y])) b := fun b hb => by
      have q := hf b hb
      refine ⟨?_, q.2⟩
      have hlt' : b < s.heap.objs.size := by
        obtain ⟨hTI, ⟨a1, a2, hTO⟩, st1, st2, hz⟩ := st
        have e' : b = z ∨ b = TI ∨ b = TO ∨ b = i1 ∨ b = i2 := by simpa using hb
        rcases e' with e | e | e | e | e
        · rw [e]
          rcases hz with q | ⟨_, _, _, q⟩
          · exact Heap.lt_size q
          · exact Heap.lt_size q
        · rw [e]; exact Heap.lt_size hTI
        · rw [e]; exact Heap.lt_size hTO
        · rw [e]; obtain ⟨_, q⟩ := D1.live _ _ st1; exact Heap.lt_size q
        · rw [e]; obtain ⟨_, q⟩ := D2.live _ _ st2; exact Heap.lt_size q
      rw [upd_ne (Nat.ne_of_lt hlt')]
      exact q.1
    have hL1 := g1 _ _ hLi
    have nLT : L ≠ s.heap.objs.size := ne_of_none hLi hnT
    obtain ⟨zl, us, c, rv, hLo⟩ := I1.hok _ _ hL1
    obtain rfl := vals_refs rv
    show wpAny _ A.in1 (updateSeq L (·.push (.ref s.heap.objs.size)) >>= _) _ _ _
    refine wpAny_bind ?_
    have hsz : (ts.map Value.ref).toArray.size = i := by simp [hts]
    refine wpAny_updateSeq hLo rfl (wpAny_pure ⟨plainId_quiet F.plain_extend_loop _, ?_⟩) (by rw [hsz]; exact Nat.le_trans (show i ≤ 1000 by omega) (by decide)) (by rw [Array.size_push, hsz]; exact Nat.le_trans (show i + 1 ≤ 1001 by omega) (by decide))
    have keep3 : ∀ b o, b ≠ L → h'.get? b = some o → (h'.update L (Obj.mapSeq (·.push (.ref s.heap.objs.size)))).get? b = some o := fun b o hb e => (Heap.get?_update_other _ _ (Ne.symm hb)).trans e
    have hLs := Heap.get?_update_self (Obj.mapSeq (·.push (Value.ref s.heap.objs.size))) hLo rfl
    have newL : ObjOk X.prog X.w (upd (upd Hi s.heap.objs.size (.tup [x, y])) L (.lst ((ts ++ [s.heap.objs.size]).map V.ref))) (h'.update L (Obj.mapSeq (·.push (.ref s.heap.objs.size)))) L (.lst ((ts ++ [s.heap.objs.size]).map V.ref)) := by
      refine ⟨?_, (ts ++ [s.heap.objs.size]).map Value.ref, c + 1, refs_vals _, ?_⟩
      · simp only [List.length_map, List.length_append, List.length_singleton, hts]
        exact Nat.le_trans (show i + 1 ≤ 1001 by omega) (by decide)
      · rw [hLs]
        simp [Obj.mapSeq]
    have I2 := I1.write (x := L) (e := L) (t' := tk) (by rw [hL1]; trivial) (.inl rfl) (fun b u hb e => keep3 b u hb e) ⟨_, hLs⟩ newL
    refine ih (i + 1) _ _ (ts ++ [s.heap.objs.size]) (by omega) hlt I2 ?_ upd_same (by simp [hts]) ?_ (fun t ht => by
      rcases List.mem_append.mp ht with h | h
      · exact hfr t h
      · rw [List.mem_singleton.mp h]; exact g.free hnT) (st'.keep D1 D2 keep3 lz lI lO l1 l2) ?_
    · intro b o e
      rw [upd_ne (ne_of_none e hL)]
      exact g1 _ _ (g _ _ e)
    · intro j t hj
      by_cases hjl : j < ts.length
      · rw [List.getElem?_append_left hjl] at hj
        obtain ⟨x', y', e1, e2, e3⟩ := hp j t hj
        refine ⟨x', y', e1, e2, ?_⟩
        have e4 := g1 _ _ e3
        rw [upd_ne (fun q => by rw [q, hL1] at e4; cases e4)]
        exact e4
      · rw [List.getElem?_append_right (by omega)] at hj
        have h0 : j - ts.length = 0 := by
          by_cases h : j - ts.length = 0
          · exact h
          · rw [List.getElem?_eq_none (by simp; omega)] at hj
            cases hj
        rw [h0] at hj
        have ht : s.heap.objs.size = t := by simpa using hj
        have hji : j = i := by omega
        rw [hji, ← ht]
        refine ⟨x, y, hx, hy, ?_⟩
        rw [upd_ne nLT.symm]
        exact hT1
    · intro b hb
      have q := hf1 b hb
      refine ⟨?_, q.2⟩
      rw [upd_ne (fun e => by have := q.1; rw [e, hL1] at this; cases this)]
      exact q.1
end

section
variable {X : Cx} {pins : List (Addr × Obj)} {σ : L2.St} {H : Hp} {s : Shared} {z TI TO i1 i2 : Addr} {fp1 fp2 : List Addr} {St1 St2 : Nat → Heap → Prop} {xs ys : List V} {its1 its2 : List Value} {A : Around}
theorem call_lz {Q : Value → Shared → Prop} {E : Value → Shared → Prop} (S : ZipSep2 z TI TO i1 i2 fp1 fp2) (D1 : Draws X.prog X.w A.in1.in1.in1 i1 fp1 xs.length (fun j v => its1[j]? = some v) St1) (D2 : Draws X.prog X.w A.in1.in1.in1 i2 fp2 xs.length (fun j v => its2[j]? = some v) St2) (hl : ys.length = xs.length) (hn : xs.length ≤ 1000) (v1 : Vals xs its1) (v2 : Vals ys its2)
    (f1 : ∀ b ∈ fp1, b < s.heap.objs.size) (f2 : ∀ b ∈ fp2, b < s.heap.objs.size) (I : Inv X pins σ H s) (st : ZSt z TI TO i1 i2 St1 St2 [] 0 s.heap) (hf : ∀ b ∈ [z, TI, TO, i1, i2], FpOk X pins H b)
    (fin : ∀ L Hf ts s', Inv X pins σ Hf s' → Same H Hf → H L = none → (∀ t ∈ ts, H t = none) → Hf L = some (.lst (ts.map V.ref)) → ts.length = xs.length → Prs xs ys ts Hf → Q (.ref L) s') :
    wpAny (model X.prog X.w) A (call (.type "list") [.ref z]) Q E s := by
  have lt : ∀ {b o}, s.heap.get? b = some o → b ≠ s.heap.objs.size := fun e => Nat.ne_of_lt (Heap.lt_size e)
  have lz : z ≠ s.heap.objs.size := by
    rcases st.hz with q | ⟨_, _, _, q⟩
    · exact lt q
    · exact lt q
  have lI : TI ≠ s.heap.objs.size := lt st.hTI
  have lO : TO ≠ s.heap.objs.size := by obtain ⟨_, _, q⟩ := st.hTO; exact lt q
  have l1 : s.heap.objs.size ∉ fp1 := fun h => Nat.lt_irrefl _ (f1 _ h)
  have l2 : s.heap.objs.size ∉ fp2 := fun h => Nat.lt_irrefl _ (f2 _ h)
  refine callType_codes (Q₁ := fun obj s₁ => obj = .ref s.heap.objs.size ∧ s₁ = { s with heap := s.heap.push { cls := .type "list", data := .seq #[] } }) F.called_list (F.typeCall_list_1 _) F.entry_list_init
    (code_list_new _ ⟨rfl, rfl⟩) fun obj s₁ h₁ => ?_
  obtain ⟨rfl, rfl⟩ := h₁
  have hS : (s.heap.push { cls := .type "list", data := .seq #[] }).get? s.heap.objs.size = some { cls := .type "list", data := .seq #[] } := Heap.get?_push_size _ rfl
  refine ⟨⟨_, hS, rfl⟩, F.args_list_init_2 _ _, ?_⟩
  show wpAny _ A.in1.in1 (do let old ← Builtin.List.listItems (.ref s.heap.objs.size); Builtin.List.listUpdate (.ref s.heap.objs.size) (fun _ => #[]); letGo old.toList.reverse; Builtin.List.listExtendWith (.ref s.heap.objs.size) (.ref z) .none) _ _ _
  refine wpAny_bind ?_
  unfold Builtin.List.listItems
  refine wpAny_bind (wpAny_seqItems hS rfl (wpAny_pure ?_))
  show wpAny _ A.in1.in1 (updateSeq s.heap.objs.size (fun _ => #[]) >>= fun _ => letGo (#[] : Array Value).toList.reverse >>= fun _ => Builtin.List.listExtendWith (.ref s.heap.objs.size) (.ref z) .none) _ _ _
  refine wpAny_bind (wpAny_updateSeq hS rfl ?_)
  have hS2 := Heap.get?_update_self (Obj.mapSeq (fun _ => (#[] : Array Value))) hS rfl
  refine wpAny_bind (wpAny_letGo ?_)
  unfold Builtin.List.listExtendWith
  have up : ∀ (h : Heap) (f : Obj → Obj), (∀ b o, s.heap.get? b = some o → h.get? b = some o) → ∀ b o, s.heap.get? b = some o → (h.update s.heap.objs.size f).get? b = some o := fun h f q b o e =>
    (Heap.get?_update_other _ _ (Ne.symm (Nat.ne_of_lt (Heap.lt_size e)))).trans (q b o e)
  have k1 : ∀ b o, s.heap.get? b = some o → (s.heap.push { cls := .type "list", data := .seq #[] }).get? b = some o := fun b o e => Heap.get?_push_of_some _ e
  have k2 := up _ (Obj.mapSeq (fun _ => (#[] : Array Value))) k1
  have gst : ∀ {h : Heap}, (∀ b o, s.heap.get? b = some o → h.get? b = some o) → ZSt z TI TO i1 i2 St1 St2 [] 0 h := fun {h} q => st.keep D1 D2 (L := s.heap.objs.size) (fun b o _ e => q b o e) lz lI lO l1 l2
  refine wpAny_bind (wpAny_typeOf (ZSt.type (s := { s with heap := _ }) (gst k2)) ?_)
  have h1 : Builtin.List.listSameRef (.ref s.heap.objs.size) (.ref z) = false := by simp [Builtin.List.listSameRef, lz.symm]
  have h2 : (Value.type "zip" == Value.type "list") = false := by decide
  have h3 : (Value.type "zip" == Value.type "tuple") = false := by decide
  simp only [h1, h2, h3, Bool.or_false, Bool.false_eq_true, if_false]
  have hzz : ∀ {h : Heap}, (∀ b o, s.heap.get? b = some o → h.get? b = some o) → IsZip h z TI TO .none := fun {h} q => by
    rcases (gst q).hz with q | ⟨_, _, q, _⟩
    · exact q
    · cases q
  refine wpAny_bind (wpAny_pyIter_zip (s := { s with heap := _ }) (hzz k2) ?_)
  refine wpAny_bind (wpAny_holding ?_)
  unfold Builtin.List.listLengthHint
  refine wpAny_bind (wpAny_specialOf (ZSt.type (s := { s with heap := _ }) (gst k2)) zip_no_len ?_)
  show wpAny _ A.in1.in1 (specialOf (Value.ref z) (Str.ofString "__length_hint__") >>= _) _ _ _
  refine wpAny_bind (wpAny_specialOf (ZSt.type (s := { s with heap := _ }) (gst k2)) zip_no_hint ?_)
  refine wpAny_pure ?_
  show wpAny _ A.in1.in1 (rule "list.extend.makes-room" >>= fun _ => Builtin.List.listTouch (.ref s.heap.objs.size) >>= fun _ =>
    again (.builtin "list.extend.loop" ⟨[.ref s.heap.objs.size, .ref z, .none], []⟩)) _ _ _
  refine wpAny_bind (wpAny_rule ?_)
  refine wpAny_bind ?_
  show wpAny _ A.in1.in1 (updateSeq s.heap.objs.size (·.push .none) >>= fun _ => updateSeq s.heap.objs.size (·.pop)) _ _ _
  refine wpAny_bind (wpAny_updateSeq hS2 rfl ?_)
  have hS3 := Heap.get?_update_self (Obj.mapSeq (·.push Value.none)) hS2 rfl
  refine wpAny_updateSeq (hz := by seq_fits) hS3 rfl ?_
  have hS4 := Heap.get?_update_self (Obj.mapSeq (·.pop)) hS3 rfl
  have k4 := up _ (Obj.mapSeq (·.pop)) (up _ (Obj.mapSeq (·.push Value.none)) k2)
  refine wpAny_pure ⟨plainId_quiet F.plain_extend_loop _, ?_⟩
  have hnL : H s.heap.objs.size = none := I.hok.fresh (Nat.le_refl _)
  have I1 := I.laid (a := s.heap.objs.size) (o := .lst []) (t' := s.toks) k4 (Nat.le_refl _) ⟨Nat.zero_le _, [], _, .nil, hS4⟩
  refine lz_loop (H := H) (A := A.in1) (L := s.heap.objs.size) (xs := xs) (ys := ys) S D1 D2 hl hn v1 v2 lz lI lO l1 l2 (fun Hf ts s' J g e1 e2 e3 e4 => ⟨rfl, fin _ Hf ts s' J g hnL e4 e1 e2 e3⟩) hnL xs.length 0 _ _ [] (by omega) (Nat.zero_le _) I1 (same_new hnL _) upd_same rfl (fun j t e => by simp at e) (fun t e => by cases e) (gst k4) fun b hb => ?_
  have q := hf b hb
  refine ⟨?_, q.2⟩
  have hb' : b = z ∨ b = TI ∨ b = TO ∨ b = i1 ∨ b = i2 := by simpa using hb
  have hne : b ≠ s.heap.objs.size := by
    rcases hb' with e | e | e | e | e
    · rw [e]; exact lz
    · rw [e]; exact lI
    · rw [e]; exact lO
    · rw [e]; obtain ⟨_, q⟩ := D1.live _ _ st.st1; exact lt q
    · rw [e]; obtain ⟨_, q⟩ := D2.live _ _ st.st2; exact lt q
  rw [upd_ne hne]
  exact q.1
end

section
variable {X : Cx} {e e2 : Expr} {ta : TA} {p pos p' pos' : Pos}
def tLZip (K : PySem.W.Frag) (ta : TA) : TE := fun σ H Q => ta σ H fun vs H1 => ∃ a b xs ys, vs = [.ref a, .ref b] ∧ ((SqL K H1 a xs ∧ SqL K H1 b ys) ∨ (SqT K H1 a xs ∧ SqT K H1 b ys)) ∧ ys.length = xs.length ∧ xs.length ≤ 1000 ∧
  ∀ L ts Hf, Same H1 Hf → H1 L = none → (∀ t ∈ ts, H1 t = none) → Hf L = some (.lst (ts.map V.ref)) → ts.length = xs.length → Prs xs ys ts Hf → Q (.ref L) Hf
theorem pe_lzip (hc : X.calm = true) (hgl : Gl X "list") (hml : X.mg "list" = none) (hgz : Gl X "zip") (hmz : X.mg "zip" = none) (ha : PA X [e, e2] ta)
    (hs : starEach [e, e2] X.env = (false, eval e X.env) :: starEach [e2] X.env := by rfl) (hpl : (backTo pos (starEach [e2] X.env)).any (·.1) = false := by rfl)
    (na : starEach [.Call (.Name "zip" p) [e, e2] [] pos] X.env = (false, eval (.Call (.Name "zip" p) [e, e2] [] pos) X.env) :: starEach [] X.env := by rfl) :
    PE X (.Call (.Name "list" p') [.Call (.Name "zip" p) [e, e2] [] pos] [] pos') (tLZip X.K ta) := by
  refine ⟨fun pins s σ H Q I h => ?_⟩
  have hd : ∀ {A : Around}, A.handled = X.A.handled → A.handled = none := fun e => by rw [e]; exact I.ok.hd hc
  refine Call_ (ld_blt I hgl hml boot_list (PyProof.Rows.callWith_type1 (args_cons (Q := fun us s1 => wpAny (model X.prog X.w) X.A (call (.type "list") us) (EP X pins σ Q) X.xe s1) ?_ na) na))
  refine Call_ (ld_blt I hgz hmz PyProof.Rows.boot_zip (PyProof.Rows.callWith_type1 (thn (ha.run pos pins s σ H _ I h) fun us s1 ⟨vs, H1, I1, r1, q1⟩ => ?_) hs hpl))
  obtain ⟨a, b, xs, ys, ex, hq, hl, hn, q⟩ := q1
  subst ex
  cases r1 with
  | cons r rr =>
    cases rr with
    | cons r' rr =>
      cases rr
      cases r
      cases r'
      have fresh5 : ∀ c, c ∈ [s1.heap.objs.size + 4, s1.heap.objs.size + 2, s1.heap.objs.size + 3, s1.heap.objs.size, s1.heap.objs.size + 1] → FpOk X pins H1 c := fun c hcm => by
        have e' : c = s1.heap.objs.size + 4 ∨ c = s1.heap.objs.size + 2 ∨ c = s1.heap.objs.size + 3 ∨ c = s1.heap.objs.size ∨ c = s1.heap.objs.size + 1 := by simpa using hcm
        have hle : s1.heap.objs.size ≤ c := by
          rcases e' with z | z | z | z | z
          · rw [z]; exact Nat.le_add_right _ _
          · rw [z]; exact Nat.le_add_right _ _
          · rw [z]; exact Nat.le_add_right _ _
          · rw [z]; exact Nat.le_refl _
          · rw [z]; exact Nat.le_add_right _ _
        exact I1.fpOk hle (I1.hok.fresh hle)
      rcases hq with ⟨hqx, hqy⟩ | ⟨hqx, hqy⟩
      · obtain ⟨its, rv, p1, _⟩ := I1.list hqx
        obtain ⟨its2, rv2, p2, _⟩ := I1.list hqy
        refine zip_begins2 (begins_list a its.toArray) (begins_list b its2.toArray) p1.isList p2.isList fun h' hz hTI hTO h1 h2 hsz hk => args_nil ?_
        have I2 : Inv X pins σ H1 { s1 with heap := h' } := I1.kept (t' := s1.toks) hk
        have la : a < s1.heap.objs.size := p1.lt
        have lb : b < s1.heap.objs.size := p2.lt
        have D1 := Draws.list (prog := X.prog) (w := X.w) (A := X.A.in1.in1.in1) (hd rfl) s1.heap.objs.size a (Nat.ne_of_lt la) its.toArray
        have D2 := Draws.list (prog := X.prog) (w := X.w) (A := X.A.in1.in1.in1) (hd rfl) (s1.heap.objs.size + 1) b (Nat.ne_of_lt (Nat.lt_succ_of_lt lb)) its2.toArray
        have e1 : its.toArray.size = xs.length := by simp [rv.length]
        have e2 : its2.toArray.size = xs.length := by rw [← hl]; simp [rv2.length]
        rw [e1] at D1
        rw [e2] at D2
        simp only [List.getElem?_toArray] at D1 D2
        refine call_lz (zip_sep2 (fp1 := [a]) (fp2 := [b]) (fun c hc => by rw [List.mem_singleton.mp hc]; exact la) (fun c hc => by rw [List.mem_singleton.mp hc]; exact lb)) (its1 := its) (its2 := its2) D1 D2 hl hn rv rv2 ?_ ?_ I2 ⟨hTI, ⟨_, _, hTO⟩, ⟨⟨_, h1, rfl, rfl⟩, ?_⟩, ⟨⟨_, h2, rfl, rfl⟩, ?_⟩, .inl hz⟩ fresh5 fun L Hf ts s' J g q1 q2 q3 q4 q5 => ⟨.ref L, Hf, J, rfl, q L ts Hf g q1 q2 q3 q4 q5⟩
        · intro c hc
          show c < h'.objs.size
          rw [hsz]
          rcases List.mem_cons.mp hc with z | z
          · rw [z]; exact Nat.lt_add_of_pos_right (by decide)
          · rw [List.mem_singleton.mp z]; exact Nat.lt_of_lt_of_le la (Nat.le_add_right _ _)
        · intro c hc
          show c < h'.objs.size
          rw [hsz]
          rcases List.mem_cons.mp hc with z | z
          · rw [z]; exact Nat.add_lt_add_left (by decide) _
          · rw [List.mem_singleton.mp z]; exact Nat.lt_of_lt_of_le lb (Nat.le_add_right _ _)
        · exact p1.isList.at fun o e => hk _ o e
        · exact p2.isList.at fun o e => hk _ o e
      · obtain ⟨its, rv, p1, _⟩ := I1.tuple hqx
        obtain ⟨its2, rv2, p2, _⟩ := I1.tuple hqy
        have t1 : s1.heap.IsTuple a its.toArray := p1
        have t2 : s1.heap.IsTuple b its2.toArray := p2
        refine zip_begins2 (begins_tuple a its.toArray) (begins_tuple b its2.toArray) t1 t2 fun h' hz hTI hTO h1 h2 hsz hk => args_nil ?_
        have I2 : Inv X pins σ H1 { s1 with heap := h' } := I1.kept (t' := s1.toks) hk
        have la : a < s1.heap.objs.size := by obtain ⟨o, ho, _⟩ := t1; exact Heap.lt_size ho
        have lb : b < s1.heap.objs.size := by obtain ⟨o, ho, _⟩ := t2; exact Heap.lt_size ho
        have D1 := Draws.tuple (prog := X.prog) (w := X.w) (A := X.A.in1.in1.in1) (hd rfl) s1.heap.objs.size a (Nat.ne_of_lt la) its.toArray
        have D2 := Draws.tuple (prog := X.prog) (w := X.w) (A := X.A.in1.in1.in1) (hd rfl) (s1.heap.objs.size + 1) b (Nat.ne_of_lt (Nat.lt_succ_of_lt lb)) its2.toArray
        have e1 : its.toArray.size = xs.length := by simp [rv.length]
        have e2 : its2.toArray.size = xs.length := by rw [← hl]; simp [rv2.length]
        rw [e1] at D1
        rw [e2] at D2
        simp only [List.getElem?_toArray] at D1 D2
        refine call_lz (zip_sep2 (fp1 := [a]) (fp2 := [b]) (fun c hc => by rw [List.mem_singleton.mp hc]; exact la) (fun c hc => by rw [List.mem_singleton.mp hc]; exact lb)) (its1 := its) (its2 := its2) D1 D2 hl hn rv rv2 ?_ ?_ I2 ⟨hTI, ⟨_, _, hTO⟩, ⟨⟨_, h1, rfl, rfl⟩, ?_⟩, ⟨⟨_, h2, rfl, rfl⟩, ?_⟩, .inl hz⟩ fresh5 fun L Hf ts s' J g q1 q2 q3 q4 q5 => ⟨.ref L, Hf, J, rfl, q L ts Hf g q1 q2 q3 q4 q5⟩
        · intro c hc
          show c < h'.objs.size
          rw [hsz]
          rcases List.mem_cons.mp hc with z | z
          · rw [z]; exact Nat.lt_add_of_pos_right (by decide)
          · rw [List.mem_singleton.mp z]; exact Nat.lt_of_lt_of_le la (Nat.le_add_right _ _)
        · intro c hc
          show c < h'.objs.size
          rw [hsz]
          rcases List.mem_cons.mp hc with z | z
          · rw [z]; exact Nat.add_lt_add_left (by decide) _
          · rw [List.mem_singleton.mp z]; exact Nat.lt_of_lt_of_le lb (Nat.le_add_right _ _)
        · exact t1.at fun o e => hk _ o e
        · exact t2.at fun o e => hk _ o e
end
end Rm

set_option Elab.async false
set_option linter.all false
set_option maxRecDepth 100000
set_option maxHeartbeats 4000000
namespace Rm
open PySem PySem.Spec PyProof.Rows L2
section
variable {P : Program} {w : World} {K : PySem.W.Frag} {mg : Str → Option Value} {base : Heap} {x : Str} {st : Stmt} {N ps : List Str} {k : Nat} {sp : Sp}
end
section
variable {X : Cx} {k j : Nat} {x : Str} {sp : Sp} {p pos : Pos} {o e : Expr} {es : List Expr} {t : TA} {to te : TE}
theorem pet_c (c : Cal X.prog X.w X.K X.mg X.base k x sp) (hr : Room j X.A) (hk : k ≤ j) (hg : Gl X x) (ha : PAT X (e :: es) t)
    (hdb : (x == ("__debug__" : Str)) = false := by decide) (he : starEach (e :: es) X.env = (false, eval e X.env) :: starEach es X.env := by rfl) (hpl : (backTo pos (starEach es X.env)).any (·.1) = false := by rfl) :
    PET X (.Call (.Name x p) (e :: es) [] pos) (tCall sp [] E0 t) := by
  obtain ⟨f, fd, ps, F, hm, kp, b⟩ := c.ex
  intro pins s σ H Q h0 I h
  refine wpAny_Call_Name_kw (ld_glob I hg hm ?_ hdb)
  refine PySem.W.callWith_K (h₀ := X.base) I.ok.mod.kin kp (thn (ha pos pins s σ H _ h0 I h) fun us s1 ⟨vs, H1, I1, r, q⟩ => ⟨I1.kIn, ?_⟩) he hpl
  exact run_fn F (hr.mono hk) b .nil pass0 I1 r q
theorem pet_m1 {id : String} {name : Str} {apos pos : Pos} {r : V → List V → Hp → VK → Prop} (slot : Slot "str" name id) (ty : typeOf (.builtin id) = pure (.type "method_descriptor")) (rule : MtR X id r) (ho : PET X o to) (he : PE X e te)
    (hs : starEach [e] X.env = [(false, eval e X.env)] := by rfl) (hbase : attributeBase o name X.env (eval o X.env) = eval o X.env := by rfl) (hline : (apos.endLine == pos.line) = true := by rfl) :
    PET X (.Call (.Attribute o name apos) [e] [] pos) (tM1 r to te) := by
  intro pins s σ H Q h0 I h
  refine PySem.Call_method1 hbase hs hline (thn (ho pins s σ H _ h0 I h) fun v s1 ⟨x, H1, I1, r1, q1⟩ => ?_)
  obtain ⟨⟨a, rfl⟩, q1⟩ := q1
  obtain ⟨t, rfl⟩ := _root_.id r1
  refine ⟨"str", _, F.plainAttrs_str, slot, ty, typeIs_str _ _ _, (fun _ e => nomatch e), Calls.callWith_builtin rfl (Calls.evalArgs_plain (Calls.spliced_cons ?_))⟩
  exact thn (he.run pins s1 σ H1 _ I1 q1) fun u s2 ⟨y, H2, I2, r2, q2⟩ => Calls.spliced_nil (rule pins s2 σ H2 _ [y] _ [u] Q I2 r1 (.cons r2 .nil) q2)
theorem pet_split {apos pos : Pos} (ho : PET X o to) (he : PE X e te) (hs : starEach [e] X.env = [(false, eval e X.env)] := by rfl) (hbase : attributeBase o "split" X.env (eval o X.env) = eval o X.env := by rfl) (hline : (apos.endLine == pos.line) = true := by rfl) :
    PET X (.Call (.Attribute o "split" apos) [e] [] pos) (tM1 (fun x xs H Q => ∃ a b, x = .str a ∧ xs = [.str b] ∧ (b.length == 0) = false ∧ a.length + 2 ≤ sizeLine ∧ rNewStrs (Txt.split a b) H Q) to te) :=
  pet_m1 F.slot_str_split F.type_str_split mt_split ho he hs hbase hline
theorem pst_set {i : Nat} {x : Str} {e : Expr} {te : TE} {pos pos' : Pos} (hN : X.N.Nodup) (hi : X.N[i]? = some x) (hx : Loc X.env.scope x) (he : PET X e te) (hs : swapsWith e (some (.Name x pos')) pos.line X.env = pure false := by rfl) (hf : X.fn x = true ∨ X.env.scope.names.lookup x = some .local := by first | exact .inl rfl | exact .inr rfl | assumption) :
    PST X (.Assign [.Name x pos'] e pos) (tAsg te (gName i)) := by
  intro pins s σ H D h0 I h
  refine wpAny_Assign_Name (thn (he pins s σ H _ h0 I h) fun v s1 ⟨y, H1, I1, r1, q1⟩ => ?_) hs
  exact store_ok I1 hN hi hx r1 (fun s2 I2 => ⟨_, H1, I2, q1⟩) hf
end
end Rm

set_option Elab.async false
set_option linter.all false
set_option maxRecDepth 100000
set_option maxHeartbeats 4000000
namespace Rm
open PySem PySem.Spec PyProof.Rows L2
def kinds : List Str → Nat
  | [] => 0
  | x :: r => if x ∈ r then kinds r else kinds r + 1
section
variable {P : Program} {w : World} {A : Around} {E : Value → Shared → Prop} {s : Shared}
def SetT (P : Program) (w : World) (h : Heap) (a : Addr) (xs : List Str) : Prop := h.SetOf (strKind P w) a (fun k => decide (k ∈ xs)) (kinds xs)
theorem SetT.at {h h' : Heap} {a : Addr} {xs : List Str} (R : SetT P w h a xs) (k : ∀ o, h.get? a = some o → h'.get? a = some o) : SetT P w h' a xs := by
  obtain ⟨o, es, ep, t, ho, r⟩ := R
  exact ⟨o, es, ep, t, k o ho, r⟩
set_option maxHeartbeats 8000000 in
end
section
variable {X : Cx}
end
end Rm

set_option Elab.async false
set_option linter.all false
set_option maxRecDepth 100000
set_option maxHeartbeats 4000000
namespace Rm
open PySem PySem.Spec PyProof.Rows L2
def nm (x : Str) : Bool := (decide (1 ≤ x.length) && decide (x.length ≤ 8) && !resv.contains x) && x.cps.toList.all fun c => decide (c ∈ letters.cps.toList)
def isNm : PyData → Bool
  | .str x => nm x
  | _ => false
section
variable {X : Cx} {x : Str} {pos : Pos} {v : V}
end
section
variable {P : Program} {w : World} {K : PySem.W.Frag} {mg : Str → Option Value} {base : Heap}
end
end Rm

set_option Elab.async false
set_option linter.all false
set_option maxRecDepth 100000
set_option maxHeartbeats 4000000
namespace PySem
namespace SVE
abbrev bw (x : Addr) : Obj := { cls := .type "method-wrapper", dict := none, data := .fields #[.builtin "ValueError.__init__", .ref x], slots := #[] }
theorem type_vi : typeOf (.builtin "ValueError.__init__") = pure (.type "wrapper_descriptor") := by show builtinType _ = _; rw [builtinType_eq_fast]; kernel_rfl
theorem nac : (kfb_private% "nameAndClass") (Value.builtin "ValueError.__init__") = (pure (("__init__" : Str), Value.type "ValueError") : Sem (Str × Value)) := by kernel_rfl
section
open PySem.W
variable {prog : Program} {w : World} {M : Model} {A : Around} {E : Value → Shared → Prop} {h : Heap} {g : Array GenState} {d : Drawn} {t : Nat} {os : OsState}
theorem run_wd {x C : Addr} {P : Fin → Shared → Prop} (hin : W.Looks M h (isInstance (.ref x) (.type "ValueError")) true) (hq : P (.done (.ret (.ref h.objs.size))) ⟨h.push (bw x), g, d, t, os⟩) :
    wpAny M A (Builtin.«wrapper_descriptor.__get__» ⟨[.builtin "ValueError.__init__", .ref x, .ref C], []⟩) P E ⟨h, g, d, t, os⟩ := by
  unfold Builtin.«wrapper_descriptor.__get__»
  refine wpAny_bind (wpAny_of_eq (a := (.builtin "ValueError.__init__", some (.ref x), some (.ref C))) (by first | rfl | kernel_rfl) ?_)
  show wpAny M A ((kfb_private% "checkInstance") (.builtin "ValueError.__init__") (.ref x) >>= fun _ => newFields "method-wrapper" [.builtin "ValueError.__init__", .ref x] >>= fun r => ret r) P E _
  refine wpAny_bind ?_
  show wpAny M A ((kfb_private% "nameAndClass") (.builtin "ValueError.__init__") >>= _) _ E _
  refine wpAny_bind (wpAny_of_eq nac ?_)
  show wpAny M A (isInstance (.ref x) (.type "ValueError") >>= _) _ E _
  refine wpAny_bind (hin.at ?_)
  refine KFB.if_not rfl ?_
  refine wpAny_pure ?_
  exact wpAny_bind (wpAny_newObj_type (wpAny_pure hq))
theorem super_ga {so D x C : Addr} {l₀ l : List Value} {K : Frag} {name : Str} {tk : Tok} {Q : Fin → Shared → Prop}
    (hso : h.get? so = some { cls := .type "super", dict := none, data := .fields #[.ref D, .ref x, .ref C], slots := #[] }) (hno : W.Looks (model prog w) h (opaqueClassAbove (.ref C)) none)
    (hC : W.Looks (model prog w) h (mroOf (.ref C)) l₀) (hl : (l₀.dropWhile (· != .ref D)).drop 1 = l) (X : K.In h)
    (hf : alongIn K name l = some (some (.builtin "ValueError.__init__"))) (hxC : x ≠ C) (hn : (name == ("__class__" : Str)) = false) (hin : W.Looks (model prog w) h (isInstance (.ref x) (.type "ValueError")) true)
    (hq : Q (.done (.ret (.ref h.objs.size))) ⟨h.push (bw x), g, d, t, os⟩) :
    wpAny (model prog w) A (Builtin.«super.__getattribute__» ⟨[.ref so, .str name tk], []⟩) Q E ⟨h, g, d, t, os⟩ := by
  have hlk := ESX.slot_wd.lookup
  have hne : (Value.ref x == Value.ref C) = false := by simp [hxC]
  have hTf := type_vi
  have hTi : Shared.TypeIs ⟨h, g, d, t, os⟩ (.builtin "ValueError.__init__") "wrapper_descriptor" := type_vi
  have hdt : ({ cls := .type "super", dict := none, data := .fields #[.ref D, .ref x, .ref C], slots := #[] } : Obj).data = .fields #[.ref D, .ref x, .ref C] := rfl
  have f0 : (#[.ref D, .ref x, .ref C] : Array Value)[0]? = some (.ref D) := rfl
  have f1 : (#[.ref D, .ref x, .ref C] : Array Value)[1]? = some (.ref x) := rfl
  have f2 : (#[.ref D, .ref x, .ref C] : Array Value)[2]? = some (.ref C) := rfl
  unfold Builtin.«super.__getattribute__»
  repeat (first
    | (with_reducible refine wpAny_field hso hdt f0 ?_) | (with_reducible refine wpAny_field hso hdt f1 ?_) | (with_reducible refine wpAny_field hso hdt f2 ?_)
    | (with_reducible refine ks_wpAny_notOpaque hno ?_)
    | (with_reducible refine Looks.at hC ?_; rw [hl])
    | (refine ks_forIn_along X (fun _ _ => rfl) rfl ?_ hf)
    | (with_reducible refine wpAny_call_entry ESX.slot_wd hTi ESX.entry_wd ?_ (ESX.args_wd _ _ _))
    | (with_reducible refine run_wd hin ?_)
    | (with_reducible refine ⟨_, rfl, ?_⟩)
    | (simp only [hn, hne, Bool.or_false, Bool.false_eq_true, if_false])
    | wp_step
    | dsimp only)
  all_goals exact hq
theorem getMethod_super {so D x C : Addr} {l₀ l : List Value} {K : Frag} {name : Str} {pl : Sem Bool} {Q : Value × List Value → Shared → Prop}
    (hso : h.get? so = some { cls := .type "super", dict := none, data := .fields #[.ref D, .ref x, .ref C], slots := #[] }) (hno : W.Looks (model prog w) h (opaqueClassAbove (.ref C)) none)
    (hC : W.Looks (model prog w) h (mroOf (.ref C)) l₀) (hl : (l₀.dropWhile (· != .ref D)).drop 1 = l) (X : K.In h)
    (hf : alongIn K name l = some (some (.builtin "ValueError.__init__"))) (hxC : x ≠ C) (hn : (name == ("__class__" : Str)) = false) (hin : W.Looks (model prog w) h (isInstance (.ref x) (.type "ValueError")) true)
    (hq : Q (.ref h.objs.size, []) ⟨h.push (bw x), g, d, t + 1, os⟩) :
    wpAny (model prog w) A (getMethod (.ref so) name pl) Q E ⟨h, g, d, t, os⟩ := by
  have hlk := F.ks_slot_super_ga.lookup
  have hcan := F.ks_canon_super_ga
  have hT : ∀ t', (⟨h, g, d, t', os⟩ : Shared).TypeIs (.ref so) "super" := fun _ => ⟨_, hso, rfl⟩
  unfold getMethod
  refine wpAny_bind (wpAny_specialOf (hT _) hlk ?_)
  show wpAny _ _ (if (Manifest.canonical "super.__getattribute__" != "object.__getattribute__") = true then _ else _) _ _ _
  rw [if_pos hcan]
  unfold getAttr getAttrBy
  refine wpAny_bind (wpAny_bind (wpAny_mkText (wpAny_holding (wpAny_bind (wpAny_typeOf (hT _) (wpAny_bind (wpAny_of_eq hlk ?_)))))))
  show wpAny _ _ (getAttrByItsOwn (.ref so) (.str name t) (.type "super") (.builtin "super.__getattribute__") true false) _ _ _
  unfold getAttrByItsOwn hookBefore callGetattribute boundAndCalled
  refine wpAny_bind (wpAny_of_eq (show (if onTheHeap (.type "super") then typeLookup (.type "super") "__getattr__" else pure none) = pure none from rfl) ?_)
  refine wpAny_bind (wpAny_attempt (wpAny_holding ?_))
  show wpAny _ _ (bindSpecial (.builtin "super.__getattribute__") (.ref so) >>= _) _ _ _
  refine wpAny_bind (wpAny_of_eq (F.ks_slot_super_ga.bind _) ?_)
  refine wpAny_mono (Q := fun v s' => v = .ref h.objs.size ∧ s' = ⟨h.push (bw x), g, d, t + 1, os⟩) (E := fun _ _ => False)
    (wpAny_call_entry F.ks_slot_super_ga (hT _) F.ks_entry_super_ga (super_ga hso hno hC hl X hf hxC hn hin ⟨_, rfl, rfl, rfl⟩) (F.ks_gaArgs_super _ _)) (fun v s' hv => ?_) fun _ _ z => z.elim
  obtain ⟨rfl, rfl⟩ := hv
  exact wpAny_pure (wpAny_pure hq)
end
section
open PySem.W PySem.Calls PyProof.Rows
variable {prog : Program} {w : World} {M : Model} {A : Around} {E : Value → Shared → Prop} {s : Shared}
theorem callWith_bw {pos : Pos} {u x : Addr} {first : List Value} {args : List (Bool × Sem Value)} {Q : Value → Shared → Prop} (hplain : args.any (·.1) = false)
    (h : wpAny M A (evalArgs (.ref u) true args []) (fun a s₁ => s₁.heap.get? u = some (bw x) ∧ wpAny M A (call (.ref u) (first ++ a.pos) a.kw) Q E s₁) E s) : wpAny M A (callWith pos (.ref u) first args []) Q E s := by
  unfold callWith
  refine wpAny_bind (wpAny_holding (wpAny_mono h (fun a s₁ h₁ => wpAny_bind (wpAny_standAt ?_)) fun _ _ x => x))
  obtain ⟨ho, hcall⟩ := h₁
  simp only [hplain, List.any_nil, Bool.or_false]
  refine wpAny_bind (m := keeperOf (.ref u)) ?_
  unfold keeperOf
  refine wpAny_bind (wpAny_load ho ?_)
  simp only [bw, show (Value.type "method-wrapper" != Value.type "method") = true by decide, show (Value.type "method-wrapper" == Value.type "builtin_function_or_method" || Value.type "method-wrapper" == Value.type "method-wrapper") = true by decide, if_true]
  refine wpAny_pure ?_
  exact wpAny_bind (wpAny_mono hcall (fun r s₂ hr => wpAny_bind (wpAny_holding (wpAny_point (wpAny_pure hr)))) fun _ _ x => x)
theorem callWith_bound {pos : Pos} {u x : Addr} {first : List Value} {env : Env} {e : Expr} {rest : List Expr} {Q : Value → Shared → Prop}
    (h : wpAny M A (spliced (backTo pos (starEach (e :: rest) env))) (fun vs s₁ => s₁.heap.get? u = some (bw x) ∧ wpAny M A (call (.ref u) (first ++ vs)) Q E s₁) E s)
    (he : starEach (e :: rest) env = (false, eval e env) :: starEach rest env) (hplain : (backTo pos (starEach rest env)).any (·.1) = false) :
    wpAny M A (callWith pos (.ref u) first (backTo pos (starEach (e :: rest) env)) []) Q E s := by
  rw [he] at h ⊢
  refine callWith_bw (x := x) (by show (false || (backTo pos (starEach rest env)).any (·.1)) = false; rw [hplain]; rfl) ?_
  exact evalArgs_plain h
end
section
variable {prog : Program} {w : World} {A : Around} {E : Value → Shared → Prop} {h : Heap} {g : Array GenState} {d : Drawn} {t : Nat} {os : OsState}
variable {nm q : Str} {C N : Addr} {bs bm : List Value} {hdct : Bool} {sn : List Str} {sub : List Value} {ab : Bool} {col : Option Bool} {dd : Option Addr} {k0 k1 k2 k3 k5 : Option Value}
theorem call_bw {u e t0 : Addr} {rest : List Value} {Q : Value → Shared → Prop}
    (hC : h.get? C = some (excClassObj nm q C N bs bm hdct sn sub ab col dd k0 k1 k2 k3 k5 "ValueError.__new__")) (he : h.get? e = some (HandSPX.excO C t0)) (hu : h.get? u = some (bw e)) (hrest : rest.length ≤ sizeLine)
    (hq : ∀ h' t1, (∀ b o, b ≠ e → h.get? b = some o → h'.get? b = some o) → h'.get? e = some (HandSPX.excO C t1) → Q .none ⟨h', g, d, t, os⟩) :
    wpAny (model prog w) A (call (.ref u) rest) Q E ⟨h, g, d, t, os⟩ := by
  refine wpAny_call (codeAny_of_tree ?_)
  show wpAny _ A.in1 (callAny (.ref u) ⟨rest, []⟩) _ _ _
  simp only [callAny]
  refine wpAny_bind (wpAny_load hu ?_)
  simp only [bw, show (Value.type "method-wrapper" == Value.type "method" || Value.type "method-wrapper" == Value.type "builtin_function_or_method" || Value.type "method-wrapper" == Value.type "method-wrapper") = true by decide, if_true]
  refine W.KFB.if_so (by decide) ?_
  refine wpAny_bind (ESX.check_bound F.excBase_ValueError hC he rfl ?_)
  refine wpAny_bind (wpAny_pure (wpAny_pure ?_))
  refine ⟨Code.quiet_builtin _ (by decide +kernel), codeAny_builtin F.excBase_ValueError.initEntry ?_⟩
  rw [Around.under_plainId F.excBase_ValueError.init.plain _]
  wp_walk
  refine hq _ h.objs.size (fun b o hb ho => ?_) ?_
  · rw [Heap.get?_update_other _ _ (Ne.symm hb)]
    exact Heap.get?_push_of_some _ ho
  · rw [Heap.get?_update_self _ (Heap.get?_push_of_some _ he) rfl]
    rfl
end
end SVE
end PySem
namespace Rm
open PySem PySem.Spec PyProof.Rows L2 NdefX
structure SupF (P : Program) (K : PySem.W.Frag) (mg : Str → Option Value) (C f : Addr) (F : NF) : Prop where
  lk : ∃ (oc : Value) (od : Option Addr) (doc pm ctv : Value) (osl : Array (Option Value)), K.lookup f = some ⟨oc, od, .func (F.fd doc pm ctv), osl⟩
  hcd : PySem.W.codeIn K (.ref F.c) F.qual = true
  code : ∃ (ccl : Value) (cdd : Option Addr) (vs : Array Value) (ccs : Array (Option Value)) (file : Str) (tf : Tok), K.lookup F.c = some ⟨ccl, cdd, .fields vs, ccs⟩ ∧ vs[2]? = some (.str file tf) ∧ ((P.main.file : Str) == file) = true
  cell : ∃ (cc : Addr) (cl : Value) (cld : Option Addr) (csl : Array (Option Value)), F.cl = [(("__class__" : Str), cc)] ∧ K.lookup cc = some ⟨cl, cld, .cell (some (.ref C)), csl⟩
  top : (P.main.scope.names.lookup ("super" : Str)).isSome = false
  nosup : mg "super" = none
  opq : PySem.W.nsIn K cStatics "thirdparty.any" = some none
  oex : OexC K C
  along : PySem.W.ks_superIn K C C "__init__" = some (some (.builtin "ValueError.__init__"))
theorem zip_self {ps : List Str} {us : List Value} {x : Str} {u : Value} (nd : (x :: ps).Nodup) : ((x :: ps).zip (u :: us)).reverse.lookup x = some u := zip_look (i := 0) nd rfl rfl
section
variable {CX : CXT} {P : Program} {w : World} {K : PySem.W.Frag} {mg : Str → Option Value} {base : Heap} {N ps : List Str} {F : NF} {f C : Addr} {k : Nat} {sp : Sp}
theorem fn_super {doc pm ctv oc : Value} {od : Option Addr} {osl : Array (Option Value)} {e : Expr} {es : List Expr} {rest : List Stmt} {p0 p1 p2 p3 p4 : Pos} {pl : Addr → Sem Bool} {ar : Arg}
    (T : SupF P K mg C f F) (lk : K.lookup f = some ⟨oc, od, .func (F.fd doc pm ctv), osl⟩) (S : NScope N (("self" : Str) :: ps) ["__class__"] F.scope)
    (hbody : F.body = .Expr (.Call (.Attribute (.Call (.Name "super" p0) [] [] p1) "__init__" p2) (e :: es) [] p3) p4 :: rest)
    (hks : F.scope.names.lookup ("super" : Str) = some .globalImplicit) (hp : (F.params.posonlyargs ++ F.params.args).head? = some ar) (har : ar.arg = "self")
    (hcall : ∀ L, eval (.Call (.Attribute (.Call (.Name "super" p0) [] [] p1) "__init__" p2) (e :: es) [] p3) (envF F f L) = (do
      let ov ← attributeBase (.Call (.Name "super" p0) [] [] p1) "__init__" (envF F f L) (eval (.Call (.Name "super" p0) [] [] p1) (envF F f L))
      standAt p2.atName
      let (g', first) ← holding [ov] (getMethod ov "__init__" (pl L))
      callWith p3 g' first (backTo p3 (starEach (e :: es) (envF F f L))) []))
    (hst : ∀ L, starEach (e :: es) (envF F f L) = (false, eval e (envF F f L)) :: starEach es (envF F f L)) (hpl : ∀ L, (backTo p3 (starEach es (envF F f L))).any (·.1) = false)
    (hint : ∀ L, interactive (envF F f L) = false) (hsw : ∀ L, swapsWith (.Call (.Attribute (.Call (.Name "super" p0) [] [] p1) "__init__" p2) (e :: es) [] p3) none p4.line (envF F f L) = pure false)
    (len : ∀ vs H Q E, sp vs H Q E → vs.length = (("self" : Str) :: ps).length)
    (run : ∀ (A : Around) (outer : List Env) (s : Shared) (H : Hp) (vs : List V) (Q : VK) (E : XK), Room k (A.deeper (envF F f s.heap.objs.size)) → sp vs H Q E →
      ∃ (a : Addr) (vr : List V) (ta : TA) (t : TS), vs = .ref a :: vr ∧ H a = some (exo a C none) ∧ PA (ncx CX P w K mg base N F f A outer s H E) (e :: es) ta ∧ PSs (ncx CX P w K mg base N F f A outer s H E) rest t ∧
        ta (startF N vs [none]) H fun ws H1 => ws.length ≤ 1000 ∧ H1 a = some (exo a C none) ∧ t { nx := fun _ H' => Q .non H', rt := Q } (startF N vs [none]) H1) :
    FnOk P w K mg base CX (k + 1) f (F.fd doc pm ctv) (("self" : Str) :: ps) sp := by
  refine ⟨len, fun A outer s H args us vs Q E hr e0 hb r hsp => ?_⟩
  have hl := len _ _ _ _ hsp
  have KX : K.In s.heap := e0.mod.kin.keeps fun b o e => (e0.bs b o e).1
  have lim : s.heap.NoLimit := e0.mod.nolimit.keeps fun b o e => (e0.bs b o e).1
  obtain ⟨cc, ccl, cld, csl, hcl, hcc⟩ := T.cell
  obtain ⟨kcl, kdd, kvs, kcs, file, tf, hcode, hvs, hfile⟩ := T.code
  have hCell : CellsAt F.cl ["__class__"] [none] s.heap H := by
    have one : ∀ y c, F.cl.lookup y = some c → y = "__class__" ∧ c = cc := fun y c h => by
      rw [hcl] at h
      have := PySem.mem_of_lookup h
      simp at this
      exact this
    refine ⟨rfl, fun y c h => ?_, fun x y c h1 h2 => (one x c h1).1.trans (one y c h2).1.symm, fun i y h => ?_⟩
    · rw [(one y c h).2]
      exact ⟨(e0.bs _ _ (e0.mod.kin _ _ hcc)).2, _, _, KX _ _ hcc, rfl⟩
    · cases i with
      | zero =>
        simp at h
        subst h
        refine ⟨cc, by rw [hcl]; rfl, fun v hv => ?_⟩
        simp at hv
      | succ i => simp at h
  refine ks_codeAny_call_defAt (fd := F.fd doc pm ctv) (body := F.body) hr.depth (KX _ _ lk) rfl lim (PySem.W.codeRec_of KX T.hcd) rfl hb S.nocell (fun ⟨n, _⟩ hy => S.par n (List.of_mem_zip hy).1) (fun h₁ hns kp => ?_) S.co S.gen S.kind
  show _root_.PySem.wpAt (model P w) (A.deeper (envF F f s.heap.objs.size)) (.func F.body (envF F f s.heap.objs.size)) (execs F.body (envF F f s.heap.objs.size)) _ _ _
  have I : L2.Inv (ncx CX P w K mg base N F f A outer s H E) [] (startF N vs [none]) H { s with heap := h₁, toks := s.toks + ((("self" : Str) :: ps).zip us).length } := inv_startN S hr.hd e0 hl r hCell hns kp
  obtain ⟨a, vr, ta, t, rfl, ha, hPA, hPS, hq⟩ := run A outer s H vs Q E (hr.deeper _) hsp
  obtain ⟨nm, q, NN, bs, bm, sn, sub, ab, col, dd, k0, k1, k2, k3, k5, hC, hbm⟩ := T.oex.cls
  have hcls : PySem.W.clsIn K C = some { name := nm, bases := bs, mro := .ref C :: bm, ns := NN, qualname := q, hasDict := true, slotNames := sn, subclasses := sub, abstract := ab, collection := col, hasDel := false } := by unfold PySem.W.clsIn; rw [hC] <;> rfl
  have hmro : ∀ b, (Value.ref C :: bm).contains b = true → PySem.W.mroIn K C b = some true := fun b hb => by
    unfold PySem.W.mroIn
    rw [hcls, Option.bind_some, if_neg (show ¬ (List.isEmpty (Value.ref C :: bm) = true) from Bool.false_ne_true), hb]
  have hal := T.along
  unfold PySem.W.ks_superIn at hal
  rw [hcls] at hal
  have hboot : bootBuiltins "super" = some (.type "super") := by decide +kernel
  have hkc : F.scope.names.lookup ("__class__" : Str) = some .free := S.frk _ (by simp)
  have ndP : (("self" : Str) :: ps).Nodup := by
    have z := S.nd.sublist (List.take_sublist ((("self" : Str) :: ps).length + (["__class__"] : List Str).length) N)
    rw [S.pre] at z
    exact (List.nodup_append.mp z).1
  have haC : a ≠ C := fun z => by
    have h1 := (e0.bs _ _ (e0.mod.kin _ _ hC)).2
    rw [← z, ha] at h1
    cases h1
  obtain ⟨u0, ur, rfl, ru⟩ : ∃ u0 ur, us = u0 :: ur ∧ L2.RelV (.ref a) u0 := by
    cases r with
    | cons h _ => exact ⟨_, _, rfl, h⟩
  obtain rfl : u0 = Value.ref a := ru
  have K1 : K.In h₁ := fun b o e => kp _ _ (KX b o e)
  obtain ⟨t0, hx1⟩ := exo_at I.hok ha
  obtain ⟨mb, b1, b2⟩ := I.mod.blt
  rw [hbody]
  refine ks_wpAt_execs_cons (ks_wpAt_Expr_any (ks_wpAt_MethodCall (pl := pl s.heap.objs.size) (ks_wpAt_super_base (env := envF F f s.heap.objs.size) hks hkc rfl rfl (K1 _ _ lk) rfl hp rfl (K1 _ _ hcode) rfl hvs hfile T.top ?_) (hcall _)) (hint _) (hsw _))
  refine PySem.W.ks_loadName_global S.kind hks (Calls.loadGlobal_builtin (I.mod.glob.keeps I.bk) T.nosup (b1.keeps I.bk) ((b2 "super" (by decide)).trans hboot) ⟨rfl, ?_⟩)
  refine wpAny_loadName_free (c := cc) S.kind hkc (by show F.cl.lookup _ = _; rw [hcl]; rfl) ⟨_, K1 _ _ hcc, rfl⟩ ?_
  rw [har]
  refine wpAny_loadName_local S.kind (S.par "self" (by simp)) hns (zip_self ndP) ?_
  refine ks_wpAny_isType_cls (K1 _ _ hC) rfl ⟨rfl, ?_⟩
  refine ks_wpAny_call_super (K1 _ _ hC) rfl hx1 rfl (fun c e => nomatch e) (PySem.W.looks_mroIn K1 (hmro _ (by simp))) (fun h2 e2 kk2 => ?_)
  have I2 := I.kept (t' := s.toks + ((("self" : Str) :: ps).zip (Value.ref a :: ur)).length) kk2
  have K2 : K.In h2 := fun b o e => kk2 _ _ (K1 b o e)
  have IA : PySem.W.InstAt h2 a { cls := .ref C, dict := none, data := .fields #[.ref t0, .none, .none, .none, .bool false, .none] } C none := ⟨kk2 _ _ hx1, rfl, rfl, trivial⟩
  refine PySem.SVE.getMethod_super e2 (PySem.W.looks_opaque K2 T.opq) ((PySem.W.looks_clsIn K2 hcls).andThen .now) rfl K2 hal haC rfl (IA.type.andThen (PySem.W.looks_mroIn K2 (hmro _ ?_))) ?_
  · rw [List.contains_cons, PySem.HandSPX.refsVE_contains "ValueError" bm hbm, show PySem.HandSPX.veTail.contains (.type "ValueError") = true by decide +kernel, Bool.or_true]
  have kk3 : ∀ b o, h2.get? b = some o → (h2.push (PySem.SVE.bw a)).get? b = some o := fun b o e => Heap.get?_push_of_some _ e
  have I3 := I2.kept (t' := s.toks + ((("self" : Str) :: ps).zip (Value.ref a :: ur)).length + 1) kk3
  have hu3 : (h2.push (PySem.SVE.bw a)).get? h2.objs.size = some (PySem.SVE.bw a) := Heap.get?_push_size _ rfl
  have I4 := I3.pins_of (pins' := [(h2.objs.size, PySem.SVE.bw a)]) (fun p hp => by
    rw [List.mem_singleton.mp hp]
    exact ⟨hu3, I2.hok.fresh (Nat.le_refl _), Nat.ne_of_gt (Nat.lt_of_lt_of_le I2.lt (Nat.le_refl _)), I2.nofs (Nat.le_refl _), fun v e => nomatch e⟩)
  refine PySem.SVE.callWith_bound (x := a) (thn (hPA.run p3 _ _ _ H _ I4 hq) fun us1 s3 ⟨ws, H3, I5, rv, hlen, hea, hrest⟩ => ⟨(I5.pin (h2.objs.size, PySem.SVE.bw a) (List.mem_append_right _ (by simp))).1, ?_⟩) (hst _) (hpl _)
  show wpAny _ _ (call (.ref h2.objs.size) us1) _ _ _
  have hpin := (I5.pin (h2.objs.size, PySem.SVE.bw a) (List.mem_append_right _ (by simp))).1
  obtain ⟨t1, ho⟩ := exo_at I5.hok hea
  have I6 := I5.pins_of (pins' := []) (fun p hp => nomatch hp)
  obtain ⟨h3, g3, d3, t3, os3⟩ := s3
  refine PySem.SVE.call_bw (I5.kIn _ _ hC) ho hpin ?_ fun h' t2 kw hx => ?_
  · rw [← Paired.length rv, sizeLine_eq]
    omega
  have J := I6.write (t' := t3) (x := a) (e := a) (o := exo a C none) (by rw [hea]; exact True.intro) (.inl rfl) kw ⟨_, hx⟩ (exo_ok hx)
  have eu : upd H3 a (exo a C none) = H3 := by
    funext b
    by_cases hb : b = a
    · rw [hb, upd_same, hea]
    · rw [upd_ne hb]
  rw [eu] at J
  refine wpAt_of_wpAny (wpAny_mono (hPS.run [] _ _ H3 _ J hrest) (fun fl s' hs => ?_) fun e s' hs => hs)
  have fin : ∀ {σ' : L2.St} {H' : Hp} {v : V} {u : Value}, L2.Inv (ncx CX P w K mg base N F f A outer s H E) [] σ' H' s' → L2.RelV v u → Q v H' → CE outer P w H s Q u s' :=
    fun {σ' H' v u} J rv q => ⟨v, H', J.os, J.bare, J.base, J.hok, rv, q⟩
  cases fl with
  | ret u =>
    obtain ⟨v, σ', H', J, rv, q⟩ := hs
    exact fin J rv q
  | next =>
    obtain ⟨σ', H', J, q⟩ := hs
    exact fin (v := V.non) (u := Value.none) J rfl q
  | brk =>
    obtain ⟨_, _, _, q⟩ := hs
    exact False.elim q
  | cont =>
    obtain ⟨_, _, _, q⟩ := hs
    exact False.elim q
end
end Rm

set_option Elab.async false
set_option linter.all false
set_option maxRecDepth 100000
set_option maxHeartbeats 4000000
namespace Rm
open PySem PySem.Spec PyProof.Rows L2
def hdOk (hd : List Str) : Prop := (∃ t, hd = [t] ∧ nm t = true) ∨ ∃ f, hd = (["close", f] : List Str) ∧ nm f = true
def vrow (C : PyData → Prop) (ds : List PyData) : Prop := ∃ (hd : List Str) (es : List PyData), ds = hd.map PyData.str ++ es ∧ hdOk hd ∧ ds.length ≤ 7 ∧ ∀ e ∈ es, C e
def wordOf (f : PyData → Str) : PyData → Str
  | .str x => x
  | d => f d
def rowT (f : PyData → Str) (ds : List PyData) : Str := ("(" ++ Txt.join " " (ds.map (wordOf f))) ++ ")"
def txt : Nat → PyData → Str
  | n + 1, .tuple ds => rowT (txt n) ds
  | n + 1, .list ds => rowT (txt n) ds
  | _, .int i => Str.ofString (toString i)
  | _, _ => ""
def tokOf (f : PyData → List Str) : PyData → List Str
  | .str x => [x]
  | d => f d
def toks : Nat → PyData → List Str
  | n + 1, .tuple ds => "(" :: (ds.flatMap (tokOf (toks n)) ++ ([")"] : List Str))
  | n + 1, .list ds => "(" :: (ds.flatMap (tokOf (toks n)) ++ ([")"] : List Str))
  | _, .int i => [Str.ofString (toString i)]
  | _, _ => []
abbrev tl (x : Str) : List Nat := x.cps.toList
def rp (c : Nat) : List Nat := if c = 40 then [40, 32] else if c = 41 then [32, 41] else [c]
theorem repl1 {c : Nat} {z : List Nat} : ∀ l : List Nat, PySem.StrLaws.replL [c] z l = l.flatMap fun d => if d = c then z else [d]
  | [] => PySem.StrLaws.replL_nil
  | d :: r => by
    by_cases h : d = c
    · rw [PySem.StrLaws.replL_hit (by simp) (by simp [h])]
      simp only [List.length_singleton, List.drop_succ_cons, List.drop_zero, List.flatMap_cons, if_pos h]
      rw [repl1 r]
    · rw [PySem.StrLaws.replL_miss (by simpa using h)]
      simp only [List.flatMap_cons, if_neg h]
      rw [repl1 r]
      rfl
theorem repl2 (l : List Nat) : PySem.StrLaws.replL [41] [32, 41] (PySem.StrLaws.replL [40] [40, 32] l) = l.flatMap rp := by
  rw [repl1, repl1, List.flatMap_assoc]
  congr 1
  funext d
  unfold rp
  by_cases h : d = 40
  · rw [if_pos h, if_pos h]; rfl
  · rw [if_neg h, if_neg h]
    simp
theorem joinL_rp : ∀ ps : List (List Nat), (TL.joinL [32] ps).flatMap rp = TL.joinL [32] (ps.map fun p => p.flatMap rp)
  | [] => rfl
  | [p] => rfl
  | p :: q :: r => by
    show (p ++ ([32] ++ TL.joinL [32] (q :: r))).flatMap rp = p.flatMap rp ++ ([32] ++ TL.joinL [32] ((q :: r).map fun p => p.flatMap rp))
    rw [List.flatMap_append, List.flatMap_append, joinL_rp (q :: r)]
    rfl
theorem joinL_app : ∀ {ps qs : List (List Nat)}, ps ≠ [] → qs ≠ [] → TL.joinL [32] (ps ++ qs) = TL.joinL [32] ps ++ ([32] ++ TL.joinL [32] qs)
  | [], _, h, _ => absurd rfl h
  | [p], [], _, h => absurd rfl h
  | [p], q :: r, _, _ => rfl
  | p :: p2 :: r, qs, _, hq => by
    show p ++ ([32] ++ TL.joinL [32] ((p2 :: r) ++ qs)) = (p ++ ([32] ++ TL.joinL [32] (p2 :: r))) ++ ([32] ++ TL.joinL [32] qs)
    rw [joinL_app (by simp) hq]
    simp
theorem joinL_join : ∀ {tss : List (List (List Nat))}, (∀ ts ∈ tss, ts ≠ []) → TL.joinL [32] (tss.map (TL.joinL [32])) = TL.joinL [32] tss.flatten
  | [], _ => rfl
  | [ts], _ => by simp [TL.joinL]
  | ts :: us :: r, h => by
    have ih := joinL_join (tss := us :: r) fun z hz => h z (List.mem_cons_of_mem _ hz)
    have hu : (us :: r).flatten ≠ [] := by
      have := h us (by simp)
      simp [this]
    rw [List.flatten_cons, joinL_app (h ts (by simp)) hu, ← ih]
    rfl
theorem tl_app (a b : Str) : tl (a ++ b) = tl a ++ tl b := TL.tl_append a b
theorem tl_join (ws : List Str) : tl (Txt.join " " ws) = TL.joinL [32] (ws.map tl) := by
  rw [TL.join_eq]
  exact TL.tl_join " " ws
def pln (l : List Nat) : Prop := ∀ c ∈ l, c ≠ 40 ∧ c ≠ 41 ∧ c ≠ 32
theorem rp_pln {l : List Nat} (h : pln l) : l.flatMap rp = l := by
  induction l with
  | nil => rfl
  | cons c r ih =>
    have h1 := h c (List.mem_cons_self ..)
    rw [List.flatMap_cons, ih fun d hd => h d (List.mem_cons_of_mem _ hd)]
    unfold rp
    rw [if_neg h1.1, if_neg h1.2.1]
    rfl
theorem row_toks {f : PyData → Str} {g : PyData → List Str} {ds : List PyData} (hne : ds ≠ []) (h : ∀ d ∈ ds, (tl (wordOf f d)).flatMap rp = TL.joinL [32] ((tokOf g d).map tl) ∧ tokOf g d ≠ []) :
    (tl (rowT f ds)).flatMap rp = TL.joinL [32] (((("(" : Str) :: (ds.flatMap (tokOf g) ++ ([")"] : List Str)))).map tl) := by
  have e1 : tl "(" = [40] := by decide +kernel
  have e2 : tl ")" = [41] := by decide +kernel
  have hin : (TL.joinL [32] ((ds.map (wordOf f)).map tl)).flatMap rp = TL.joinL [32] ((ds.flatMap (tokOf g)).map tl) := by
    rw [joinL_rp, List.map_map, List.map_map]
    have : (ds.map (((fun p => p.flatMap rp) ∘ tl) ∘ wordOf f)) = (ds.map fun d => (tokOf g d).map tl).map (TL.joinL [32]) := by
      rw [List.map_map]
      refine List.map_congr_left fun d hd => ?_
      exact (h d hd).1
    rw [this, joinL_join]
    · congr 1
      rw [List.map_flatMap, List.flatMap_def]
    · intro ts hts
      obtain ⟨d, hd, rfl⟩ := List.mem_map.mp hts
      intro z
      exact (h d hd).2 (List.map_eq_nil_iff.mp z)
  have hne2 : (ds.flatMap (tokOf g)).map tl ≠ [] := fun z => by
    obtain ⟨d, r, rfl⟩ := List.exists_cons_of_ne_nil hne
    have z1 := List.map_eq_nil_iff.mp z
    rw [List.flatMap_cons] at z1
    exact (h d (by simp)).2 (List.append_eq_nil_iff.mp z1).1
  unfold rowT
  rw [tl_app, tl_app, tl_join, e1, e2, List.flatMap_append, List.flatMap_append, hin, List.map_cons, e1, List.map_append]
  have h1 : TL.joinL [32] ([40] :: ((ds.flatMap (tokOf g)).map tl ++ [tl ")"])) = [40] ++ ([32] ++ TL.joinL [32] ((ds.flatMap (tokOf g)).map tl ++ [tl ")"])) := joinL_app (ps := [[40]]) (by simp) (by simp)
  rw [List.map_cons, List.map_nil, h1, joinL_app hne2 (by simp), e2]
  simp [rp, TL.joinL]
def sg (i : Int) : List Nat := if i < 0 then 45 :: TL.numL i.natAbs else TL.numL i.natAbs
theorem tl_ofS_app (a b : String) : tl (Str.ofString (a ++ b)) = tl (Str.ofString a) ++ tl (Str.ofString b) := by
  rw [Str.ofString_eq_toList, Str.ofString_eq_toList, Str.ofString_eq_toList]
  simp [tl]
theorem tl_int (i : Int) : tl (Str.ofString (toString i)) = sg i := by
  unfold sg
  by_cases h : i < 0
  · rw [if_pos h, PyProof.Rows.toString_neg h, tl_ofS_app]
    have e : (0 - i) = ((i.natAbs : Nat) : Int) := by omega
    rw [e]
    have e1 : tl (Str.ofString "-") = [45] := by decide +kernel
    rw [e1, show tl (Str.ofString (toString ((i.natAbs : Nat) : Int))) = TL.numL i.natAbs from TL.tl_num _]
    rfl
  · rw [if_neg h]
    have e : i = ((i.natAbs : Nat) : Int) := by omega
    rw [e]
    exact TL.tl_num _
theorem sg_pln (i : Int) : pln (sg i) := fun c hc => by
  have h : c = 45 ∨ c ∈ TL.numL i.natAbs := by
    unfold sg at hc
    split at hc
    · rcases List.mem_cons.mp hc with e | e
      · exact .inl e
      · exact .inr e
    · exact .inr hc
  rcases h with rfl | h
  · decide
  · have := TL.numL_digits _ c h
    omega
theorem sg_len {i : Int} (h : i.natAbs < 10 ^ 30) : (sg i).length ≤ 31 := by
  have h1 := TL.numL_len (by decide : 0 < 30) h
  unfold sg
  split <;> simp <;> omega
theorem sg_ne (i : Int) : sg i ≠ [] := by
  unfold sg
  split
  · simp
  · exact TL.numL_ne _
theorem int_len (x : Str) : x.length = (tl x).length := by simp [Str.length]
theorem int_back {i : Int} (h : i.natAbs < 10 ^ 30) : intText? (Str.ofString (toString i)) = some i := by
  have e := tl_int i
  have hl : (Str.ofString (toString i)).length ≤ 4300 := by
    rw [int_len, e]
    have := sg_len h
    omega
  by_cases h0 : i < 0
  · rw [sg, if_pos h0] at e
    rw [PySem.intText_neg e (TL.numL_digits _) (TL.numL_ne _) hl, TL.numL_val]
    congr 1
    omega
  · have e' : i = ((i.natAbs : Nat) : Int) := by omega
    have h2 : (TL.numL i.natAbs).length ≤ 4300 := Nat.le_trans (TL.numL_len (by decide : 0 < 30) h) (by decide)
    rw [e']
    exact TL.int_num h2
theorem numL_head : ∀ n : Nat, n ≠ 0 → ∃ c r, TL.numL n = c :: r ∧ c ≠ 48 := by
  intro n
  induction n using Nat.strongRecOn with
  | _ n ih =>
    intro h
    by_cases h10 : n < 10
    · exact ⟨48 + n, [], TL.numL_lt h10, by omega⟩
    · obtain ⟨c, r, e, hc⟩ := ih (n / 10) (by omega) (by omega)
      exact ⟨c, r ++ [48 + n % 10], by rw [TL.numL_step (by omega), e]; rfl, hc⟩
def dgt (x : Str) : Str := if (cutS x none (some 1) == ("-" : Str)) = true then cutS x (some 1) none else x
def wi (x : Str) : Bool := (decide (1 ≤ (dgt x).length) && decide ((dgt x).length ≤ 30) && (tl (dgt x)).all fun c => decide (c ∈ digs.cps.toList)) && (x == ("0" : Str) || !((tl (dgt x)).head? == some 48))
theorem cut1 (x : Str) : tl (cutS x none (some 1)) = (tl x).take 1 := by
  unfold cutS
  rw [HT.sIx_none, show HT.sIx x.length x.length (some 1) = min 1 x.length from HT.sIx_nat x.length x.length 1]
  show ((tl x).drop 0).take (min 1 x.length - 0) = _
  rw [List.drop_zero, Nat.sub_zero, int_len]
  cases tl x with
  | nil => rfl
  | cons c r => rw [List.length_cons, show min 1 (r.length + 1) = 1 by omega]
theorem cutR (x : Str) : tl (cutS x (some 1) none) = (tl x).drop 1 := by
  unfold cutS
  rw [HT.sIx_none, show HT.sIx x.length 0 (some 1) = min 1 x.length from HT.sIx_nat x.length 0 1]
  show ((tl x).drop (min 1 x.length)).take (x.length - min 1 x.length) = _
  rw [int_len]
  cases tl x with
  | nil => rfl
  | cons c r =>
    rw [List.length_cons, show min 1 (r.length + 1) = 1 by omega]
    simp
theorem beq_tl (x y : Str) : (x == y) = decide (tl x = tl y) := by
  rw [← PyProof.Rows.toList_beq]
  show ((tl x) == (tl y)) = _
  cases h : decide (tl x = tl y) with
  | true =>
    rw [of_decide_eq_true h]
    exact beq_self_eq_true _
  | false =>
    have := of_decide_eq_false h
    cases hb : (tl x == tl y) with
    | false => rfl
    | true => exact absurd (eq_of_beq hb) this
theorem tl_dgt (x : Str) : tl (dgt x) = if (tl x).take 1 = [45] then (tl x).drop 1 else tl x := by
  unfold dgt
  have e1 : tl ("-" : Str) = [45] := by decide +kernel
  rw [beq_tl, cut1, e1]
  by_cases h : (tl x).take 1 = [45]
  · rw [if_pos (decide_eq_true h), if_pos h, cutR]
  · rw [if_neg (by rw [decide_eq_false h]; exact Bool.false_ne_true), if_neg h]
theorem wi_int {i : Int} (h : i.natAbs < 10 ^ 30) : wi (Str.ofString (toString i)) = true := by
  have e := tl_int i
  have hd : tl (dgt (Str.ofString (toString i))) = TL.numL i.natAbs := by
    rw [tl_dgt, e]
    unfold sg
    split
    · rfl
    · have hne := TL.numL_ne i.natAbs
      have hdg := TL.numL_digits i.natAbs
      cases hl : TL.numL i.natAbs with
      | nil => exact absurd hl hne
      | cons c r =>
        rw [if_neg]
        simp
        have := hdg c (by rw [hl]; simp)
        omega
  have hdigs : ∀ c, 48 ≤ c → c ≤ 57 → c ∈ digs.cps.toList := by
    intro c h1 h2
    have : c = 48 ∨ c = 49 ∨ c = 50 ∨ c = 51 ∨ c = 52 ∨ c = 53 ∨ c = 54 ∨ c = 55 ∨ c = 56 ∨ c = 57 := by omega
    rcases this with rfl | rfl | rfl | rfl | rfl | rfl | rfl | rfl | rfl | rfl <;> decide +kernel
  unfold wi
  rw [int_len, hd, decide_eq_true (TL.numL_len (by decide : 0 < 30) h), decide_eq_true (show 1 ≤ (TL.numL i.natAbs).length from List.length_pos_iff.mpr (TL.numL_ne _))]
  have h1 : ((TL.numL i.natAbs).all fun c => decide (c ∈ digs.cps.toList)) = true := by
    rw [List.all_eq_true]
    intro c hc
    have := TL.numL_digits _ c hc
    exact decide_eq_true (hdigs c this.1 this.2)
  rw [h1, Bool.true_and, Bool.true_and, Bool.true_and]
  by_cases h0 : i = 0
  · subst h0
    have : (Str.ofString (toString (0 : Int)) == ("0" : Str)) = true := by decide +kernel
    rw [this, Bool.true_or]
  · obtain ⟨c, r, e1, hc⟩ := numL_head i.natAbs (by omega)
    rw [e1]
    simp [hc]
theorem wi_word {x : Str} (h : (tl x).all (fun c => decide (c ∈ letters.cps.toList)) = true) (hne : tl x ≠ []) : wi x = false := by
  obtain ⟨c, r, e⟩ := List.exists_cons_of_ne_nil hne
  have hc : c ∈ letters.cps.toList := by
    rw [e, List.all_cons] at h
    exact of_decide_eq_true (Bool.and_eq_true_iff.mp h).1
  have hcl : ∀ c ∈ letters.cps.toList, c ≠ 45 ∧ c ∉ digs.cps.toList := by decide +kernel
  have hd : tl (dgt x) = tl x := by
    rw [tl_dgt, if_neg]
    rw [e]
    simp [(hcl c hc).1]
  unfold wi
  have h1 : ((tl (dgt x)).all fun c => decide (c ∈ digs.cps.toList)) = false := by
    rw [hd, e, List.all_cons, decide_eq_false (hcl c hc).2, Bool.false_and]
  rw [h1, Bool.and_false, Bool.false_and]
def intOf (x : Str) : Int := (intText? x).getD 0
def item (x : Str) : PyData := if wi x = true then .int (intOf x) else .str x
def gclose : List (List PyData) → Option (List (List PyData))
  | g :: h :: r => some ((h ++ [.tuple g]) :: r)
  | _ => none
def gput (w : Str) : List (List PyData) → Option (List (List PyData))
  | g :: r => some ((g ++ [item w]) :: r)
  | [] => none
def gst (st : List (List PyData)) (w : Str) : Option (List (List PyData)) := if w = "(" then some ([] :: st) else if w = ")" then gclose st else gput w st
def gfold : List Str → List (List PyData) → Option (List (List PyData))
  | [], st => some st
  | w :: r, st => (gst st w).bind (gfold r)
theorem gfold_app : ∀ (a b : List Str) (st : List (List PyData)), gfold (a ++ b) st = (gfold a st).bind (gfold b)
  | [], b, st => rfl
  | w :: a, b, st => by
    show (gst st w).bind (gfold (a ++ b)) = ((gst st w).bind (gfold a)).bind (gfold b)
    cases gst st w with
    | none => rfl
    | some st' => exact gfold_app a b st'
theorem gst_word {w : Str} (h1 : w ≠ "(") (h2 : w ≠ ")") (g : List PyData) (r : List (List PyData)) : gst (g :: r) w = some ((g ++ [item w]) :: r) := by
  unfold gst
  rw [if_neg h1, if_neg h2]
  rfl
def vt : Nat → PyData → Prop
  | n + 1, .tuple ds => vrow (vt n) ds
  | _, .int i => i.natAbs < 10 ^ 30
  | _, _ => False
theorem nm_facts {x : Str} (h : nm x = true) : (tl x).all (fun c => decide (c ∈ letters.cps.toList)) = true ∧ tl x ≠ [] ∧ x.length ≤ 8 := by
  unfold nm at h
  simp only [Bool.and_eq_true, decide_eq_true_eq] at h
  refine ⟨h.2, fun z => ?_, h.1.1.2⟩
  have := h.1.1.1
  rw [int_len, z] at this
  simp at this
theorem letters_pln {x : Str} (h : (tl x).all (fun c => decide (c ∈ letters.cps.toList)) = true) : pln (tl x) := fun c hc => by
  have h1 := of_decide_eq_true (List.all_eq_true.mp h c hc)
  have h2 : ∀ c ∈ letters.cps.toList, c ≠ 40 ∧ c ≠ 41 ∧ c ≠ 32 := by decide +kernel
  exact h2 c h1
theorem hd_words {hd : List Str} (h : hdOk hd) : ∀ w ∈ hd, (tl w).all (fun c => decide (c ∈ letters.cps.toList)) = true ∧ tl w ≠ [] ∧ w.length ≤ 8 := by
  have hcl : (tl "close").all (fun c => decide (c ∈ letters.cps.toList)) = true ∧ tl "close" ≠ [] ∧ ("close" : Str).length ≤ 8 := by
    refine ⟨by decide +kernel, by decide +kernel, by decide +kernel⟩
  rcases h with ⟨t, rfl, ht⟩ | ⟨f, rfl, hf⟩
  · intro w hw
    rw [List.mem_singleton.mp hw]
    exact nm_facts ht
  · intro w hw
    simp only [List.mem_cons, List.not_mem_nil, or_false] at hw
    rcases hw with rfl | rfl
    · exact hcl
    · exact nm_facts hf
theorem hd_ne {hd : List Str} (h : hdOk hd) : hd ≠ [] := by
  rcases h with ⟨t, rfl, ht⟩ | ⟨f, rfl, hf⟩ <;> simp
theorem word_ne {w : Str} (h : pln (tl w)) : w ≠ "(" ∧ w ≠ ")" := by
  have e1 : tl "(" = [40] := by decide +kernel
  have e2 : tl ")" = [41] := by decide +kernel
  constructor
  · rintro rfl
    exact (h 40 (by rw [e1]; simp)).1 rfl
  · rintro rfl
    exact (h 41 (by rw [e2]; simp)).2.1 rfl
theorem gfold_words : ∀ {hd : List Str} (_ : ∀ w ∈ hd, pln (tl w) ∧ wi w = false) (g : List PyData) (r : List (List PyData)), gfold hd (g :: r) = some ((g ++ hd.map PyData.str) :: r)
  | [], _, g, r => by simp [gfold]
  | w :: hd, h, g, r => by
    obtain ⟨h1, h2⟩ := h w (by simp)
    show (gst (g :: r) w).bind (gfold hd) = _
    rw [gst_word (word_ne h1).1 (word_ne h1).2]
    show gfold hd ((g ++ [item w]) :: r) = _
    rw [gfold_words (fun z hz => h z (List.mem_cons_of_mem _ hz)), item, if_neg (by rw [h2]; exact Bool.false_ne_true)]
    simp
theorem gfold_many {n : Nat} {es : List PyData} (h : ∀ e ∈ es, ∀ g r, gfold (tokOf (toks n) e) (g :: r) = some ((g ++ [e]) :: r)) : ∀ (g : List PyData) (r : List (List PyData)), gfold (es.flatMap (tokOf (toks n))) (g :: r) = some ((g ++ es) :: r) := by
  induction es with
  | nil => intro g r; simp [gfold]
  | cons e es ih =>
    intro g r
    rw [List.flatMap_cons, gfold_app, h e (by simp)]
    show gfold _ _ = _
    rw [ih fun z hz => h z (List.mem_cons_of_mem _ hz)]
    simp
theorem tokOf_str (g : PyData → List Str) (hd : List Str) : (hd.map PyData.str).flatMap (tokOf g) = hd := by
  induction hd with
  | nil => rfl
  | cons w r ih => rw [List.map_cons, List.flatMap_cons, ih]; rfl
theorem vt_nostr {n : Nat} {e : PyData} (h : vt n e) (g : PyData → List Str) : tokOf g e = g e := by
  cases e <;> first | rfl | (cases n <;> exact h.elim)
theorem vt_nostr' {n : Nat} {e : PyData} (h : vt n e) (g : PyData → Str) : wordOf g e = g e := by
  cases e <;> first | rfl | (cases n <;> exact h.elim)
theorem gfold_vt : ∀ {n : Nat} {d : PyData}, vt n d → ∀ g r, gfold (toks n d) (g :: r) = some ((g ++ [d]) :: r)
  | n, .int i, h, g, r => by
    have hi : i.natAbs < 10 ^ 30 := by cases n <;> exact h
    have ht : toks n (.int i) = [Str.ofString (toString i)] := by cases n <;> rfl
    rw [ht]
    have hp : pln (tl (Str.ofString (toString i))) := by rw [tl_int]; exact sg_pln i
    show (gst (g :: r) _).bind (gfold []) = _
    rw [gst_word (word_ne hp).1 (word_ne hp).2, item, if_pos (wi_int hi), intOf, int_back hi]
    rfl
  | n + 1, .tuple ds, h, g, r => by
    obtain ⟨hd, es, rfl, h1, h2, h3⟩ := h
    have hw := hd_words h1
    show (gst (g :: r) "(").bind (gfold _) = _
    have e0 : gst (g :: r) "(" = some ([] :: g :: r) := by unfold gst; rw [if_pos rfl]
    rw [e0]
    show gfold _ _ = _
    rw [List.flatMap_append, tokOf_str, List.append_assoc, gfold_app, gfold_words (fun w hw' => ⟨letters_pln (hw w hw').1, wi_word (hw w hw').1 (hw w hw').2.1⟩)]
    show gfold _ _ = _
    rw [gfold_app, gfold_many (fun e he g r => by rw [vt_nostr (h3 e he)]; exact gfold_vt (h3 e he) g r)]
    show (gst (([] ++ hd.map PyData.str ++ es) :: g :: r) ")").bind (gfold []) = _
    unfold gst
    rw [if_neg (by decide +kernel), if_pos rfl]
    simp [gfold, gclose]
  | 0, .tuple ds, h, _, _ => h.elim
  | 0, .list _, h, _, _ => h.elim
  | _ + 1, .list _, h, _, _ => h.elim
  | 0, .none, h, _, _ => h.elim
  | _ + 1, .none, h, _, _ => h.elim
  | 0, .bool _, h, _, _ => h.elim
  | _ + 1, .bool _, h, _, _ => h.elim
  | 0, .str _, h, _, _ => h.elim
  | _ + 1, .str _, h, _, _ => h.elim
  | 0, .dict _, h, _, _ => h.elim
  | _ + 1, .dict _, h, _, _ => h.elim
theorem toks_ne : ∀ {n : Nat} {d : PyData}, vt n d → toks n d ≠ []
  | n, .int i, h => by
    have ht : toks n (.int i) = [Str.ofString (toString i)] := by cases n <;> rfl
    rw [ht]; simp
  | n + 1, .tuple ds, h => by simp [toks]
  | 0, .tuple ds, h => h.elim
  | 0, .list _, h => h.elim
  | _ + 1, .list _, h => h.elim
  | 0, .none, h => h.elim
  | _ + 1, .none, h => h.elim
  | 0, .bool _, h => h.elim
  | _ + 1, .bool _, h => h.elim
  | 0, .str _, h => h.elim
  | _ + 1, .str _, h => h.elim
  | 0, .dict _, h => h.elim
  | _ + 1, .dict _, h => h.elim
theorem txt_toks : ∀ {n : Nat} {d : PyData}, vt n d → (tl (txt n d)).flatMap rp = TL.joinL [32] ((toks n d).map tl) ∧ ∀ w ∈ toks n d, 32 ∉ tl w
  | n, .int i, h => by
    have ht : toks n (.int i) = [Str.ofString (toString i)] := by cases n <;> rfl
    have hx : txt n (.int i) = Str.ofString (toString i) := by cases n <;> rfl
    rw [ht, hx]
    refine ⟨by rw [tl_int, rp_pln (sg_pln i), ← tl_int]; rfl, fun w hw => ?_⟩
    rw [List.mem_singleton.mp hw, tl_int]
    exact fun h => (sg_pln i 32 h).2.2 rfl
  | n + 1, .tuple ds, h => by
    obtain ⟨hd, es, rfl, h1, h2, h3⟩ := h
    have hw := hd_words h1
    have hne : hd.map PyData.str ++ es ≠ [] := by simp [hd_ne h1]
    constructor
    · refine row_toks hne fun d hd' => ?_
      rcases List.mem_append.mp hd' with z | z
      · obtain ⟨w, hw', rfl⟩ := List.mem_map.mp z
        refine ⟨?_, by simp [tokOf]⟩
        show (tl w).flatMap rp = TL.joinL [32] [tl w]
        rw [rp_pln (letters_pln (hw w hw').1)]
        rfl
      · rw [vt_nostr (h3 d z), vt_nostr' (h3 d z)]
        exact ⟨(txt_toks (h3 d z)).1, toks_ne (h3 d z)⟩
    · intro w hw'
      have e1 : tl "(" = [40] := by decide +kernel
      have e2 : tl ")" = [41] := by decide +kernel
      rcases List.mem_cons.mp hw' with rfl | z
      · rw [e1]; simp
      · rcases List.mem_append.mp z with z | z
        · obtain ⟨d, hd', hz⟩ := List.mem_flatMap.mp z
          rcases List.mem_append.mp hd' with y | y
          · obtain ⟨v, hv, rfl⟩ := List.mem_map.mp y
            rw [show w = v by simpa [tokOf] using hz]
            exact fun h => (letters_pln (hw v hv).1 32 h).2.2 rfl
          · rw [vt_nostr (h3 d y)] at hz
            exact (txt_toks (h3 d y)).2 w hz
        · rw [List.mem_singleton.mp z, e2]; simp
  | 0, .tuple ds, h => h.elim
  | 0, .list _, h => h.elim
  | _ + 1, .list _, h => h.elim
  | 0, .none, h => h.elim
  | _ + 1, .none, h => h.elim
  | 0, .bool _, h => h.elim
  | _ + 1, .bool _, h => h.elim
  | 0, .str _, h => h.elim
  | _ + 1, .str _, h => h.elim
  | 0, .dict _, h => h.elim
  | _ + 1, .dict _, h => h.elim
def wordsOf (x : Str) : List Str := Txt.split (Txt.replace (Txt.replace x "(" "( ") ")" " )") " "
theorem words_txt {n : Nat} {d : PyData} (h : vt n d) : wordsOf (txt n d) = toks n d := by
  obtain ⟨h1, h2⟩ := txt_toks h
  have e : tl (Txt.replace (Txt.replace (txt n d) "(" "( ") ")" " )") = TL.joinL [32] ((toks n d).map tl) := by
    rw [show tl (Txt.replace (Txt.replace (txt n d) "(" "( ") ")" " )") = _ from PySem.StrLaws.replace_list (by decide +kernel), show (Txt.replace (txt n d) "(" "( ").cps.toList = _ from PySem.StrLaws.replace_list (by decide +kernel), ← h1, ← repl2]
    have a1 : ("(" : Str).cps.toList = [40] := by decide +kernel
    have a2 : (")" : Str).cps.toList = [41] := by decide +kernel
    have a3 : ("( " : Str).cps.toList = [40, 32] := by decide +kernel
    have a4 : (" )" : Str).cps.toList = [32, 41] := by decide +kernel
    rw [a1, a2, a3, a4]
  have e2 : Txt.replace (Txt.replace (txt n d) "(" "( ") ")" " )" = SX.S (TL.joinL [32] ((toks n d).map tl)) := by rw [← e]
  have e3 : (" " : Str) = SX.S [32] := by decide +kernel
  unfold wordsOf
  rw [e2, e3, SX.split_S (by simp) (by decide), SX.spl_join (by simpa using toks_ne h) (fun p hp => by
    obtain ⟨w, hw, rfl⟩ := List.mem_map.mp hp
    exact h2 w hw), List.map_map]
  exact List.map_id'' (fun w => SX.S_tl w) _
end Rm

set_option Elab.async false
set_option linter.all false
set_option maxRecDepth 100000
set_option maxHeartbeats 4000000
namespace Rm
open PySem PySem.Spec PyProof.Rows L2
mutual
inductive Dq (K : PySem.W.Frag) (H : Hp) : V → PyData → Prop
  | non : Dq K H .non .none
  | bl (b : Bool) : Dq K H (.bl b) (.bool b)
  | int (i : Int) : Dq K H (.int i) (.int i)
  | str (x : Str) : Dq K H (.str x) (.str x)
  | lst {a : Addr} {xs : List V} {ds : List PyData} : H a = some (.lst xs) → DqAll K H xs ds → Dq K H (.ref a) (.list ds)
  | tup {a : Addr} {xs : List V} {ds : List PyData} : SqT K H a xs → DqAll K H xs ds → Dq K H (.ref a) (.tuple ds)
inductive DqAll (K : PySem.W.Frag) (H : Hp) : List V → List PyData → Prop
  | nil : DqAll K H [] []
  | cons {v : V} {vs : List V} {d : PyData} {ds : List PyData} : Dq K H v d → DqAll K H vs ds → DqAll K H (v :: vs) (d :: ds)
end
mutual
theorem dqMono {K : PySem.W.Frag} {H H' : Hp} (g : Same H H') : ∀ {d : PyData} {v : V}, Dq K H v d → Dq K H' v d
  | _, _, .non => .non
  | _, _, .bl b => .bl b
  | _, _, .int i => .int i
  | _, _, .str x => .str x
  | _, _, .lst q r => .lst (g _ _ q) (dqAllMono g r)
  | _, _, .tup q r => .tup (sameT g q) (dqAllMono g r)
theorem dqAllMono {K : PySem.W.Frag} {H H' : Hp} (g : Same H H') : ∀ {ds : List PyData} {vs : List V}, DqAll K H vs ds → DqAll K H' vs ds
  | _, _, .nil => .nil
  | _, _, .cons h r => .cons (dqMono g h) (dqAllMono g r)
end
mutual
theorem dqDp {K : PySem.W.Frag} {H : Hp} : ∀ {d : PyData} {v : V}, Dq K H v d → Dp K H v d
  | _, _, .non => .non
  | _, _, .bl b => .bl b
  | _, _, .int i => .int i
  | _, _, .str x => .str x
  | _, _, .lst q r => .lst (SqL.of q) (dqAllDp r)
  | _, _, .tup q r => .tup q (dqAllDp r)
theorem dqAllDp {K : PySem.W.Frag} {H : Hp} : ∀ {ds : List PyData} {vs : List V}, DqAll K H vs ds → DpAll K H vs ds
  | _, _, .nil => .nil
  | _, _, .cons h r => .cons (dqDp h) (dqAllDp r)
end
theorem Dq.mono {K : PySem.W.Frag} {H H' : Hp} (g : Same H H') {d : PyData} {v : V} (h : Dq K H v d) : Dq K H' v d := dqMono g h
theorem DqAll.mono {K : PySem.W.Frag} {H H' : Hp} (g : Same H H') {ds : List PyData} {vs : List V} (h : DqAll K H vs ds) : DqAll K H' vs ds := dqAllMono g h
theorem DqAll.len {K : PySem.W.Frag} {H : Hp} : ∀ {ds : List PyData} {vs : List V}, DqAll K H vs ds → vs.length = ds.length
  | _, _, .nil => rfl
  | _, _, .cons _ r => congrArg Nat.succ r.len
theorem DqAll.get {K : PySem.W.Frag} {H : Hp} : ∀ {ds : List PyData} {vs : List V} {i : Nat} {d : PyData}, DqAll K H vs ds → ds[i]? = some d → ∃ v, vs[i]? = some v ∧ Dq K H v d
  | _, _, _, _, .nil, e => by simp at e
  | _, _, 0, _, .cons h _, e => by simp at e; subst e; exact ⟨_, rfl, h⟩
  | _, _, i + 1, d, .cons _ r, e => by
    obtain ⟨v, h1, h2⟩ := r.get (i := i) (d := d) (by simpa using e)
    exact ⟨v, by simpa using h1, h2⟩
theorem DqAll.app {K : PySem.W.Frag} {H : Hp} : ∀ {ds es : List PyData} {vs us : List V}, DqAll K H vs ds → DqAll K H us es → DqAll K H (vs ++ us) (ds ++ es)
  | _, _, _, _, .nil, s => s
  | _, _, _, _, .cons h r, s => .cons h (r.app s)
theorem DqAll.take {K : PySem.W.Frag} {H : Hp} : ∀ {ds : List PyData} {vs : List V} (n : Nat), DqAll K H vs ds → DqAll K H (vs.take n) (ds.take n)
  | _, _, 0, _ => .nil
  | _, _, _ + 1, .nil => .nil
  | _, _, n + 1, .cons h r => .cons h (r.take n)
theorem DqAll.drop {K : PySem.W.Frag} {H : Hp} : ∀ {ds : List PyData} {vs : List V} (n : Nat), DqAll K H vs ds → DqAll K H (vs.drop n) (ds.drop n)
  | _, _, 0, r => r
  | _, _, _ + 1, .nil => .nil
  | _, _, n + 1, .cons _ r => r.drop n
theorem DqAll.set {K : PySem.W.Frag} {H : Hp} {v : V} {d : PyData} (h : Dq K H v d) : ∀ {ds : List PyData} {vs : List V} (n : Nat), DqAll K H vs ds → DqAll K H (vs.set n v) (ds.set n d)
  | _, _, _, .nil => .nil
  | _, _, 0, .cons _ r => .cons h r
  | _, _, n + 1, .cons q r => .cons q (r.set h n)
inductive D where
  | dat (d : PyData)
  | ref (i : Nat)
  | ty (n : String)
  | exc (a d C : Addr) (fs : List (Str × PyData))
  | dct (kvs : List (Key × PyData))
  | any
  | exk (C : Addr) (fs : List (Str × PyData))
  | tupK (w : Str) (C : Addr) (fs : List (Str × PyData))
  | tup (ds : List (PyData ⊕ Nat))
inductive Ob where
  | lst (ds : List PyData)
  | refs (is : List Nat)
  | spr (b : Nat)
  | ins (C : Addr) (fs : List (Str × D))
  | dk (kvs : List (Key × D))
  | mix (ds : List D)
  | jnk (n : Nat)
  | dt (kvs : List (List Key × D))
  | tab (P : Addr) (q : Str)
  | dead
abbrev Foot := Addr × List Addr
abbrev Foot.all (f : Foot) : List Addr := f.1 :: f.2
def zs (φ : List Foot) : List Addr := φ.flatMap Foot.all
abbrev Rh := List (Option D)
abbrev Os := List Ob
def TItm (K : PySem.W.Frag) (G : Hp) (φ : List Foot) (v : V) : PyData ⊕ Nat → Prop
  | .inl p => Dq K G v p
  | .inr i => ∃ f, φ[i]? = some f ∧ v = .ref f.1
def ExK (cls : Value) (d : Option Addr) (a : Addr) : HO := .ext fun h => ∃ (oe : Obj) (vs : Array Value), h.get? a = some oe ∧ Zc cls d oe ∧ oe.data = .fields vs
def KeptX (K : PySem.W.Frag) (G : Hp) (v : V) (C : Addr) (fs : List (Str × PyData)) : Prop := ∃ (a d : Addr) (vs : List (Str × V)), v = .ref a ∧ G a = some (ExK (.ref C) (some d) a) ∧ G d = some (.xd vs) ∧ Paired (fun (p : Str × V) (q : Str × PyData) => p.1 = q.1 ∧ Dq K G p.2 q.2) vs fs
theorem KeptX.mono {K : PySem.W.Frag} {G G' : Hp} {v : V} {C : Addr} {fs : List (Str × PyData)} (g : Same G G') (h : KeptX K G v C fs) : KeptX K G' v C fs := by
  obtain ⟨a, d, vs, h1, h2, h3, h4⟩ := h
  exact ⟨a, d, vs, h1, g _ _ h2, g _ _ h3, L2.Paired.mapP h4 fun _ _ q => ⟨q.1, Dq.mono g q.2⟩⟩
def DV (K : PySem.W.Frag) (G : Hp) (φ : List Foot) (v : V) : D → Prop
  | .dat d => Dq K G v d
  | .ref i => ∃ f, φ[i]? = some f ∧ v = .ref f.1
  | .ty n => v = .ty n
  | .exc a d C fs => v = .ref a ∧ ∃ vs, G d = some (.xd vs) ∧ Paired (fun (p : Str × V) (q : Str × PyData) => p.1 = q.1 ∧ Dq K G p.2 q.2) vs fs
  | .dct kvs => ∃ a vs, v = .ref a ∧ G a = some (.dK vs) ∧ Paired (fun (p : Key × V) (q : Key × PyData) => p.1 = q.1 ∧ Dq K G p.2 q.2) vs kvs
  | .any => v ≠ .non
  | .exk C fs => KeptX K G v C fs
  | .tupK w C fs => ∃ a u, v = .ref a ∧ SqT K G a [.str w, u] ∧ KeptX K G u C fs
  | .tup ds => ∃ a vs, v = .ref a ∧ SqT K G a vs ∧ Paired (TItm K G φ) vs ds
def ObR (K : PySem.W.Frag) (G : Hp) (φ : List Foot) (f : Foot) (H : Hp) : Ob → Prop
  | .lst ds => f.2 = [] ∧ ∃ vs, H f.1 = some (.lst vs) ∧ DqAll K G vs ds
  | .refs is => f.2 = [] ∧ ∃ vs, H f.1 = some (.lst vs) ∧ Paired (fun v i => DV K G φ v (.ref i)) vs is
  | .spr b => ∃ sl c, f.2 = [sl] ∧ Sk f.1 sl c H ∧ c + b ≤ 1000000
  | .ins C fs => ∃ dx vs, f.2 = [dx] ∧ H f.1 = some (.ins C dx vs) ∧ H dx = some (.own f.1) ∧ Paired (fun (p : Str × V) (q : Str × D) => p.1 = q.1 ∧ DV K G φ p.2 q.2) vs fs
  | .dk kvs => f.2 = [] ∧ ∃ vs, H f.1 = some (.dK vs) ∧ Paired (fun (p : Key × V) (q : Key × D) => p.1 = q.1 ∧ DV K G φ p.2 q.2) vs kvs
  | .mix ds => f.2 = [] ∧ ∃ vs, H f.1 = some (.lst vs) ∧ Paired (DV K G φ) vs ds
  | .jnk n => f.2 = [] ∧ ∃ vs, H f.1 = some (.lst vs) ∧ vs.length ≤ n
  | .dt kvs => f.2 = [] ∧ ∃ vs, H f.1 = some (.dT vs) ∧ Paired (fun (p : List Key × V) (q : List Key × D) => p.1 = q.1 ∧ DV K G φ p.2 q.2) vs kvs
  | .tab P q => f = (P, []) ∧ ∃ ps : Array Value, H P = some (.tbl ps) ∧ TriplesOk ps.toList ∧ ∀ (pos : Pos) (cv : Value), codeAmong pos ps.toList = some cv → ∃ c, cv = .ref c ∧ G c = some (LamX.CodeO c q)
  | .dead => True
structure Rel (K : PySem.W.Frag) (G : Hp) (φ : List Foot) (S : Os) (H : Hp) : Prop where
  sub : Same G H
  len : φ.length = S.length
  nd : (zs φ).Nodup
  on : ∀ a ∈ zs φ, H a ≠ none
  ob : ∀ (i : Nat) f o, φ[i]? = some f → S[i]? = some o → ObR K G φ f H o
  off : ∀ (i : Nat) f o, φ[i]? = some f → S[i]? = some o → o ≠ .dead → ∀ a ∈ f.all, G a = none
structure Ext (G : Hp) (φ : List Foot) (H G' : Hp) (φ' : List Foot) (H' : Hp) : Prop where
  g : Same G G'
  p : ∃ ψ, φ' = φ ++ ψ
  fr : ∀ a o, a ∉ zs φ → H a = some o → H' a = some o
  gn : ∀ a, G a = none → G' a ≠ none → H a = none ∨ a ∈ zs φ
  pn : ∀ a ∈ zs φ', a ∉ zs φ → H a = none
theorem zs_app (φ ψ : List Foot) : zs (φ ++ ψ) = zs φ ++ zs ψ := by simp [zs]
theorem zs_cons (f : Foot) (φ : List Foot) : zs (f :: φ) = f.all ++ zs φ := by simp [zs]
theorem mem_zs {φ : List Foot} {i : Nat} {f : Foot} {a : Addr} (h : φ[i]? = some f) (ha : a ∈ f.all) : a ∈ zs φ :=
  List.mem_flatMap.mpr ⟨f, List.mem_of_getElem? h, ha⟩
theorem zs_mem {φ : List Foot} {a : Addr} (h : a ∈ zs φ) : ∃ (i : Nat) (f : Foot), φ[i]? = some f ∧ a ∈ f.all := by
  obtain ⟨f, h1, h2⟩ := List.mem_flatMap.mp h
  obtain ⟨i, h3⟩ := List.mem_iff_getElem?.mp h1
  exact ⟨i, f, h3, h2⟩
theorem zs_inj : ∀ {φ : List Foot} {i j : Nat} {f g : Foot} {a : Addr}, (zs φ).Nodup → φ[i]? = some f → φ[j]? = some g → a ∈ f.all → a ∈ g.all → i = j
  | [], _, _, _, _, _, _, h, _, _, _ => by simp at h
  | e :: φ, i, j, f, g, a, nd, h1, h2, m1, m2 => by
    rw [zs_cons] at nd
    obtain ⟨_, n2, n3⟩ := List.nodup_append.mp nd
    cases i with
    | zero =>
      cases j with
      | zero => rfl
      | succ j =>
        simp at h1 h2
        subst h1
        exact absurd rfl (n3 a m1 a (mem_zs h2 m2))
    | succ i =>
      cases j with
      | zero =>
        simp at h1 h2
        subst h2
        exact absurd rfl (n3 a m2 a (mem_zs h1 m1))
      | succ j => exact congrArg _ (zs_inj n2 (by simpa using h1) (by simpa using h2) m1 m2)
section
variable {K : PySem.W.Frag} {G G' G'' H H' H'' : Hp} {φ φ' φ'' : List Foot} {S : Os} {v : V} {d : D}
theorem Ext.refl : Ext G φ H G φ H := ⟨.refl _, ⟨[], by simp⟩, fun _ _ _ h => h, fun _ h1 h2 => absurd h1 h2, fun _ h1 h2 => absurd h1 h2⟩
theorem Ext.trans (e : Ext G φ H G' φ' H') (f : Ext G' φ' H' G'' φ'' H'') : Ext G φ H G'' φ'' H'' := by
  have out : ∀ a o, a ∉ zs φ → H a = some o → a ∉ zs φ' := fun a o n h m => by
    have := e.pn a m n
    rw [this] at h
    cases h
  have back : ∀ a, H' a = none → H a = none ∨ a ∈ zs φ := fun a h => by
    by_cases m : a ∈ zs φ
    · exact .inr m
    cases q : H a with
    | none => exact .inl rfl
    | some o => rw [e.fr a o m q] at h; cases h
  have prf : ∀ a, a ∈ zs φ' → H a = none ∨ a ∈ zs φ := fun a m => by
    by_cases n : a ∈ zs φ
    · exact .inr n
    · exact .inl (e.pn a m n)
  refine ⟨e.g.trans f.g, ?_, fun a o n h => f.fr a o (out a o n h) (e.fr a o n h), fun a h1 h2 => ?_, fun a m n => ?_⟩
  · obtain ⟨p, h1⟩ := e.p
    obtain ⟨q, h2⟩ := f.p
    exact ⟨p ++ q, by rw [h2, h1, List.append_assoc]⟩
  · by_cases h : G' a = none
    · rcases f.gn a h h2 with q | q
      · exact back a q
      · exact prf a q
    · exact e.gn a h1 h
  · by_cases h : a ∈ zs φ'
    · exact e.pn a h n
    · rcases back a (f.pn a m h) with q | q
      · exact q
      · exact absurd q n
theorem pre_get {φ' : List Foot} (p : ∃ ψ, φ' = φ ++ ψ) {i : Nat} {f : Foot} (h : φ[i]? = some f) : φ'[i]? = some f := by
  obtain ⟨ψ, rfl⟩ := p
  obtain ⟨h1, _⟩ := List.getElem?_eq_some_iff.mp h
  rw [List.getElem?_append_left h1]
  exact h
theorem TItm.mono {d : PyData ⊕ Nat} (g : Same G G') (p : ∃ ψ, φ' = φ ++ ψ) (h : TItm K G φ v d) : TItm K G' φ' v d := by
  cases d with
  | inl d => exact Dq.mono g h
  | inr i => obtain ⟨f, h1, h2⟩ := h; exact ⟨f, pre_get p h1, h2⟩
theorem DV.mono (g : Same G G') (p : ∃ ψ, φ' = φ ++ ψ) (h : DV K G φ v d) : DV K G' φ' v d := by
  cases d with
  | dat d => exact Dq.mono g h
  | ref i => obtain ⟨f, h1, h2⟩ := h; exact ⟨f, pre_get p h1, h2⟩
  | ty n => exact h
  | exc a d C fs => obtain ⟨h1, vs, h2, h3⟩ := h; exact ⟨h1, vs, g _ _ h2, L2.Paired.mapP h3 fun _ _ q => ⟨q.1, Dq.mono g q.2⟩⟩
  | dct kvs => obtain ⟨a, vs, h1, h2, h3⟩ := h; exact ⟨a, vs, h1, g _ _ h2, L2.Paired.mapP h3 fun _ _ q => ⟨q.1, Dq.mono g q.2⟩⟩
  | any => exact h
  | exk C fs => exact KeptX.mono g h
  | tupK w C fs => obtain ⟨a, u, h1, h2, h3⟩ := h; exact ⟨a, u, h1, sameT g h2, h3.mono g⟩
  | tup ds => obtain ⟨a, vs, h1, h2, h3⟩ := h; exact ⟨a, vs, h1, sameT g h2, L2.Paired.mapP h3 fun _ _ q => TItm.mono g p q⟩
theorem DV.ext (e : Ext G φ H G' φ' H') (h : DV K G φ v d) : DV K G' φ' v d := h.mono e.g e.p
theorem ObR.mono {f : Foot} {o : Ob} (g : Same G G') (p : ∃ ψ, φ' = φ ++ ψ) (h : ObR K G φ f H o) : ObR K G' φ' f H o := by
  cases o with
  | lst ds => obtain ⟨h1, vs, h2, h3⟩ := h; exact ⟨h1, vs, h2, h3.mono g⟩
  | refs is => obtain ⟨h1, vs, h2, h3⟩ := h; exact ⟨h1, vs, h2, L2.Paired.mapP h3 fun _ _ q => DV.mono (d := .ref _) g p q⟩
  | spr b => exact h
  | ins C fs => obtain ⟨dx, vs, h1, h2, h2', h3⟩ := h; exact ⟨dx, vs, h1, h2, h2', L2.Paired.mapP h3 fun _ _ q => ⟨q.1, q.2.mono g p⟩⟩
  | dk kvs => obtain ⟨h1, vs, h2, h3⟩ := h; exact ⟨h1, vs, h2, L2.Paired.mapP h3 fun _ _ q => ⟨q.1, q.2.mono g p⟩⟩
  | mix ds => obtain ⟨h1, vs, h2, h3⟩ := h; exact ⟨h1, vs, h2, L2.Paired.mapP h3 fun _ _ q => DV.mono g p q⟩
  | jnk n => exact h
  | tab P q => obtain ⟨h1, ps, h2, h3, h4⟩ := h; exact ⟨h1, ps, h2, h3, fun pos cv z => let ⟨c, e1, e2⟩ := h4 pos cv z; ⟨c, e1, g _ _ e2⟩⟩
  | dt kvs => obtain ⟨h1, vs, h2, h3⟩ := h; exact ⟨h1, vs, h2, L2.Paired.mapP h3 fun _ _ q => ⟨q.1, q.2.mono g p⟩⟩
  | dead => trivial
theorem ObR.stay {f : Foot} {o : Ob} (h : ObR K G φ f H o) (k : ∀ a ∈ f.all, H' a = H a) : ObR K G φ f H' o := by
  have k1 : H' f.1 = H f.1 := k _ (List.mem_cons_self ..)
  cases o with
  | lst ds => obtain ⟨h1, vs, h2, h3⟩ := h; exact ⟨h1, vs, k1.trans h2, h3⟩
  | refs is => obtain ⟨h1, vs, h2, h3⟩ := h; exact ⟨h1, vs, k1.trans h2, h3⟩
  | spr b =>
    obtain ⟨sl, c, h1, ⟨n, r, m, ns, e1, e2, q⟩, h3⟩ := h
    refine ⟨sl, c, h1, ⟨n, r, m, ns, k1.trans e1, (k sl ?_).trans e2, q⟩, h3⟩
    simp [Foot.all, h1]
  | ins C fs =>
    obtain ⟨dx, vs, h1, h2, h2', h3⟩ := h
    refine ⟨dx, vs, h1, k1.trans h2, (k dx ?_).trans h2', h3⟩
    simp [Foot.all, h1]
  | dk kvs => obtain ⟨h1, vs, h2, h3⟩ := h; exact ⟨h1, vs, k1.trans h2, h3⟩
  | mix ds => obtain ⟨h1, vs, h2, h3⟩ := h; exact ⟨h1, vs, k1.trans h2, h3⟩
  | jnk n => obtain ⟨h1, vs, h2, h3⟩ := h; exact ⟨h1, vs, k1.trans h2, h3⟩
  | tab P q => obtain ⟨rfl, ps, h2, h3⟩ := h; exact ⟨rfl, ps, k1.trans h2, h3⟩
  | dt kvs => obtain ⟨h1, vs, h2, h3⟩ := h; exact ⟨h1, vs, k1.trans h2, h3⟩
  | dead => trivial
theorem Rel.newD {p : Addr} {o : HO} (r : Rel K G φ S H) (hp : H p = none) : Rel K (upd G p o) φ S (upd H p o) ∧ Ext G φ H (upd G p o) φ (upd H p o) := by
  have gp : G p = none := r.sub.free hp
  have ne : ∀ a ∈ zs φ, a ≠ p := fun a m e => r.on a m (e ▸ hp)
  have gg := same_new gp o
  refine ⟨⟨fun b u e => ?_, r.len, r.nd, fun a m => ?_, fun i f ob h1 h2 => ?_, fun i f ob h1 h2 h3 a m => ?_⟩, ⟨gg, ⟨[], by simp⟩, fun a u _ h => same_new hp o a u h, fun a h1 h2 => ?_, fun _ h1 h2 => absurd h1 h2⟩⟩
  · by_cases h : b = p
    · subst h; rw [upd_same] at *; exact e
    · rw [upd_ne h] at *; exact r.sub b u e
  · rw [upd_ne (ne a m)]; exact r.on a m
  · exact ((r.ob i f ob h1 h2).mono gg ⟨[], by simp⟩).stay fun a m => upd_ne (ne a (mem_zs h1 m))
  · rw [upd_ne (ne a (mem_zs h1 m))]; exact r.off i f ob h1 h2 h3 a m
  · by_cases h : a = p
    · subst h; exact .inl hp
    · rw [upd_ne h] at h2; exact absurd h1 h2
theorem Rel.newO {p : Addr} {o : HO} {ob : Ob} (r : Rel K G φ S H) (hp : H p = none) (hob : ObR K G (φ ++ [(p, [])]) (p, []) (upd H p o) ob) :
    Rel K G (φ ++ [(p, [])]) (S ++ [ob]) (upd H p o) ∧ Ext G φ H G (φ ++ [(p, [])]) (upd H p o) := by
  have gp : G p = none := r.sub.free hp
  have ne : ∀ a ∈ zs φ, a ≠ p := fun a m e => r.on a m (e ▸ hp)
  have z1 : zs [((p, []) : Foot)] = [p] := rfl
  have cs : ∀ (i : Nat) f o', (φ ++ [((p, []) : Foot)])[i]? = some f → (S ++ [ob])[i]? = some o' → (φ[i]? = some f ∧ S[i]? = some o') ∨ (f = (p, []) ∧ o' = ob) := by
    intro i f o' h1 h2
    by_cases h : i < φ.length
    · rw [List.getElem?_append_left h] at h1
      rw [List.getElem?_append_left (by rw [← r.len]; exact h)] at h2
      exact .inl ⟨h1, h2⟩
    · rw [List.getElem?_append_right (by omega)] at h1
      rw [List.getElem?_append_right (by rw [← r.len]; omega), ← r.len] at h2
      cases hk : i - φ.length with
      | zero => rw [hk] at h1 h2; simp at h1 h2; exact .inr ⟨h1.symm, h2.symm⟩
      | succ n => rw [hk] at h1; simp at h1
  refine ⟨⟨r.sub.trans (same_new hp o), by simp [r.len], ?_, fun a m => ?_, fun i f o' h1 h2 => ?_, fun i f o' h1 h2 h3 a m => ?_⟩, ⟨.refl _, ⟨_, rfl⟩, fun a u _ h => same_new hp o a u h, fun a h1 h2 => absurd h1 h2, fun a h1 h2 => ?_⟩⟩
  · rw [zs_app, z1]
    refine List.nodup_append.mpr ⟨r.nd, by simp, fun a ha b hb => ?_⟩
    simp at hb
    rw [hb]
    exact ne a ha
  · rw [zs_app, z1] at m
    rcases List.mem_append.mp m with m | m
    · rw [upd_ne (ne a m)]; exact r.on a m
    · simp at m; subst m; rw [upd_same]; exact fun e => nomatch e
  · rcases cs i f o' h1 h2 with ⟨h1, h2⟩ | ⟨rfl, rfl⟩
    · exact ((r.ob i f o' h1 h2).mono (.refl _) ⟨_, rfl⟩).stay fun a m => upd_ne (ne a (mem_zs h1 m))
    · exact hob
  · rcases cs i f o' h1 h2 with ⟨h1, h2⟩ | ⟨rfl, rfl⟩
    · exact r.off i f o' h1 h2 h3 a m
    · simp [Foot.all] at m; subst m; exact gp
  · rw [zs_app, z1] at h1
    rcases List.mem_append.mp h1 with m | m
    · exact absurd m h2
    · simp at m; subst m; exact hp
theorem Rel.put {i : Nat} {f : Foot} {ob ob' : Ob} (r : Rel K G φ S H) (h1 : φ[i]? = some f) (h2 : S[i]? = some ob) (hl : ob ≠ .dead) (kp : ∀ a, a ∉ f.all → H' a = H a) (on : ∀ a ∈ f.all, H' a ≠ none) (hob : ObR K G φ f H' ob') :
    Rel K G φ (S.set i ob') H' ∧ Ext G φ H G φ H' := by
  have sep : ∀ (j : Nat) g, φ[j]? = some g → j ≠ i → ∀ a ∈ g.all, H' a = H a := fun j g hj n a m => kp a fun m' => n (zs_inj r.nd hj h1 m m')
  refine ⟨⟨fun b u e => ?_, by simp [r.len], r.nd, fun a m => ?_, fun j g o hj ho => ?_, fun j g o hj ho hd a m => ?_⟩, ⟨.refl _, ⟨[], by simp⟩, fun a u n h => ?_, fun a h1 h2 => absurd h1 h2, fun _ h1 h2 => absurd h1 h2⟩⟩
  · rw [kp b fun m => by rw [r.off i f ob h1 h2 hl b m] at e; cases e]
    exact r.sub b u e
  · by_cases h : a ∈ f.all
    · exact on a h
    · rw [kp a h]; exact r.on a m
  · by_cases h : j = i
    · subst h
      rw [h1] at hj; cases hj
      have : j < S.length := (List.getElem?_eq_some_iff.mp h2).1
      rw [List.getElem?_set_self this] at ho
      cases ho
      exact hob
    · rw [List.getElem?_set_ne (Ne.symm h)] at ho
      exact (r.ob j g o hj ho).stay (sep j g hj h)
  · by_cases h : j = i
    · subst h
      rw [h1] at hj; cases hj
      exact r.off j f ob h1 h2 hl a m
    · rw [List.getElem?_set_ne (Ne.symm h)] at ho
      exact r.off j g o hj ho hd a m
  · rw [kp a fun m => n (mem_zs h1 m)]; exact h
theorem Rel.frz {i : Nat} {f : Foot} {ds : List PyData} (r : Rel K G φ S H) (h1 : φ[i]? = some f) (h2 : S[i]? = some (.lst ds)) :
    ∃ G', Rel K G' φ (S.set i .dead) H ∧ Ext G φ H G' φ H ∧ Dq K G' (.ref f.1) (.list ds) := by
  obtain ⟨e, vs, h3, h4⟩ := r.ob i f _ h1 h2
  have g0 : G f.1 = none := r.off i f _ h1 h2 (fun e => nomatch e) _ (List.mem_cons_self ..)
  have gg := same_new g0 (HO.lst vs)
  refine ⟨upd G f.1 (.lst vs), ⟨fun b u e => ?_, by simp [r.len], r.nd, r.on, fun j g o hj ho => ?_, fun j g o hj ho hd a m => ?_⟩, ⟨gg, ⟨[], by simp⟩, fun _ _ _ h => h, fun a q1 q2 => ?_, fun _ h1 h2 => absurd h1 h2⟩, .lst upd_same (h4.mono gg)⟩
  · by_cases h : b = f.1
    · subst h; rw [upd_same] at e; cases e; exact h3
    · rw [upd_ne h] at e; exact r.sub b u e
  · by_cases h : j = i
    · subst h
      have : j < S.length := (List.getElem?_eq_some_iff.mp h2).1
      rw [List.getElem?_set_self this] at ho
      cases ho
      trivial
    · rw [List.getElem?_set_ne (Ne.symm h)] at ho
      exact (r.ob j g o hj ho).mono gg ⟨[], by simp⟩
  · by_cases h : j = i
    · subst h
      have : j < S.length := (List.getElem?_eq_some_iff.mp h2).1
      rw [List.getElem?_set_self this] at ho
      cases ho
      exact absurd rfl hd
    · rw [List.getElem?_set_ne (Ne.symm h)] at ho
      rw [upd_ne fun q => h (zs_inj r.nd hj h1 m (by rw [q]; exact List.mem_cons_self ..))]
      exact r.off j g o hj ho hd a m
  · by_cases h : a = f.1
    · subst h; exact .inr (mem_zs h1 (List.mem_cons_self ..))
    · rw [upd_ne h] at q2; exact absurd q1 q2
end
structure Slots (K : PySem.W.Frag) (G : Hp) (φ : List Foot) (ρ : Rh) (σ : L2.St) : Prop where
  len : ρ.length = σ.length
  get : ∀ (i : Nat) d, ρ[i]? = some (some d) → ∃ v, σ[i]? = some (some v) ∧ DV K G φ v d
section
variable {K : PySem.W.Frag} {G G' H H' : Hp} {φ φ' : List Foot} {S : Os} {ρ : Rh} {σ : L2.St}
theorem Slots.ext (s : Slots K G φ ρ σ) (e : Ext G φ H G' φ' H') : Slots K G' φ' ρ σ :=
  ⟨s.len, fun i d h => let ⟨v, h1, h2⟩ := s.get i d h; ⟨v, h1, h2.ext e⟩⟩
theorem Slots.set {d : D} {v : V} (s : Slots K G φ ρ σ) (i : Nat) (h : DV K G φ v d) : Slots K G φ (ρ.set i (some d)) (σ.set i (some v)) := by
  refine ⟨by simp [s.len], fun j e hj => ?_⟩
  by_cases q : j = i
  · subst q
    by_cases hl : j < ρ.length
    · rw [List.getElem?_set_self hl] at hj
      cases hj
      exact ⟨v, by rw [List.getElem?_set_self (by rw [← s.len]; exact hl)], h⟩
    · rw [List.getElem?_eq_none (by simp; omega)] at hj; cases hj
  · rw [List.getElem?_set_ne (Ne.symm q)] at hj ⊢
    exact s.get j e hj
theorem Slots.wipe (s : Slots K G φ ρ σ) (i : Nat) : Slots K G φ (ρ.set i none) (σ.set i none) := by
  refine ⟨by simp [s.len], fun j e hj => ?_⟩
  by_cases q : j = i
  · subst q
    by_cases hl : j < ρ.length
    · rw [List.getElem?_set_self hl] at hj; cases hj
    · rw [List.getElem?_eq_none (by simp; omega)] at hj; cases hj
  · rw [List.getElem?_set_ne (Ne.symm q)] at hj ⊢
    exact s.get j e hj
theorem Slots.setL {d : D} {v : V} (s : Slots K G φ ρ σ) (i : Nat) (hv : σ[i]? = some (some v)) (h : DV K G φ v d) : Slots K G φ (ρ.set i (some d)) σ := by
  have := s.set i h
  rwa [show σ.set i (some v) = σ from by
    apply List.ext_getElem?
    intro j
    by_cases q : j = i
    · subst q
      rw [List.getElem?_set_self (List.getElem?_eq_some_iff.mp hv).1, hv]
    · rw [List.getElem?_set_ne (Ne.symm q)]] at this
end
abbrev DQ := D → Os → Prop
abbrev DE := Rh → Os → DQ → Prop
abbrev DT := Rh → Os → (Bool → Os → Prop) → Prop
abbrev DA := Rh → Os → (List D → Os → Prop) → Prop
abbrev DGt := D → Rh → Os → (Rh → Os → Prop) → Prop
abbrev DGts := List D → Rh → Os → (Rh → Os → Prop) → Prop
structure DEnds where
  nx : Rh → Os → Prop
  rt : DQ
  bk : Rh → Os → Prop := fun _ _ => False
  ct : Rh → Os → Prop := fun _ _ => False
  xr : Addr → List (Str × PyData) → Rh → Os → Prop := fun _ _ _ _ => False
abbrev DSm := DEnds → Rh → Os → Prop
section
variable (K : PySem.W.Frag) (G : Hp) (φ : List Foot) (H : Hp)
def Dn (Q : VK) (Q' : DQ) : Prop := ∀ d S' G' φ' v H', Q' d S' → Ext G φ H G' φ' H' → Rel K G' φ' S' H' → DV K G' φ' v d → Q v H'
def DnT (Q : Bool → Hp → Prop) (Q' : Bool → Os → Prop) : Prop := ∀ b S' G' φ' H', Q' b S' → Ext G φ H G' φ' H' → Rel K G' φ' S' H' → Q b H'
def DnA (Q : List V → Hp → Prop) (Q' : List D → Os → Prop) : Prop := ∀ ds S' G' φ' vs H', Q' ds S' → Ext G φ H G' φ' H' → Rel K G' φ' S' H' → Paired (DV K G' φ') vs ds → Q vs H'
def DnR (Q : L2.St → Hp → Prop) (Q' : Rh → Os → Prop) : Prop := ∀ ρ S' G' φ' σ H', Q' ρ S' → Ext G φ H G' φ' H' → Rel K G' φ' S' H' → Slots K G' φ' ρ σ → Q σ H'
def DnW (W : WX) (xr : Addr → List (Str × PyData) → Rh → Os → Prop) : Prop := ∀ C fs ρ S' G' φ' σ d vs H', xr C fs ρ S' → Ext G φ H G' φ' H' → Rel K G' φ' S' H' → Slots K G' φ' ρ σ → G' d = some (.xd vs) → Paired (fun (p : Str × V) (q : Str × PyData) => p.1 = q.1 ∧ Dq K G' p.2 q.2) vs fs → W (.ref C) (some d) σ H'
structure DnS (W : WX) (E : Ends) (E' : DEnds) : Prop where
  nx : DnR K G φ H E.nx E'.nx
  rt : Dn K G φ H E.rt E'.rt
  bk : DnR K G φ H E.bk E'.bk
  ct : DnR K G φ H E.ct E'.ct
  xr : DnW K G φ H W E'.xr
end
section
variable (K : PySem.W.Frag)
def up (t : DE) : TE := fun σ H Q => ∃ G φ ρ S Q', Rel K G φ S H ∧ Slots K G φ ρ σ ∧ Dn K G φ H Q Q' ∧ t ρ S Q'
def upT (t : DT) : TT := fun σ H Q => ∃ G φ ρ S Q', Rel K G φ S H ∧ Slots K G φ ρ σ ∧ DnT K G φ H Q Q' ∧ t ρ S Q'
def upA (t : DA) : TA := fun σ H Q => ∃ G φ ρ S Q', Rel K G φ S H ∧ Slots K G φ ρ σ ∧ DnA K G φ H Q Q' ∧ t ρ S Q'
def upG (t : DGt) : TG := fun v σ H Q => ∃ G φ ρ S d Q', Rel K G φ S H ∧ Slots K G φ ρ σ ∧ DV K G φ v d ∧ DnR K G φ H Q Q' ∧ t d ρ S Q'
def upGs (t : DGts) : TGs := fun vs σ H Q => ∃ G φ ρ S ds Q', Rel K G φ S H ∧ Slots K G φ ρ σ ∧ Paired (DV K G φ) vs ds ∧ DnR K G φ H Q Q' ∧ t ds ρ S Q'
def upS (W : WX) (t : DSm) : TS := fun E σ H => ∃ G φ ρ S E', Rel K G φ S H ∧ Slots K G φ ρ σ ∧ DnS K G φ H W E E' ∧ t E' ρ S
def W0 : WX := fun _ _ _ _ => False
end
section
variable {X : Cx} {K : PySem.W.Frag} {G G' H H' : Hp} {φ φ' : List Foot}
theorem Dn.ext {Q : VK} {Q' : DQ} (h : Dn K G φ H Q Q') (e : Ext G φ H G' φ' H') : Dn K G' φ' H' Q Q' := fun d S' G2 φ2 v H2 q e2 r dv => h d S' G2 φ2 v H2 q (e.trans e2) r dv
theorem DnT.ext {Q : Bool → Hp → Prop} {Q' : Bool → Os → Prop} (h : DnT K G φ H Q Q') (e : Ext G φ H G' φ' H') : DnT K G' φ' H' Q Q' := fun d S' G2 φ2 H2 q e2 r => h d S' G2 φ2 H2 q (e.trans e2) r
theorem DnA.ext {Q : List V → Hp → Prop} {Q' : List D → Os → Prop} (h : DnA K G φ H Q Q') (e : Ext G φ H G' φ' H') : DnA K G' φ' H' Q Q' := fun d S' G2 φ2 v H2 q e2 r dv => h d S' G2 φ2 v H2 q (e.trans e2) r dv
theorem DnR.ext {Q : L2.St → Hp → Prop} {Q' : Rh → Os → Prop} (h : DnR K G φ H Q Q') (e : Ext G φ H G' φ' H') : DnR K G' φ' H' Q Q' := fun d S' G2 φ2 v H2 q e2 r dv => h d S' G2 φ2 v H2 q (e.trans e2) r dv
theorem DnW.ext {W : WX} {xr : Addr → List (Str × PyData) → Rh → Os → Prop} (h : DnW K G φ H W xr) (e : Ext G φ H G' φ' H') : DnW K G' φ' H' W xr := fun C fs ρ S' G2 φ2 σ d vs H2 q e2 r sl h1 h2 => h C fs ρ S' G2 φ2 σ d vs H2 q (e.trans e2) r sl h1 h2
theorem DnS.ext {W : WX} {E : Ends} {E' : DEnds} (h : DnS K G φ H W E E') (e : Ext G φ H G' φ' H') : DnS K G' φ' H' W E E' := ⟨h.nx.ext e, h.rt.ext e, h.bk.ext e, h.ct.ext e, h.xr.ext e⟩
theorem _root_.L2.PE.imp {e : Expr} {t t' : TE} (h : PE X e t) (i : ∀ σ H Q, t' σ H Q → t σ H Q) : PE X e t' := ⟨fun pins s σ H Q I q => h.run pins s σ H Q I (i σ H Q q)⟩
theorem _root_.L2.PT.imp {e : Expr} {t t' : TT} (h : PT X e t) (i : ∀ σ H Q, t' σ H Q → t σ H Q) : PT X e t' := ⟨fun pins s σ H Q I q => h.run pins s σ H Q I (i σ H Q q)⟩
theorem _root_.L2.PW.imp {e : Expr} {t t' : TT} (h : PW X e t) (i : ∀ σ H Q, t' σ H Q → t σ H Q) : PW X e t' := ⟨fun wh pins s σ H Q I q => h.run wh pins s σ H Q I (i σ H Q q)⟩
theorem _root_.L2.PA.imp {es : List Expr} {t t' : TA} (h : PA X es t) (i : ∀ σ H Q, t' σ H Q → t σ H Q) : PA X es t' := ⟨fun pos pins s σ H Q I q => h.run pos pins s σ H Q I (i σ H Q q)⟩
theorem _root_.L2.PS.imp {st : Stmt} {t t' : TS} (h : PS X st t) (i : ∀ E σ H, t' E σ H → t E σ H) : PS X st t' := ⟨fun pins s σ H Q I q => h.run pins s σ H Q I (i Q σ H q)⟩
theorem _root_.L2.PSs.imp {st : List Stmt} {t t' : TS} (h : PSs X st t) (i : ∀ E σ H, t' E σ H → t E σ H) : PSs X st t' := ⟨fun pins s σ H Q I q => h.run pins s σ H Q I (i Q σ H q)⟩
theorem _root_.L2.PI.imp {tg it : Expr} {t t' : TI} (h : PI X tg it t) (i : ∀ σ H R, t' σ H R → t σ H R) : PI X tg it t' := ⟨fun pins s σ H Q I q => h.run pins s σ H Q I (i σ H Q q)⟩
end
end Rm

set_option Elab.async false
set_option linter.all false
set_option maxRecDepth 100000
set_option maxHeartbeats 4000000
namespace Rm
open PySem PySem.Spec PyProof.Rows L2
def rd (S : Os) : D → Option PyData
  | .dat p => some p
  | .ref i => match S[i]? with
    | some (.lst ds) => some (.list ds)
    | _ => none
  | .ty _ => none
  | .exc _ _ _ _ => none
  | .dct _ => none
  | .any => none
  | .exk _ _ => none
  | .tupK _ _ _ => none
  | .tup _ => none
def Rv (K : PySem.W.Frag) (G H : Hp) (v : V) : PyData → Prop
  | .list ds => ∃ a vs, v = .ref a ∧ H a = some (.lst vs) ∧ DqAll K G vs ds
  | .tuple ds => ∃ a vs, v = .ref a ∧ SqT K H a vs ∧ DqAll K G vs ds
  | d => Dq K G v d
section
variable {K : PySem.W.Frag} {G H : Hp} {φ : List Foot} {S : Os} {v : V} {d : D} {p : PyData}
theorem Dq.rv (s : Same G H) (h : Dq K G v p) : Rv K G H v p := by
  cases h with
  | non => exact .non
  | bl b => exact .bl b
  | int b => exact .int b
  | str b => exact .str b
  | lst q r => exact ⟨_, _, rfl, s _ _ q, r⟩
  | tup q r => exact ⟨_, _, rfl, sameT s q, r⟩
theorem Rel.rd (r : Rel K G φ S H) (h : DV K G φ v d) (e : rd S d = some p) : Rv K G H v p := by
  cases d with
  | dat q => cases e; exact Dq.rv r.sub h
  | ref i =>
    obtain ⟨f, h1, rfl⟩ := h
    cases hs : S[i]? with
    | none => simp only [Rm.rd, hs] at e; cases e
    | some o =>
      simp only [Rm.rd, hs] at e
      cases o with
      | lst ds =>
        cases e
        obtain ⟨_, vs, h2, h3⟩ := r.ob i f _ h1 hs
        exact ⟨_, _, rfl, h2, h3⟩
      | _ => cases e
  | ty n => cases e
  | exc _ _ _ _ => cases e
  | dct _ => cases e
  | any => cases e
  | exk _ _ => cases e
  | tupK _ _ _ => cases e
  | tup _ => cases e
theorem Rv.dp (s : Same G H) (h : Rv K G H v p) : Dp K H v p := by
  cases p with
  | list ds => obtain ⟨a, vs, rfl, h1, h2⟩ := h; exact .lst (SqL.of h1) (dqAllDp (h2.mono s))
  | tuple ds => obtain ⟨a, vs, rfl, h1, h2⟩ := h; exact .tup h1 (dqAllDp (h2.mono s))
  | none => exact dqDp (Dq.mono s h)
  | bool b => exact dqDp (Dq.mono s h)
  | int b => exact dqDp (Dq.mono s h)
  | str b => exact dqDp (Dq.mono s h)
  | dict b => cases h
theorem dq_int {i : Int} (h : Dq K G v (.int i)) : v = .int i := by cases h; rfl
theorem dq_str {i : Str} (h : Dq K G v (.str i)) : v = .str i := by cases h; rfl
theorem dq_bl {i : Bool} (h : Dq K G v (.bool i)) : v = .bl i := by cases h; rfl
theorem dq_non (h : Dq K G v .none) : v = .non := by cases h; rfl
theorem dq_strs : ∀ l : List Str, DqAll K G (l.map V.str) (l.map PyData.str)
  | [] => .nil
  | x :: l => .cons (.str x) (dq_strs l)
theorem dq_strs_inv : ∀ {l : List Str} {vs : List V}, DqAll K G vs (l.map PyData.str) → vs = l.map V.str
  | [], _, .nil => rfl
  | x :: l, _, .cons h r => by rw [dq_str h, dq_strs_inv r]; rfl
theorem dq_bls_inv : ∀ {l : List Bool} {vs : List V}, DqAll K G vs (l.map PyData.bool) → vs = l.map V.bl
  | [], _, .nil => rfl
  | x :: l, _, .cons h r => by rw [dq_bl h, dq_bls_inv r]; rfl
end
def dVar (i : Nat) : DE := fun ρ S Q => ∃ d, ρ[i]? = some (some d) ∧ Q d S
def dC (d : D) : DE := fun _ S Q => Q d S
def dNil : DA := fun _ S Q => Q [] S
def dCons (te : DE) (t : DA) : DA := fun ρ S Q => te ρ S fun d S1 => t ρ S1 fun ds S2 => Q (d :: ds) S2
def dats : List D → Option (List PyData)
  | [] => some []
  | .dat p :: r => (dats r).map (p :: ·)
  | _ :: _ => none
def dTup (t : DA) : DE := fun ρ S Q => t ρ S fun ds S1 => ∃ ps, dats ds = some ps ∧ ps.length ≤ sizeLine ∧ Q (.dat (.tuple ps)) S1
def dLst (t : DA) : DE := fun ρ S Q => t ρ S fun ds S1 => ∃ ps, dats ds = some ps ∧ ps.length ≤ sizeLine ∧ Q (.dat (.list ps)) S1
def dLstO (t : DA) : DE := fun ρ S Q => t ρ S fun ds S1 => ∃ ps, dats ds = some ps ∧ ps.length ≤ sizeLine ∧ Q (.ref S1.length) (S1 ++ [.lst ps])
section
variable {X : Cx} {e a b c : Expr} {es : List Expr} {ta tb tc : DE} {t : DA} {pos : Pos}
theorem de_var {i : Nat} (h : PE X e (tVar i)) : PE X e (up X.K (dVar i)) := h.imp fun σ H Q ⟨G, φ, ρ, S, Q', r, sl, dn, d, e, q⟩ =>
  let ⟨v, h1, h2⟩ := sl.get i d e
  ⟨v, h1, dn d S G φ v H q .refl r h2⟩
theorem de_c {v : V} {d : D} (h : PE X e (tC v)) (hd : ∀ G φ, DV X.K G φ v d) : PE X e (up X.K (dC d)) := h.imp fun σ H Q ⟨G, φ, ρ, S, Q', r, sl, dn, q⟩ => dn d S G φ v H q .refl r (hd G φ)
theorem de_int {i j pos} : PE X (.Constant (.int i) j pos) (up X.K (dC (.dat (.int i)))) := de_c pe_int fun _ _ => .int _
theorem de_bl {b j pos} : PE X (.Constant (.bool b) j pos) (up X.K (dC (.dat (.bool b)))) := de_c pe_bl fun _ _ => .bl _
theorem de_non {j pos} : PE X (.Constant .none j pos) (up X.K (dC (.dat .none))) := de_c pe_non fun _ _ => .non
theorem de_str {x j pos} : PE X (.Constant (.str x) j pos) (up X.K (dC (.dat (.str x)))) := de_c pe_str fun _ _ => .str _
theorem da_nil : PA X [] (upA X.K dNil) := pa_nil.imp fun σ H Q ⟨G, φ, ρ, S, Q', r, sl, dn, q⟩ => dn [] S G φ [] H q .refl r .nil
theorem da_cons (ha : PE X e (up X.K ta)) (hr : PA X es (upA X.K t)) (hs : starEach (e :: es) X.env = (false, eval e X.env) :: starEach es X.env := by rfl) : PA X (e :: es) (upA X.K (dCons ta t)) :=
  (pa_cons ha hr hs).imp fun σ H Q ⟨G, φ, ρ, S, Q', r, sl, dn, q⟩ => ⟨G, φ, ρ, S, _, r, sl, fun d S1 G1 φ1 v H1 q1 e1 r1 dv => ⟨G1, φ1, ρ, S1, _, r1, sl.ext e1, fun ds S2 G2 φ2 vs H2 q2 e2 r2 dvs => dn _ _ _ _ _ _ q2 (e1.trans e2) r2 (.cons (dv.ext e2) dvs), q1⟩, q⟩
theorem dats_dq {K : PySem.W.Frag} {G : Hp} {φ : List Foot} : ∀ {ds : List D} {ps : List PyData} {vs : List V}, dats ds = some ps → Paired (DV K G φ) vs ds → DqAll K G vs ps
  | [], _, _, e, .nil => by cases e; exact .nil
  | .dat p :: ds, ps, _, e, .cons h r => by
    unfold dats at e
    cases h2 : dats ds with
    | none => rw [h2] at e; cases e
    | some qs => rw [h2] at e; cases e; exact .cons h (dats_dq h2 r)
  | .ref i :: ds, ps, _, e, _ => by cases e
  | .ty i :: ds, ps, _, e, _ => by cases e
  | .exc _ _ _ _ :: ds, ps, _, e, _ => by cases e
  | .dct _ :: ds, ps, _, e, _ => by cases e
  | .any :: ds, ps, _, e, _ => by cases e
  | .exk _ _ :: ds, ps, _, e, _ => by cases e
  | .tupK _ _ _ :: ds, ps, _, e, _ => by cases e
  | .tup _ :: ds, ps, _, e, _ => by cases e
theorem de_tup {x1} (h : PA X es (upA X.K t)) : PE X (.Tuple es x1 pos) (up X.K (dTup t)) := (pe_tup h).imp fun σ H Q ⟨G, φ, ρ, S, Q', r, sl, dn, q⟩ =>
  ⟨G, φ, ρ, S, _, r, sl, fun ds S1 G1 φ1 vs H1 ⟨ps, h1, h2, q1⟩ e1 r1 dvs => by
    have da := dats_dq h1 dvs
    refine ⟨by rw [da.len]; exact h2, fun p hp => ?_⟩
    obtain ⟨r2, e2⟩ := r1.newD (o := .tup vs) hp
    exact dn _ _ _ _ _ _ q1 (e1.trans e2) r2 (.tup (SqT.of upd_same) (da.mono e2.g)), q⟩
theorem de_lst (h : PA X es (upA X.K t)) : PE X (.List es pos) (up X.K (dLst t)) := (pe_lst h).imp fun σ H Q ⟨G, φ, ρ, S, Q', r, sl, dn, q⟩ =>
  ⟨G, φ, ρ, S, _, r, sl, fun ds S1 G1 φ1 vs H1 ⟨ps, h1, h2, q1⟩ e1 r1 dvs => by
    have da := dats_dq h1 dvs
    refine ⟨by rw [da.len]; exact h2, fun p hp => ?_⟩
    obtain ⟨r2, e2⟩ := r1.newD (o := .lst vs) hp
    exact dn _ _ _ _ _ _ q1 (e1.trans e2) r2 (.lst upd_same (da.mono e2.g)), q⟩
theorem new_get {φ : List Foot} {f : Foot} : (φ ++ [f])[φ.length]? = some f := by simp
theorem de_lstO (h : PA X es (upA X.K t)) : PE X (.List es pos) (up X.K (dLstO t)) := (pe_lst h).imp fun σ H Q ⟨G, φ, ρ, S, Q', r, sl, dn, q⟩ =>
  ⟨G, φ, ρ, S, _, r, sl, fun ds S1 G1 φ1 vs H1 ⟨ps, h1, h2, q1⟩ e1 r1 dvs => by
    have da := dats_dq h1 dvs
    refine ⟨by rw [da.len]; exact h2, fun p hp => ?_⟩
    obtain ⟨r2, e2⟩ := r1.newO (o := .lst vs) (ob := .lst ps) hp ⟨rfl, vs, upd_same, da⟩
    exact dn _ _ _ _ _ _ q1 (e1.trans e2) r2 ⟨(p, []), by rw [← r1.len]; exact new_get, rfl⟩, q⟩
abbrev R2D := D → D → Os → DQ → Prop
abbrev RCD := List D → Os → DQ → Prop
def OpD (K : PySem.W.Frag) (r' : R2) (r : R2D) : Prop := ∀ G φ S H x y v u Q Q', Rel K G φ S H → DV K G φ v x → DV K G φ u y → Dn K G φ H Q Q' → r x y S Q' → r' v u H Q
def CallD (K : PySem.W.Frag) (r' : List V → Hp → VK → Prop) (r : RCD) : Prop := ∀ G φ S H ds vs Q Q', Rel K G φ S H → Paired (DV K G φ) vs ds → Dn K G φ H Q Q' → r ds S Q' → r' vs H Q
def UnD (K : PySem.W.Frag) (r' : V → Hp → VK → Prop) (r : D → Os → DQ → Prop) : Prop := ∀ G φ S H x v Q Q', Rel K G φ S H → DV K G φ v x → Dn K G φ H Q Q' → r x S Q' → r' v H Q
def dOp (r : R2D) (ta tb : DE) : DE := fun ρ S Q => ta ρ S fun x S1 => tb ρ S1 fun y S2 => r x y S2 Q
def dUn (r : D → Os → DQ → Prop) (ta : DE) : DE := fun ρ S Q => ta ρ S fun x S1 => r x S1 Q
def dCB (r : RCD) (t : DA) : DE := fun ρ S Q => t ρ S fun ds S1 => r ds S1 Q
variable {r' : R2} {r : R2D} {r2' : R2} {r2 : R2D}
theorem op_up (hs : OpD X.K r' r) {σ : L2.St} {H : Hp} {Q : VK} (h : up X.K (dOp r ta tb) σ H Q) : tOp r' (up X.K ta) (up X.K tb) σ H Q := by
  obtain ⟨G, φ, ρ, S, Q', rl, sl, dn, q⟩ := h
  exact ⟨G, φ, ρ, S, _, rl, sl, fun x S1 G1 φ1 v H1 q1 e1 r1 dv => ⟨G1, φ1, ρ, S1, _, r1, sl.ext e1, fun y S2 G2 φ2 u H2 q2 e2 r2 du => hs _ _ _ _ _ _ _ _ _ _ r2 (dv.ext e2) du (dn.ext (e1.trans e2)) q2, q1⟩, q⟩
theorem de_op {op : Operator} (ho : OpR X (binaryOp op) r') (hs : OpD X.K r' r) (ha : PE X a (up X.K ta)) (hb : PE X b (up X.K tb)) : PE X (.BinOp a op b pos) (up X.K (dOp r ta tb)) :=
  (pe_op ho ha hb).imp fun σ H Q h => op_up hs h
theorem de_cmp {op : CmpOp} (ho : OpR X (compareOp op) r') (hs : OpD X.K r' r) (ha : PE X a (up X.K ta)) (hb : PE X b (up X.K tb)) (hm : behindInMarks op b = false) : PE X (.Compare a [op] [b] pos) (up X.K (dOp r ta tb)) :=
  (pe_cmpR ho ha hb hm).imp fun σ H Q h => op_up hs h
theorem de_ix (ho : IxR X r') (hs : OpD X.K r' r) (ha : PE X a (up X.K ta)) (hb : PE X b (up X.K tb)) (hp : PlainIx b) : PE X (.Subscript a b pos) (up X.K (dOp r ta tb)) :=
  (pe_ix ho ha hb hp).imp fun σ H Q h => op_up hs h
theorem de_un {op : UnaryOp} {r' : V → Hp → VK → Prop} {r : D → Os → DQ → Prop} (ho : UnR X (unaryOp op) r') (hs : UnD X.K r' r) (ha : PE X a (up X.K ta)) : PE X (.UnaryOp op a pos) (up X.K (dUn r ta)) :=
  (pe_un ho ha).imp fun σ H Q ⟨G, φ, ρ, S, Q', rl, sl, dn, q⟩ => ⟨G, φ, ρ, S, _, rl, sl, fun x S1 G1 φ1 v H1 q1 e1 r1 dv => hs _ _ _ _ _ _ _ _ r1 dv (dn.ext e1) q1, q⟩
theorem cb_up {r' : List V → Hp → VK → Prop} {r : RCD} (hs : CallD X.K r' r) {σ : L2.St} {H : Hp} {Q : VK} (h : up X.K (dCB r t) σ H Q) : tCB r' (upA X.K t) σ H Q := by
  obtain ⟨G, φ, ρ, S, Q', rl, sl, dn, q⟩ := h
  exact ⟨G, φ, ρ, S, _, rl, sl, fun ds S1 G1 φ1 vs H1 q1 e1 r1 dv => hs _ _ _ _ _ _ _ _ r1 dv (dn.ext e1) q1, q⟩
theorem de_callB {x : Str} {id : String} {p : Pos} {r' : List V → Hp → VK → Prop} {r : RCD} (hc : CallR X (.builtin id) r') (hs : CallD X.K r' r) (hg : Gl X x) (hm : X.mg x = none) (hv : bootBuiltins x = some (.builtin id)) (ha : PA X (e :: es) (upA X.K t)) (hn : x ≠ "__name__" := by decide) (hdb : (x == ("__debug__" : Str)) = false := by decide)
    (he : starEach (e :: es) X.env = (false, eval e X.env) :: starEach es X.env := by rfl) (hpl : (backTo pos (starEach es X.env)).any (·.1) = false := by rfl) : PE X (.Call (.Name x p) (e :: es) [] pos) (up X.K (dCB r t)) :=
  (pe_callB hc hg hm hv ha hn hdb he hpl).imp fun σ H Q h => cb_up hs h
theorem de_callTy {x : Str} {T : String} {p : Pos} {r' : List V → Hp → VK → Prop} {r : RCD} (hc : CallR X (.type T) r') (hs : CallD X.K r' r) (hg : Gl X x) (hm : X.mg x = none) (hv : bootBuiltins x = some (.type T)) (ha : PA X (e :: es) (upA X.K t)) (hn : x ≠ "__name__" := by decide) (hdb : (x == ("__debug__" : Str)) = false := by decide)
    (he : starEach (e :: es) X.env = (false, eval e X.env) :: starEach es X.env := by rfl) (hpl : (backTo pos (starEach es X.env)).any (·.1) = false := by rfl) : PE X (.Call (.Name x p) (e :: es) [] pos) (up X.K (dCB r t)) :=
  (pe_callTy hc hg hm hv ha hn hdb he hpl).imp fun σ H Q h => cb_up hs h
def dT (t : DE) : DT := fun ρ S Q => t ρ S fun x S1 => ∃ b, x = .dat (.bool b) ∧ Q b S1
def dAnd (t u : DT) : DT := fun ρ S Q => t ρ S fun c S1 => if c = true then u ρ S1 Q else Q false S1
def dOr (t u : DT) : DT := fun ρ S Q => t ρ S fun c S1 => if c = true then Q true S1 else u ρ S1 Q
def dNot (t : DT) : DT := fun ρ S Q => t ρ S fun c S1 => Q (!c) S1
def dAndV (ta tb : DE) : DE := fun ρ S Q => ta ρ S fun x S1 => ∃ c, x = .dat (.bool c) ∧ if c = true then tb ρ S1 Q else Q (.dat (.bool false)) S1
def dOrV (ta tb : DE) : DE := fun ρ S Q => ta ρ S fun x S1 => ∃ c, x = .dat (.bool c) ∧ if c = true then Q (.dat (.bool true)) S1 else tb ρ S1 Q
def dNotV (ta : DE) : DE := fun ρ S Q => ta ρ S fun x S1 => ∃ c, x = .dat (.bool c) ∧ Q (.dat (.bool (!c))) S1
def dIf (t : DT) (ta tb : DE) : DE := fun ρ S Q => t ρ S fun c S1 => if c = true then ta ρ S1 Q else tb ρ S1 Q
variable {tA tB' : DT} {rest : List Expr}
theorem dt_cmp {op : CmpOp} (ho : OpR X (compareOp op) r') (hs : OpD X.K r' r) (ha : PE X a (up X.K ta)) (hb : PE X b (up X.K tb)) (hm : behindInMarks op b = false) : PT X (.Compare a [op] [b] pos) (upT X.K (dT (dOp r ta tb))) :=
  (pt_cmpR ho ha hb hm).imp fun σ H Q ⟨G, φ, ρ, S, Q', rl, sl, dn, q⟩ => by
    refine op_up hs ⟨G, φ, ρ, S, _, rl, sl, fun d S1 G1 φ1 v H1 q1 e1 r1 dv => ?_, q⟩
    obtain ⟨k, rfl, q1⟩ := q1
    rw [dq_bl dv]
    exact ⟨k, rfl, dn _ _ _ _ _ q1 e1 r1⟩
theorem dt_val (h : PE X e (up X.K ta)) (he : ∀ whole, isTrue e X.env whole = (do let v ← whole; standAt e.pos; holding [v] (truthy v)) := by intro _; rfl) : PT X e (upT X.K (dT ta)) :=
  (pt_val h he).imp fun σ H Q ⟨G, φ, ρ, S, Q', rl, sl, dn, q⟩ => by
    refine ⟨G, φ, ρ, S, _, rl, sl, fun d S1 G1 φ1 v H1 q1 e1 r1 dv => ?_, q⟩
    obtain ⟨k, rfl, q1⟩ := q1
    rw [dq_bl dv]
    exact ⟨k, rfl, dn _ _ _ _ _ q1 e1 r1⟩
theorem dw_and1 (ha : PT X a (upT X.K tA)) : PW X (.BoolOp .And [a] pos) (upT X.K tA) := pw_and1 ha
theorem dw_or1 (ha : PT X a (upT X.K tA)) : PW X (.BoolOp .Or [a] pos) (upT X.K tA) := pw_or1 ha
theorem dw_and (ha : PT X a (upT X.K tA)) (hb : PW X (.BoolOp .And (b :: rest) pos) (upT X.K tB')) : PW X (.BoolOp .And (a :: b :: rest) pos) (upT X.K (dAnd tA tB')) :=
  (pw_and ha hb).imp fun σ H Q ⟨G, φ, ρ, S, Q', rl, sl, dn, q⟩ => by
    refine ⟨G, φ, ρ, S, _, rl, sl, fun k S1 G1 φ1 H1 q1 e1 r1 => ?_, q⟩
    cases k with
    | true => exact ⟨G1, φ1, ρ, S1, Q', r1, sl.ext e1, dn.ext e1, q1⟩
    | false => exact dn _ _ _ _ _ q1 e1 r1
theorem dw_or (ha : PT X a (upT X.K tA)) (hb : PW X (.BoolOp .Or (b :: rest) pos) (upT X.K tB')) : PW X (.BoolOp .Or (a :: b :: rest) pos) (upT X.K (dOr tA tB')) :=
  (pw_or ha hb).imp fun σ H Q ⟨G, φ, ρ, S, Q', rl, sl, dn, q⟩ => by
    refine ⟨G, φ, ρ, S, _, rl, sl, fun k S1 G1 φ1 H1 q1 e1 r1 => ?_, q⟩
    cases k with
    | false => exact ⟨G1, φ1, ρ, S1, Q', r1, sl.ext e1, dn.ext e1, q1⟩
    | true => exact dn _ _ _ _ _ q1 e1 r1
theorem dt_not (ha : PT X a (upT X.K tA)) : PT X (.UnaryOp .Not a pos) (upT X.K (dNot tA)) :=
  (pt_not ha).imp fun σ H Q ⟨G, φ, ρ, S, Q', rl, sl, dn, q⟩ => ⟨G, φ, ρ, S, _, rl, sl, fun k S1 G1 φ1 H1 q1 e1 r1 => dn _ _ _ _ _ q1 e1 r1, q⟩
theorem de_one {op} (h : PE X a (up X.K ta)) : PE X (.BoolOp op [a] pos) (up X.K ta) := pe_one h
theorem de_and (ha : PE X a (up X.K ta)) (hb : PE X (.BoolOp .And (b :: rest) pos) (up X.K tb)) : PE X (.BoolOp .And (a :: b :: rest) pos) (up X.K (dAndV ta tb)) :=
  (pe_and ha hb).imp fun σ H Q ⟨G, φ, ρ, S, Q', rl, sl, dn, q⟩ => by
    refine ⟨G, φ, ρ, S, _, rl, sl, fun d S1 G1 φ1 v H1 q1 e1 r1 dv => ?_, q⟩
    obtain ⟨k, rfl, q1⟩ := q1
    rw [dq_bl dv]
    refine ⟨k, rfl, ?_⟩
    cases k with
    | true => exact ⟨G1, φ1, ρ, S1, Q', r1, sl.ext e1, dn.ext e1, q1⟩
    | false => exact dn _ _ _ _ _ _ q1 e1 r1 (.bl false)
theorem de_or (ha : PE X a (up X.K ta)) (hb : PE X (.BoolOp .Or (b :: rest) pos) (up X.K tb)) : PE X (.BoolOp .Or (a :: b :: rest) pos) (up X.K (dOrV ta tb)) :=
  (pe_or ha hb).imp fun σ H Q ⟨G, φ, ρ, S, Q', rl, sl, dn, q⟩ => by
    refine ⟨G, φ, ρ, S, _, rl, sl, fun d S1 G1 φ1 v H1 q1 e1 r1 dv => ?_, q⟩
    obtain ⟨k, rfl, q1⟩ := q1
    rw [dq_bl dv]
    refine ⟨k, rfl, ?_⟩
    cases k with
    | false => exact ⟨G1, φ1, ρ, S1, Q', r1, sl.ext e1, dn.ext e1, q1⟩
    | true => exact dn _ _ _ _ _ _ q1 e1 r1 (.bl true)
theorem de_not (ha : PE X a (up X.K ta)) : PE X (.UnaryOp .Not a pos) (up X.K (dNotV ta)) :=
  (pe_not ha).imp fun σ H Q ⟨G, φ, ρ, S, Q', rl, sl, dn, q⟩ => by
    refine ⟨G, φ, ρ, S, _, rl, sl, fun d S1 G1 φ1 v H1 q1 e1 r1 dv => ?_, q⟩
    obtain ⟨k, rfl, q1⟩ := q1
    rw [dq_bl dv]
    exact ⟨k, rfl, dn _ _ _ _ _ _ q1 e1 r1 (.bl _)⟩
theorem de_ifExp (hc : PT X c (upT X.K tA)) (ha : PE X a (up X.K ta)) (hb : PE X b (up X.K tb)) : PE X (.IfExp c a b pos) (up X.K (dIf tA ta tb)) :=
  (pe_ifExp hc ha hb).imp fun σ H Q ⟨G, φ, ρ, S, Q', rl, sl, dn, q⟩ => by
    refine ⟨G, φ, ρ, S, _, rl, sl, fun k S1 G1 φ1 H1 q1 e1 r1 => ?_, q⟩
    cases k with
    | false => exact ⟨G1, φ1, ρ, S1, Q', r1, sl.ext e1, dn.ext e1, q1⟩
    | true => exact ⟨G1, φ1, ρ, S1, Q', r1, sl.ext e1, dn.ext e1, q1⟩
def dChain (r r2 : R2D) (ta tb tc : DE) : DE := fun ρ S Q => ta ρ S fun x S1 => tb ρ S1 fun y S2 => r x y S2 fun z S3 => ∃ k, z = .dat (.bool k) ∧ (if k = true then tc ρ S3 fun w' S4 => r2 y w' S4 Q else Q (.dat (.bool false)) S3)
theorem dt_chain {op op' : CmpOp} (ho : OpR X (compareOp op) r') (hs : OpD X.K r' r) (ho2 : OpR X (compareOp op') r2') (hs2 : OpD X.K r2' r2) (ha : PE X a (up X.K ta)) (hb : PE X b (up X.K tb)) (hc : PE X c (up X.K tc))
    (hm : lastMarks [op, op'] [b, c] = false := by with_unfolding_all rfl) : PT X (.Compare a [op, op'] [b, c] pos) (upT X.K (dT (dChain r r2 ta tb tc))) :=
  (pt_chain ho ho2 ha hb hc hm).imp fun σ H Q ⟨G, φ, ρ, S, Q', rl, sl, dn, q⟩ => by
    refine ⟨G, φ, ρ, S, _, rl, sl, fun x S1 G1 φ1 v H1 q1 e1 r1 dv => ⟨G1, φ1, ρ, S1, _, r1, sl.ext e1, fun y S2 G2 φ2 u H2 q2 e2 rr2 du => ?_, q1⟩, q⟩
    refine hs _ _ _ _ _ _ _ _ _ _ rr2 (dv.ext e2) du (fun z S3 G3 φ3 vz H3 q3 e3 r3 dz => ?_) q2
    obtain ⟨k, rfl, q3⟩ := q3
    rw [dq_bl dz]
    refine ⟨k, rfl, ?_⟩
    have e123 := (e1.trans e2).trans e3
    have fin : Dn X.K G φ H (fun x H' => ∃ b, x = V.bl b ∧ Q b H') (fun x S1 => ∃ b, x = .dat (.bool b) ∧ Q' b S1) := fun d S1 G1 φ1 v H1 q1 e1 r1 dv => by
      obtain ⟨k, rfl, q1⟩ := q1
      rw [dq_bl dv]
      exact ⟨k, rfl, dn _ _ _ _ _ q1 e1 r1⟩
    cases k with
    | false => exact fin _ _ _ _ _ _ q3 e123 r3 (.bl _)
    | true => exact ⟨G3, φ3, ρ, S3, _, r3, sl.ext e123, fun w' S4 G4 φ4 vw H4 q4 e4 r4 dw => hs2 _ _ _ _ _ _ _ _ _ _ r4 ((du.ext e3).ext e4) dw (fin.ext (e123.trans e4)) q4, q3⟩
end
end Rm

set_option Elab.async false
set_option linter.all false
set_option maxRecDepth 100000
set_option maxHeartbeats 4000000
namespace Rm
open PySem PySem.Spec PyProof.Rows L2
def lenP : PyData → Option Nat
  | .list ds => some ds.length
  | .tuple ds => some ds.length
  | .str z => some z.length
  | _ => none
def addP : PyData → PyData → Option PyData
  | .int i, .int j => some (.int (i + j))
  | .str a, .str b => some (.str (a ++ b))
  | .list a, .list b => some (.list (a ++ b))
  | .tuple a, .tuple b => some (.tuple (a ++ b))
  | _, _ => none
def addB : PyData → PyData → Prop
  | .str a, .str b => a.length + b.length ≤ sizeLine
  | .list a, .list b => a.length + b.length ≤ sizeLine
  | .tuple a, .tuple b => a.length + b.length ≤ sizeLine
  | _, _ => True
def rAdd : R2D := fun x y S Q => ∃ p q, rd S x = some p ∧ rd S y = some q ∧ ∃ z, addP p q = some z ∧ addB p q ∧ Q (.dat z) S
def rInts (C : Int → Int → Prop) (f : Int → Int → PyData) : R2D := fun x y S Q => ∃ i j, x = .dat (.int i) ∧ y = .dat (.int j) ∧ C i j ∧ Q (.dat (f i j)) S
section
variable {X : Cx} {K : PySem.W.Frag}
theorem DqAll.nil_iff {G : Hp} {vs : List V} {ds : List PyData} (h : DqAll K G vs ds) : vs = [] ↔ ds = [] := by
  cases h with
  | nil => simp
  | cons _ _ => simp
def addR (K : PySem.W.Frag) : R2 := fun x y H Q => rI0 (fun i j => .int (i + j)) x y H Q ∨ (∃ i j, x = .str i ∧ y = .str j ∧ i.length + j.length ≤ sizeLine ∧ Q (.str (i ++ j)) H) ∨ rCat x y H Q ∨ rCatA K x y H Q
theorem op_addAll : OpR X (binaryOp .Add) (addR X.K) := op_add.or (op_add_str.or (op_cat.or op_catA))
theorem od_add : OpD K (addR K) rAdd := by
  intro G φ S H x y v u Q Q' r dx dy dn ⟨p, q, h1, h2, z, h3, hb, q'⟩
  have e1 := r.rd dx h1
  have e2 := r.rd dy h2
  cases p with
  | int i =>
    cases q with
    | int j => cases h3; exact .inl ⟨i, j, dq_int e1, dq_int e2, dn _ _ _ _ _ _ q' .refl r (.int _)⟩
    | _ => cases h3
  | str i =>
    cases q with
    | str j => cases h3; exact .inr (.inl ⟨i, j, dq_str e1, dq_str e2, hb, dn _ _ _ _ _ _ q' .refl r (.str _)⟩)
    | _ => cases h3
  | list ds =>
    cases q with
    | list es =>
      cases h3
      obtain ⟨a, vs, rfl, a1, a2⟩ := e1
      obtain ⟨b, us, rfl, b1, b2⟩ := e2
      refine .inr (.inr (.inl ⟨a, b, vs, us, rfl, rfl, a1, b1, by rw [a2.len, b2.len]; exact hb, fun p hp => ?_⟩))
      obtain ⟨r2, e2⟩ := r.newD (o := .lst (vs ++ us)) hp
      exact dn _ _ _ _ _ _ q' e2 r2 (.lst upd_same ((a2.app b2).mono e2.g))
    | _ => cases h3
  | tuple ds =>
    cases q with
    | tuple es =>
      cases h3
      obtain ⟨a, vs, rfl, a1, a2⟩ := e1
      obtain ⟨b, us, rfl, b1, b2⟩ := e2
      refine .inr (.inr (.inr ⟨a, b, vs, us, rfl, rfl, a1, b1, by rw [a2.len, b2.len]; exact hb, fun h0 => ?_, fun h0 h1' => ?_, fun h0 h1' p hp => ?_⟩))
      · have h0' := a2.nil_iff.mp h0
        subst h0'
        rw [List.nil_append] at q'
        cases y with
        | dat y => cases h2; exact dn _ _ _ _ _ _ q' .refl r dy
        | ref i =>
          simp only [rd] at h2
          split at h2 <;> cases h2
        | ty n => cases h2
        | exc _ _ _ _ => cases h2
        | dct _ => cases h2
        | any => cases h2
        | exk _ _ => cases h2
        | tupK _ _ _ => cases h2
        | tup _ => cases h2
      · have h0' := b2.nil_iff.mp h1'
        subst h0'
        rw [List.append_nil] at q'
        cases x with
        | dat y => cases h1; exact dn _ _ _ _ _ _ q' .refl r dx
        | ref i =>
          simp only [rd] at h1
          split at h1 <;> cases h1
        | ty n => cases h1
        | exc _ _ _ _ => cases h1
        | dct _ => cases h1
        | any => cases h1
        | exk _ _ => cases h1
        | tupK _ _ _ => cases h1
        | tup _ => cases h1
      · obtain ⟨r2, e2⟩ := r.newD (o := .tup (vs ++ us)) hp
        exact dn _ _ _ _ _ _ q' e2 r2 (.tup (SqT.of upd_same) ((a2.app b2).mono e2.g))
    | _ => cases h3
  | _ => cases h3
theorem od_ints {C : Int → Int → Prop} {f : Int → Int → V} {g : Int → Int → PyData} (hg : ∀ i j G, Dq K G (f i j) (g i j)) : OpD K (rI C f) (rInts C g) := by
  rintro G φ S H x y v u Q Q' r dx dy dn ⟨i, j, rfl, rfl, c, q'⟩
  exact ⟨i, j, dq_int dx, dq_int dy, c, dn _ _ _ _ _ _ q' .refl r (hg i j G)⟩
theorem od_ints0 {f : Int → Int → V} {g : Int → Int → PyData} (hg : ∀ i j G, Dq K G (f i j) (g i j)) : OpD K (rI0 f) (rInts (fun _ _ => True) g) := by
  rintro G φ S H x y v u Q Q' r dx dy dn ⟨i, j, rfl, rfl, c, q'⟩
  exact ⟨i, j, dq_int dx, dq_int dy, dn _ _ _ _ _ _ q' .refl r (hg i j G)⟩
theorem de_add {a b : Expr} {ta tb : DE} {pos : Pos} (ha : PE X a (up X.K ta)) (hb : PE X b (up X.K tb)) : PE X (.BinOp a .Add b pos) (up X.K (dOp rAdd ta tb)) := de_op op_addAll od_add ha hb
def rSub : R2D := rInts (fun _ _ => True) fun i j => .int (i - j)
theorem de_sub {a b : Expr} {ta tb : DE} {pos : Pos} (ha : PE X a (up X.K ta)) (hb : PE X b (up X.K tb)) : PE X (.BinOp a .Sub b pos) (up X.K (dOp rSub ta tb)) := de_op op_sub (od_ints0 fun _ _ _ => .int _) ha hb
def rFdiv : R2D := rInts CDiv fun i j => .int (i / j)
def rMod : R2D := rInts (fun _ j => 0 < j) fun i j => .int (i % j)
def rPow : R2D := rInts CPow fun i j => .int (i ^ j.toNat)
theorem de_pow {a b : Expr} {ta tb : DE} {pos : Pos} (ha : PE X a (up X.K ta)) (hb : PE X b (up X.K tb)) : PE X (.BinOp a .Pow b pos) (up X.K (dOp rPow ta tb)) := de_op op_pow (od_ints fun _ _ _ => .int _) ha hb
def rMul : R2D := fun x y S Q => ∃ p j, rd S x = some p ∧ y = .dat (.int j) ∧ match p with
  | .int i => CMul i j ∧ Q (.dat (.int (i * j))) S
  | .str z => -1000 ≤ j ∧ j ≤ 1000 ∧ z.length ≤ 1000 ∧ Q (.dat (.str (Txt.mul z j))) S
  | .list ds => -(2 ^ 63) ≤ j ∧ j < 2 ^ 63 ∧ ds.length * j.toNat ≤ sizeLine ∧ Q (.dat (.list (List.replicate j.toNat ds).flatten)) S
  | _ => False
theorem DqAll.rep {G : Hp} {vs : List V} {ds : List PyData} (h : DqAll K G vs ds) : ∀ n : Nat, DqAll K G (List.replicate n vs).flatten (List.replicate n ds).flatten
  | 0 => .nil
  | n + 1 => by simp only [List.replicate_succ, List.flatten_cons]; exact h.app (h.rep n)
def mulR : R2 := fun x y H Q => rI CMul (fun i j => .int (i * j)) x y H Q ∨ (∃ (z : Str) (n : Int), x = .str z ∧ y = .int n ∧ -1000 ≤ n ∧ n ≤ 1000 ∧ z.length ≤ 1000 ∧ Q (.str (Txt.mul z n)) H) ∨ rRep x y H Q
theorem od_mul : OpD K mulR rMul := by
  rintro G φ S H x y v u Q Q' r dx dy dn ⟨p, j, h1, rfl, q'⟩
  have e1 := r.rd dx h1
  have e2 := dq_int dy
  subst e2
  cases p with
  | int i => exact .inl ⟨i, j, dq_int e1, rfl, q'.1, dn _ _ _ _ _ _ q'.2 .refl r (.int _)⟩
  | str i => obtain ⟨c1, c2, c3, q'⟩ := q'; exact .inr (.inl ⟨i, j, dq_str e1, rfl, c1, c2, c3, dn _ _ _ _ _ _ q' .refl r (.str _)⟩)
  | list ds =>
    obtain ⟨c1, c2, c3, q'⟩ := q'
    obtain ⟨a, vs, rfl, a1, a2⟩ := e1
    refine .inr (.inr ⟨a, j, vs, rfl, rfl, a1, c1, c2, by rw [a2.len]; exact c3, fun p hp => ?_⟩)
    obtain ⟨r2, e2⟩ := r.newD (o := .lst (List.replicate j.toNat vs).flatten) hp
    exact dn _ _ _ _ _ _ q' e2 r2 (.lst upd_same ((a2.rep _).mono e2.g))
  | _ => exact q'.elim
theorem de_mul {a b : Expr} {ta tb : DE} {pos : Pos} (ha : PE X a (up X.K ta)) (hb : PE X b (up X.K tb)) : PE X (.BinOp a .Mult b pos) (up X.K (dOp rMul ta tb)) := de_op (op_mul.or (op_mul_str.or op_rep)) od_mul ha hb
def rNeg : D → Os → DQ → Prop := fun x S Q => ∃ i, x = .dat (.int i) ∧ Q (.dat (.int (-i))) S
theorem de_neg {a : Expr} {ta : DE} {pos : Pos} (ha : PE X a (up X.K ta)) : PE X (.UnaryOp .USub a pos) (up X.K (dUn rNeg ta)) := de_un un_neg (fun G φ S H x v Q Q' r dx dn ⟨i, e, q⟩ => by
  subst e
  exact ⟨i, dq_int dx, dn _ _ _ _ _ _ q .refl r (.int _)⟩) ha
def flatP : PyData → Bool
  | .none => true
  | .bool _ => true
  | .int _ => true
  | .str _ => true
  | _ => false
def eqOk (p q : PyData) : Prop := (flatP p = true ∧ flatP q = true) ∨ (SeqAt.shaped p = true ∧ SeqAt.shaped q = true)
theorem Rv.flat {G H : Hp} {v : V} {p : PyData} (h : Rv K G H v p) (f : flatP p = true) : Dq K G v p ∧ flatV v = true := by
  cases p <;> first | cases f; done | (refine ⟨h, ?_⟩; cases h; rfl)
theorem eqV_eqv {G : Hp} {x y : V} {p q : PyData} (hx : Dq K G x p) (hy : Dq K G y q) (fp : flatP p = true) (fq : flatP q = true) : eqV x y = PyData.eqv p q := by
  cases hx <;> cases hy <;> first | cases fp; done | cases fq; done | simp [eqV, PyData.eqv]
theorem eq_scal {G : Hp} {x y : V} {p q : PyData} (hx : Dq K G x p) (hy : Dq K G y q) (h : scal x y = true) : decide (x = y) = PyData.eqv p q := by
  cases hx <;> cases hy <;> first | cases h; done | simp [PyData.eqv]
  all_goals first | rfl | (rw [Bool.eq_iff_iff]; simp)
def rEqB (neg : Bool) : R2D := fun x y S Q => ∃ p q, rd S x = some p ∧ rd S y = some q ∧ eqOk p q ∧ Q (.dat (.bool (if neg then !PyData.eqv p q else PyData.eqv p q))) S
theorem shaped_small {p : PyData} (h : flatP p = true) (hs : ∀ z, p ≠ .str z) : SeqAt.shaped p = true := by
  cases p with
  | str z => exact absurd rfl (hs z)
  | list _ => cases h
  | tuple _ => cases h
  | dict _ => cases h
  | _ => simp [SeqAt.shaped, PyData.canLay0, PyData.depth]
theorem od_eq : OpD K (fun x y H Q => rEq x y H Q ∨ rEqD K x y H Q) (rEqB false) := by
  intro G φ S H x y v u Q Q' r dx dy dn ⟨p, q, h1, h2, ok, q'⟩
  have e1 := r.rd dx h1
  have e2 := r.rd dy h2
  have deep : SeqAt.shaped p = true → SeqAt.shaped q = true → rEqD K v u H Q := fun s1 s2 => ⟨p, q, e1.dp r.sub, e2.dp r.sub, s1, s2, dn _ _ _ _ _ _ q' .refl r (.bl _)⟩
  rcases ok with ⟨f1, f2⟩ | ⟨s1, s2⟩
  · by_cases hs : scal v u = true
    · exact .inl ⟨hs, by rw [eq_scal (e1.flat f1).1 (e2.flat f2).1 hs]; exact dn _ _ _ _ _ _ q' .refl r (.bl _)⟩
    · refine .inr (deep (shaped_small f1 fun z e => ?_) (shaped_small f2 fun z e => ?_))
      · subst e
        have := (e1.flat f1).1
        cases this
        have h3 := (e2.flat f2).1
        cases h3 <;> first | exact hs rfl | cases f2
      · subst e
        have := (e2.flat f2).1
        cases this
        have h3 := (e1.flat f1).1
        cases h3 <;> first | exact hs rfl | cases f1
  · exact .inr (deep s1 s2)
theorem od_ne : OpD K (fun x y H Q => rNe x y H Q ∨ rNeD K x y H Q) (rEqB true) := by
  intro G φ S H x y v u Q Q' r dx dy dn ⟨p, q, h1, h2, ok, q'⟩
  have e1 := r.rd dx h1
  have e2 := r.rd dy h2
  have deep : SeqAt.shaped p = true → SeqAt.shaped q = true → rNeD K v u H Q := fun s1 s2 => ⟨p, q, e1.dp r.sub, e2.dp r.sub, s1, s2, dn _ _ _ _ _ _ q' .refl r (.bl _)⟩
  rcases ok with ⟨f1, f2⟩ | ⟨s1, s2⟩
  · by_cases hs : scal v u = true
    · exact .inl ⟨hs, by rw [eq_scal (e1.flat f1).1 (e2.flat f2).1 hs]; exact dn _ _ _ _ _ _ q' .refl r (.bl _)⟩
    · refine .inr (deep (shaped_small f1 fun z e => ?_) (shaped_small f2 fun z e => ?_))
      · subst e
        have := (e1.flat f1).1
        cases this
        have h3 := (e2.flat f2).1
        cases h3 <;> first | exact hs rfl | cases f2
      · subst e
        have := (e2.flat f2).1
        cases this
        have h3 := (e1.flat f1).1
        cases h3 <;> first | exact hs rfl | cases f1
  · exact .inr (deep s1 s2)
theorem opr_eq (hu : X.A.units + 64 < cLine) : OpR X (compareOp .Eq) (fun x y H Q => rEq x y H Q ∨ rEqD X.K x y H Q) := op_eq.or (op_eqD hu)
theorem opr_ne (hu : X.A.units + 64 < cLine) : OpR X (compareOp .NotEq) (fun x y H Q => rNe x y H Q ∨ rNeD X.K x y H Q) := op_ne.or (op_neD hu)
def rLt : R2D := rInts (fun _ _ => True) fun i j => .bool (decide (i < j))
def rLe : R2D := rInts (fun _ _ => True) fun i j => .bool (decide (i ≤ j))
def rGt : R2D := rInts (fun _ _ => True) fun i j => .bool (decide (j < i))
def rGe : R2D := rInts (fun _ _ => True) fun i j => .bool (decide (j ≤ i))
theorem od_lt : OpD K (rI0 fun i j => .bl (decide (i < j))) rLt := od_ints0 fun _ _ _ => .bl _
theorem od_le : OpD K (rI0 fun i j => .bl (decide (i ≤ j))) rLe := od_ints0 fun _ _ _ => .bl _
theorem od_gt : OpD K (rI0 fun i j => .bl (decide (j < i))) rGt := od_ints0 fun _ _ _ => .bl _
def isN : D → Bool
  | .dat .none => true
  | _ => false
def rIsN (neg : Bool) : R2D := fun x y S Q => y = .dat .none ∧ Q (.dat (.bool (if neg then !isN x else isN x))) S
theorem isN_dv {G : Hp} {φ : List Foot} {v : V} {x : D} (h : DV K G φ v x) : decide (v = .non) = isN x := by
  cases x with
  | dat p => cases h <;> simp [isN]
  | ref i => obtain ⟨f, _, rfl⟩ := h; simp [isN]
  | ty n => rw [show v = .ty n from h]; simp [isN]
  | exc a d C fs => obtain ⟨rfl, _⟩ := h; simp [isN]
  | dct kvs => obtain ⟨a, vs, rfl, _⟩ := h; simp [isN]
  | any => exact decide_eq_false h
  | exk _ _ => obtain ⟨_, _, _, rfl, _⟩ := h; simp [isN]
  | tupK _ _ _ => obtain ⟨_, _, rfl, _⟩ := h; simp [isN]
  | tup ds => obtain ⟨a, vs, rfl, _⟩ := h; simp [isN]
theorem od_isN : OpD K (fun x y H Q => y = .non ∧ Q (.bl (decide (x = .non))) H) (rIsN false) := by
  intro G φ S H x y v u Q Q' r dx dy dn ⟨e, q'⟩
  subst e
  exact ⟨dq_non dy, by rw [isN_dv dx]; exact dn _ _ _ _ _ _ q' .refl r (.bl _)⟩
theorem od_notN : OpD K (fun x y H Q => y = .non ∧ Q (.bl (!decide (x = .non))) H) (rIsN true) := by
  intro G φ S H x y v u Q Q' r dx dy dn ⟨e, q'⟩
  subst e
  exact ⟨dq_non dy, by rw [isN_dv dx]; exact dn _ _ _ _ _ _ q' .refl r (.bl _)⟩
def rowP : PyData → Option (List PyData)
  | .list ds => some ds
  | .tuple ds => some ds
  | _ => none
def inP (p : PyData) (ds : List PyData) : Bool := ds.any fun q => PyData.eqv q p
def rInB (neg : Bool) : R2D := fun x y S Q => ∃ p q, rd S x = some p ∧ rd S y = some q ∧ ((∃ ds, rowP q = some ds ∧ flatP p = true ∧ ds.all flatP = true ∧ Q (.dat (.bool (if neg then !inP p ds else inP p ds))) S) ∨
  ∃ (c : Nat) (z : Str), p = .str ⟨#[c]⟩ ∧ q = .str z ∧ Q (.dat (.bool (if neg then !decide (c ∈ z.cps.toList) else decide (c ∈ z.cps.toList)))) S)
theorem inV_inP {G : Hp} {x : V} {p : PyData} (hx : Dq K G x p) (fp : flatP p = true) : ∀ {vs : List V} {ds : List PyData}, DqAll K G vs ds → ds.all flatP = true → inV x vs = inP p ds ∧ vs.all flatV = true
  | _, _, .nil, _ => ⟨rfl, rfl⟩
  | v :: vs, d :: ds, .cons h r, f => by
    rw [List.all_cons, Bool.and_eq_true] at f
    obtain ⟨h1, h2⟩ := inV_inP hx fp r f.2
    refine ⟨?_, ?_⟩
    · show (eqV v x || inV x vs) = (PyData.eqv d p || inP p ds)
      rw [h1, eqV_eqv h hx f.1 fp]
    · rw [List.all_cons, h2, Bool.and_true]
      have fd := f.1
      cases h <;> first | rfl | (cases fd)
theorem od_in (neg : Bool) {r1 : R2} (hr : r1 = fun x y H Q => ∃ (c : Nat) (z : Str), x = .str ⟨#[c]⟩ ∧ y = .str z ∧ Q (.bl (if neg then !decide (c ∈ z.cps.toList) else decide (c ∈ z.cps.toList))) H) : OpD K (fun x y H Q => rIn K neg x y H Q ∨ r1 x y H Q) (rInB neg) := by
  subst hr
  intro G φ S H x y v u Q Q' r dx dy dn ⟨p, q, h1, h2, h⟩
  have e1 := r.rd dx h1
  have e2 := r.rd dy h2
  rcases h with ⟨ds, h3, h4, h5, q'⟩ | ⟨c, z, rfl, rfl, q'⟩
  · obtain ⟨f1, f2⟩ := e1.flat h4
    have fin : ∀ vs a, u = .ref a → (SqL K H a vs ∨ SqT K H a vs) → DqAll K G vs ds → rIn K neg v u H Q := fun vs a e sq da => by
      obtain ⟨g1, g2⟩ := inV_inP f1 h4 da h5
      exact ⟨a, vs, e, sq, f2, g2, by rw [g1]; exact dn _ _ _ _ _ _ q' .refl r (.bl _)⟩
    cases q with
    | list es => cases h3; obtain ⟨a, vs, e, a1, a2⟩ := e2; exact .inl (fin vs a e (.inl (SqL.of a1)) a2)
    | tuple es => cases h3; obtain ⟨a, vs, e, a1, a2⟩ := e2; exact .inl (fin vs a e (.inr a1) a2)
    | _ => cases h3
  · exact .inr ⟨c, z, dq_str e1, dq_str e2, dn _ _ _ _ _ _ q' .refl r (.bl _)⟩
theorem opr_in : OpR X (compareOp .In) (fun x y H Q => rIn X.K false x y H Q ∨ (∃ (c : Nat) (z : Str), x = .str ⟨#[c]⟩ ∧ y = .str z ∧ Q (.bl (decide (c ∈ z.cps.toList))) H)) := op_in_seq.or op_in_sign
theorem opr_notIn : OpR X (compareOp .NotIn) (fun x y H Q => rIn X.K true x y H Q ∨ (∃ (c : Nat) (z : Str), x = .str ⟨#[c]⟩ ∧ y = .str z ∧ Q (.bl (!decide (c ∈ z.cps.toList))) H)) := op_notIn_seq.or op_notIn_sign
theorem od_in1 : OpD K (fun x y H Q => rIn K false x y H Q ∨ (∃ (c : Nat) (z : Str), x = .str ⟨#[c]⟩ ∧ y = .str z ∧ Q (.bl (decide (c ∈ z.cps.toList))) H)) (rInB false) := od_in false (by simp)
theorem od_in2 : OpD K (fun x y H Q => rIn K true x y H Q ∨ (∃ (c : Nat) (z : Str), x = .str ⟨#[c]⟩ ∧ y = .str z ∧ Q (.bl (!decide (c ∈ z.cps.toList))) H)) (rInB true) := od_in true (by simp)
def atP : PyData → Int → Option PyData
  | .list ds, i => atI ds i
  | .tuple ds, i => atI ds i
  | .str z, i => (atI z.cps.toList i).map fun c => .str ⟨#[c]⟩
  | _, _ => none
def ixB : PyData → Prop
  | .str z => z.length ≤ sizeLine
  | _ => True
def rIxD : R2D := fun x y S Q => ∃ p i, rd S x = some p ∧ y = .dat (.int i) ∧ ixB p ∧ ∃ z, atP p i = some z ∧ Q (.dat z) S
theorem DqAll.atI {G : Hp} {vs : List V} {ds : List PyData} {i : Int} {d : PyData} (h : DqAll K G vs ds) (e : L2.atI ds i = some d) : ∃ v, L2.atI vs i = some v ∧ Dq K G v d := by
  unfold L2.atI at e ⊢
  rw [h.len]
  cases hk : ixN ds.length i with
  | none => rw [hk] at e; cases e
  | some j => rw [hk] at e; exact h.get e
theorem od_ix : OpD K (rIx K) rIxD := by
  intro G φ S H x y v u Q Q' r dx dy dn ⟨p, i, h1, e, hb, z, hz, q'⟩
  subst e
  have e1 := r.rd dx h1
  have e2 := dq_int dy
  cases p with
  | list ds =>
    obtain ⟨a, vs, e, a1, a2⟩ := e1
    obtain ⟨w, h3, h4⟩ := a2.atI hz
    exact .inl ⟨a, vs, i, w, e, e2, SqL.of a1, h3, dn _ _ _ _ _ _ q' .refl r h4⟩
  | tuple ds =>
    obtain ⟨a, vs, e, a1, a2⟩ := e1
    obtain ⟨w, h3, h4⟩ := a2.atI hz
    exact .inr (.inl ⟨a, vs, i, w, e, e2, a1, h3, dn _ _ _ _ _ _ q' .refl r h4⟩)
  | str t =>
    simp only [atP] at hz
    cases hc : L2.atI t.cps.toList i with
    | none => rw [hc] at hz; cases hz
    | some c => rw [hc] at hz; cases hz; exact .inr (.inr ⟨t, i, c, dq_str e1, e2, hb, hc, dn _ _ _ _ _ _ q' .refl r (.str _)⟩)
  | _ => cases hz
theorem de_item {a b : Expr} {ta tb : DE} {pos : Pos} (ha : PE X a (up X.K ta)) (hb : PE X b (up X.K tb)) (hp : PlainIx b := by intro _ _; rfl) : PE X (.Subscript a b pos) (up X.K (dOp rIxD ta tb)) := de_ix ix_seq od_ix ha hb hp
def cutP {α : Type} (xs : List α) (lo hi : Option Int) : List α := (xs.drop (HT.sIx xs.length 0 lo)).take (HT.sIx xs.length xs.length hi - HT.sIx xs.length 0 lo)
abbrev DO := Rh → Os → (Option Int → Os → Prop) → Prop
def DnO (K : PySem.W.Frag) (G : Hp) (φ : List Foot) (H : Hp) (Q : Option Int → Hp → Prop) (Q' : Option Int → Os → Prop) : Prop := ∀ b S' G' φ' H', Q' b S' → Ext G φ H G' φ' H' → Rel K G' φ' S' H' → Q b H'
def upO (K : PySem.W.Frag) (t : DO) : TO := fun σ H Q => ∃ G φ ρ S Q', Rel K G φ S H ∧ Slots K G φ ρ σ ∧ DnO K G φ H Q Q' ∧ t ρ S Q'
def dNoPart : DO := fun _ S Q => Q none S
def dPart (t : DE) : DO := fun ρ S Q => t ρ S fun x S1 => ∃ i, x = .dat (.int i) ∧ Q (some i) S1
theorem _root_.L2.PO.imp {e : Option Expr} {t t' : TO} (h : PO X e t) (i : ∀ σ H Q, t' σ H Q → t σ H Q) : PO X e t' := ⟨fun pins s σ H Q I q => h.run pins s σ H Q I (i σ H Q q)⟩
theorem do_none : PO X none (upO X.K dNoPart) := po_none.imp fun σ H Q ⟨G, φ, ρ, S, Q', r, sl, dn, q⟩ => dn _ _ _ _ _ q .refl r
theorem do_some {e : Expr} {te : DE} (h : PE X e (up X.K te)) : PO X (some e) (upO X.K (dPart te)) := (po_some h).imp fun σ H Q ⟨G, φ, ρ, S, Q', r, sl, dn, q⟩ =>
  ⟨G, φ, ρ, S, _, r, sl, fun d S1 G1 φ1 v H1 q1 e1 r1 dv => by
    obtain ⟨i, rfl, q1⟩ := q1
    exact ⟨i, dq_int dv, dn _ _ _ _ _ q1 e1 r1⟩, q⟩
def slP : PyData → Option Int → Option Int → Option PyData
  | .list ds, lo, hi => some (.list (cutP ds lo hi))
  | .tuple ds, lo, hi => some (.tuple (cutP ds lo hi))
  | .str z, lo, hi => some (.str (cutS z lo hi))
  | _, _, _ => none
def dSl (te : DE) (tl th : DO) : DE := fun ρ S Q => te ρ S fun x S1 => tl ρ S1 fun l S2 => th ρ S2 fun u S3 => ∃ p, rd S3 x = some p ∧ ixB p ∧ ∃ z, slP p l u = some z ∧ Q (.dat z) S3
theorem DqAll.cut {G : Hp} {vs : List V} {ds : List PyData} (h : DqAll K G vs ds) (lo hi : Option Int) : DqAll K G (cutV vs lo hi) (cutP ds lo hi) := by
  unfold cutV cutP
  rw [h.len]
  exact (h.drop _).take _
theorem cutP_all {α : Type} {xs : List α} {lo hi : Option Int} (h1 : HT.sIx xs.length 0 lo = 0) (h2 : HT.sIx xs.length xs.length hi = xs.length) : cutP xs lo hi = xs := by
  unfold cutP
  rw [h1, h2]
  simp
theorem de_slice {e : Expr} {lo hi : Option Expr} {te : DE} {tl th : DO} {p2 pos : Pos} (he : PE X e (up X.K te)) (hl : PO X lo (upO X.K tl)) (hu : PO X hi (upO X.K th)) : PE X (.Subscript e (.Slice lo hi none p2) pos) (up X.K (dSl te tl th)) :=
  (pe_slice (sl_list.or (sl_tupA.or sl_str)) he hl hu).imp fun σ H Q ⟨G, φ, ρ, S, Q', r, sl, dn, q⟩ =>
  ⟨G, φ, ρ, S, _, r, sl, fun d S1 G1 φ1 v H1 q1 e1 r1 dv => ⟨G1, φ1, ρ, S1, _, r1, sl.ext e1, fun l S2 G2 φ2 H2 q2 e2 r2 => ⟨G2, φ2, ρ, S2, _, r2, (sl.ext e1).ext e2, fun u S3 G3 φ3 H3 q3 e3 r3 => (by
    obtain ⟨p, h1, hb, z, hz, q'⟩ := q3
    have dv3 := (dv.ext e2).ext e3
    have ee := (e1.trans e2).trans e3
    have rv := r3.rd dv3 h1
    cases p with
    | list ds =>
      cases hz
      obtain ⟨a, vs, e, a1, a2⟩ := rv
      refine .inl ⟨a, vs, e, SqL.of a1, fun p hp => ?_⟩
      obtain ⟨r4, e4⟩ := r3.newD (o := .lst (cutV vs l u)) hp
      exact dn _ _ _ _ _ _ q' (ee.trans e4) r4 (.lst upd_same ((a2.cut l u).mono e4.g))
    | tuple ds =>
      cases hz
      obtain ⟨a, vs, e, a1, a2⟩ := rv
      refine .inr (.inl ⟨a, vs, e, a1, fun hw => ?_, fun hw p hp => ?_⟩)
      · rw [a2.len] at hw
        rw [cutP_all hw.1 hw.2] at q'
        subst e
        cases d with
        | dat d => cases h1; exact dn _ _ _ _ _ _ q' ee r3 dv3
        | ref i =>
          simp only [rd] at h1
          split at h1 <;> cases h1
        | ty n => cases h1
        | exc _ _ _ _ => cases h1
        | dct _ => cases h1
        | any => cases h1
        | exk _ _ => cases h1
        | tupK _ _ _ => cases h1
        | tup _ => cases h1
      · obtain ⟨r4, e4⟩ := r3.newD (o := .tup (cutV vs l u)) hp
        exact dn _ _ _ _ _ _ q' (ee.trans e4) r4 (.tup (SqT.of upd_same) ((a2.cut l u).mono e4.g))
    | str t => cases hz; exact .inr (.inr ⟨t, dq_str rv, hb, dn _ _ _ _ _ _ q' ee r3 (.str _)⟩)
    | _ => cases hz), q2⟩, q1⟩, q⟩
end
end Rm

set_option Elab.async false
set_option linter.all false
set_option maxRecDepth 100000
set_option maxHeartbeats 4000000
namespace Rm
open PySem PySem.Spec PyProof.Rows L2
def sNext : DSm := fun E ρ S => E.nx ρ S
def sSeq (t u : DSm) : DSm := fun E ρ S => t { E with nx := u E } ρ S
def sDrop (te : DE) : DSm := fun E ρ S => te ρ S fun _ S1 => E.nx ρ S1
def sRet (te : DE) : DSm := fun E ρ S => te ρ S E.rt
def sRetN : DSm := fun E _ S => E.rt (.dat .none) S
def sIf (c : DT) (t u : DSm) : DSm := fun E ρ S => c ρ S fun b S1 => if b = true then t E ρ S1 else u E ρ S1
def sBreak : DSm := fun E ρ S => E.bk ρ S
def sCont : DSm := fun E ρ S => E.ct ρ S
def sAsg (te : DE) (g : DGt) : DSm := fun E ρ S => te ρ S fun x S1 => g x ρ S1 E.nx
def sFrz (i : Nat) (t : DSm) : DSm := fun E ρ S => ∃ h ds, ρ[i]? = some (some (.ref h)) ∧ S[h]? = some (.lst ds) ∧ t E (ρ.set i (some (.dat (.list ds)))) (S.set h .dead)
def dgName (i : Nat) : DGt := fun d ρ S Q => Q (ρ.set i (some d)) S
def dgNil : DGts := fun ds ρ S Q => ds = [] ∧ Q ρ S
def dgCons (t : DGt) (u : DGts) : DGts := fun ds ρ S Q => ∃ d r, ds = d :: r ∧ t d ρ S fun ρ1 S1 => u r ρ1 S1 Q
def dgTup (n : Nat) (t : DGts) : DGt := fun d ρ S Q => ∃ ps, d = .dat (.tuple ps) ∧ ps.length = n ∧ t (ps.map .dat) ρ S Q
section
variable {W : WX} {X : Cx} {st : Stmt} {rest : List Stmt} {t u : DSm} {pos : Pos} {e : Expr} {te : DE}
theorem dss_nil : PSs X [] (upS X.K W sNext) := pss_nil.imp fun E σ H ⟨G, φ, ρ, S, E', r, sl, dn, q⟩ => dn.nx _ _ _ _ _ _ q .refl r sl
theorem dss_cons (h1 : PS X st (upS X.K W t)) (h2 : PSs X rest (upS X.K W u)) : PSs X (st :: rest) (upS X.K W (sSeq t u)) :=
  (pss_cons h1 h2).imp fun E σ H ⟨G, φ, ρ, S, E', r, sl, dn, q⟩ =>
    ⟨G, φ, ρ, S, { E' with nx := u E' }, r, sl, ⟨fun ρ1 S1 G1 φ1 σ1 H1 q1 e1 r1 s1 => ⟨G1, φ1, ρ1, S1, E', r1, s1, dn.ext e1, q1⟩, dn.rt, dn.bk, dn.ct, dn.xr⟩, q⟩
theorem dss_one (h1 : PS X st (upS X.K W t)) : PSs X [st] (upS X.K W t) := pss_one h1
theorem dss_frz {i : Nat} {sts : List Stmt} (h : PSs X sts (upS X.K W t)) : PSs X sts (upS X.K W (sFrz i t)) := h.imp fun E σ H ⟨G, φ, ρ, S, E', r, sl, dn, hh, ds, h1, h2, q⟩ => by
  obtain ⟨v, h3, f, h4, rfl⟩ := sl.get i _ h1
  obtain ⟨G1, r1, e1, d1⟩ := r.frz h4 h2
  exact ⟨G1, φ, _, _, E', r1, (sl.ext e1).setL (d := .dat (.list ds)) i h3 d1, dn.ext e1, q⟩
theorem ds_expr (he : PE X e (up X.K te)) (hs : swapsWith e none pos.line X.env = pure false := by rfl) : PS X (.Expr e pos) (upS X.K W (sDrop te)) :=
  (ps_expr he hs).imp fun E σ H ⟨G, φ, ρ, S, E', r, sl, dn, q⟩ => ⟨G, φ, ρ, S, _, r, sl, fun d S1 G1 φ1 v H1 q1 e1 r1 _ => dn.nx _ _ _ _ _ _ q1 e1 r1 (sl.ext e1), q⟩
theorem ds_ret (he : PE X e (up X.K te)) : PS X (.Return (some e) pos) (upS X.K W (sRet te)) :=
  (ps_ret he).imp fun E σ H ⟨G, φ, ρ, S, E', r, sl, dn, q⟩ => ⟨G, φ, ρ, S, _, r, sl, dn.rt, q⟩
theorem ds_if {c : Expr} {a b : List Stmt} {tc : DT} (hc : PT X c (upT X.K tc)) (ha : PSs X a (upS X.K W t)) (hb : PSs X b (upS X.K W u)) : PS X (.If c a b pos) (upS X.K W (sIf tc t u)) :=
  (ps_if hc ha hb).imp fun E σ H ⟨G, φ, ρ, S, E', r, sl, dn, q⟩ => ⟨G, φ, ρ, S, _, r, sl, fun k S1 G1 φ1 H1 q1 e1 r1 => by
    cases k with
    | true => exact ⟨G1, φ1, ρ, S1, E', r1, sl.ext e1, dn.ext e1, q1⟩
    | false => exact ⟨G1, φ1, ρ, S1, E', r1, sl.ext e1, dn.ext e1, q1⟩, q⟩
theorem _root_.L2.PG.imp {tg : Expr} {g g' : TG} (h : PG X tg g) (i : ∀ v σ H Q, g' v σ H Q → g v σ H Q) : PG X tg g' := ⟨fun pins s σ H v u Q I r q => h.run pins s σ H v u Q I r (i v σ H Q q)⟩
theorem _root_.L2.PGs.imp {tg : List Expr} {g g' : TGs} (h : PGs X tg g) (i : ∀ v σ H Q, g' v σ H Q → g v σ H Q) : PGs X tg g' := ⟨fun pins s σ H v u Q I r q => h.run pins s σ H v u Q I r (i v σ H Q q)⟩
theorem dg_name {i : Nat} {tg : Expr} (h : PG X tg (gName i)) : PG X tg (upG X.K (dgName i)) := h.imp fun v σ H Q ⟨G, φ, ρ, S, d, Q', r, sl, dv, dn, q⟩ => dn _ _ _ _ _ _ q .refl r (sl.set i dv)
theorem dgs_nil : PGs X [] (upGs X.K dgNil) := pgs_nil.imp fun v σ H Q ⟨G, φ, ρ, S, d, Q', r, sl, dv, dn, e, q⟩ => by
  subst e
  cases dv
  exact ⟨rfl, dn _ _ _ _ _ _ q .refl r sl⟩
theorem dgs_cons {es : List Expr} {g : DGt} {gs : DGts} (h1 : PG X e (upG X.K g)) (h2 : PGs X es (upGs X.K gs))
    (hs : (assignEach (e :: es) X.env).map (·.2) = assign e X.env :: (assignEach es X.env).map (·.2) := by rfl) : PGs X (e :: es) (upGs X.K (dgCons g gs)) := (pgs_cons h1 h2 hs).imp fun v σ H Q ⟨G, φ, ρ, S, ds, Q', r, sl, dv, dn, d, rs, e, q⟩ => by
  subst e
  cases dv with
  | cons h t => exact ⟨_, _, rfl, G, φ, ρ, S, d, _, r, sl, h, fun ρ1 S1 G1 φ1 σ1 H1 q1 e1 r1 s1 => ⟨G1, φ1, ρ1, S1, rs, Q', r1, s1, Paired.mapP t fun _ _ z => DV.ext e1 z, dn.ext e1, q1⟩, q⟩
theorem paired_dat {K : PySem.W.Frag} {G : Hp} {φ : List Foot} : ∀ {vs : List V} {ps : List PyData}, DqAll K G vs ps → Paired (DV K G φ) vs (ps.map .dat)
  | _, _, .nil => .nil
  | _, _, .cons h r => .cons h (paired_dat r)
theorem ds_asg {g : DGt} (h : PS X st (tAsg (up X.K te) (upG X.K g))) : PS X st (upS X.K W (sAsg te g)) :=
  h.imp fun E σ H ⟨G, φ, ρ, S, E', r, sl, dn, q⟩ => ⟨G, φ, ρ, S, _, r, sl, fun d S1 G1 φ1 v H1 q1 e1 r1 dv => ⟨G1, φ1, ρ, S1, d, E'.nx, r1, sl.ext e1, dv, dn.nx.ext e1, q1⟩, q⟩
theorem ds_set {i : Nat} (h : PS X st (tAsg (up X.K te) (gName i))) : PS X st (upS X.K W (sAsg te (dgName i))) :=
  h.imp fun E σ H ⟨G, φ, ρ, S, E', r, sl, dn, q⟩ => ⟨G, φ, ρ, S, _, r, sl, fun d S1 G1 φ1 v H1 q1 e1 r1 dv => dn.nx _ _ _ _ _ _ q1 e1 r1 ((sl.ext e1).set i dv), q⟩
def sPar (i j : Nat) (ta : DA) : DSm := fun E ρ S => ta ρ S fun vs S1 => ∃ v w, vs = [v, w] ∧ E.nx ((ρ.set i (some v)).set j (some w)) S1
theorem ds_par {i j : Nat} {ta : DA} (h : PS X st (tPar i j (upA X.K ta))) : PS X st (upS X.K W (sPar i j ta)) := h.imp fun E σ H ⟨G, φ, ρ, S, E', r, sl, dn, q⟩ =>
  ⟨G, φ, ρ, S, _, r, sl, fun ds S1 G1 φ1 vs H1 q1 e1 r1 dv => by
    obtain ⟨v, w, rfl, q1⟩ := q1
    cases dv with
    | cons h1 t => cases t with
      | cons h2 t => cases t; exact ⟨_, _, rfl, dn.nx _ _ _ _ _ _ q1 e1 r1 (((sl.ext e1).set i h1).set j h2)⟩, q⟩
def sAug (i : Nat) (te : DE) (r : R2D) : DSm := fun E ρ S => ∃ x, ρ[i]? = some (some x) ∧ te ρ S fun y S1 => r x y S1 fun z S2 => E.nx (ρ.set i (some z)) S2
end
abbrev DI := Rh → Os → (List D → Os → Prop) → Prop
structure Wk (K : PySem.W.Frag) (G : Hp) (J : It) (xs : List D) : Prop where
  go : ∀ i H, i < xs.length → Same G H → J.go i H
  stop : ∀ H, Same G H → J.stop xs.length H
  yld : ∀ i H v H', i < xs.length → Same G H → J.yld i H v H' → ∃ d, xs[i]? = some d ∧ ∀ G1 φ1 S1, Rel K G1 φ1 S1 H → Same G G1 → ∃ G2, Rel K G2 φ1 S1 H' ∧ Ext G1 φ1 H G2 φ1 H' ∧ DV K G2 φ1 v d
def DnI (K : PySem.W.Frag) (G : Hp) (φ : List Foot) (H : Hp) (R : It → Hp → Prop) (Q' : List D → Os → Prop) : Prop :=
  ∀ xs S' G' φ' H' J, Q' xs S' → Ext G φ H G' φ' H' → Rel K G' φ' S' H' → Wk K G' J xs → R J H'
def upI (K : PySem.W.Frag) (t : DI) : TI := fun σ H R => ∃ G φ ρ S Q', Rel K G φ S H ∧ Slots K G φ ρ σ ∧ DnI K G φ H R Q' ∧ t ρ S Q'
section
variable {K : PySem.W.Frag} {G : Hp}
theorem wk_of {J : It} {n : Nat} {P : Hp → Prop} {vs : Nat → Option V} {xs : List D} (w : Walk J n P (fun i H x H' => H' = H ∧ vs i = some x)) (hn : n = xs.length) (hG : ∀ H, Same G H → P H)
    (hv : ∀ i v, vs i = some v → ∃ d, xs[i]? = some d ∧ ∀ G1 φ1, Same G G1 → DV K G1 φ1 v d) : Wk K G J xs := by
  subst hn
  refine ⟨fun i H hi g => w.goes i H hi (hG H g), fun H g => w.stops H (hG H g), fun i H v H' hi g y => ?_⟩
  obtain ⟨rfl, h2⟩ := w.yields i H v H' hi (hG H g) y
  obtain ⟨d, h3, h4⟩ := hv i v h2
  exact ⟨d, h3, fun G1 φ1 S1 r g1 => ⟨G1, r, .refl, h4 G1 φ1 g1⟩⟩
theorem DqAll.getV : ∀ {ds : List PyData} {vs : List V} {i : Nat} {v : V}, DqAll K G vs ds → vs[i]? = some v → ∃ d, ds[i]? = some d ∧ Dq K G v d
  | _, _, _, _, .nil, e => by simp at e
  | _, _, 0, _, .cons h _, e => by simp at e; subst e; exact ⟨_, rfl, h⟩
  | _, _, i + 1, v, .cons _ r, e => by
    obtain ⟨d, h1, h2⟩ := r.getV (i := i) (v := v) (by simpa using e)
    exact ⟨d, by simpa using h1, h2⟩
theorem wk_list {a : Addr} {vs : List V} {ds : List PyData} (h : G a = some (.lst vs)) (hd : DqAll K G vs ds) : Wk K G (Itl K a) (ds.map .dat) :=
  wk_of (vs := fun i => vs[i]?) (walk_list (xs := vs)) (by rw [List.length_map, hd.len]) (fun H g => SqL.of (g _ _ h)) fun i v e => by
    obtain ⟨d, h1, h2⟩ := hd.getV e
    exact ⟨.dat d, by rw [List.getElem?_map, h1]; rfl, fun G1 φ1 g => Dq.mono g h2⟩
theorem wk_tup {a : Addr} {vs : List V} {ds : List PyData} (h : SqT K G a vs) (hd : DqAll K G vs ds) : Wk K G (Itt K a) (ds.map .dat) :=
  wk_of (vs := fun i => vs[i]?) (walk_tup (xs := vs)) (by rw [List.length_map, hd.len]) (fun H g => sameT g h) fun i v e => by
    obtain ⟨d, h1, h2⟩ := hd.getV e
    exact ⟨.dat d, by rw [List.getElem?_map, h1]; rfl, fun G1 φ1 g => Dq.mono g h2⟩
def ranD (lo : Int) (n : Nat) : List D := (List.range n).map fun (i : Nat) => .dat (.int (lo + i))
theorem wk_range {lo : Int} {n : Nat} : Wk K G (Itr lo n) (ranD lo n) := by
  refine ⟨fun i H hi _ => ?_, fun H _ => ?_, fun i H v H' hi _ y => ?_⟩
  · show i < n
    simpa [ranD] using hi
  · show n ≤ _
    simp [ranD]
  · obtain ⟨rfl, rfl⟩ := y
    have : i < n := by simpa [ranD] using hi
    exact ⟨.dat (.int (lo + i)), by simp [ranD, this], fun G1 φ1 S1 r _ => ⟨G1, r, .refl, .int _⟩⟩
def sgnD (z : Str) : List D := z.cps.toList.map fun c => .dat (.str ⟨#[c]⟩)
theorem wk_str {z : Str} : Wk K G (Its z) (sgnD z) := by
  refine ⟨fun i H hi _ => ?_, fun H _ => ?_, fun i H v H' hi _ y => ?_⟩
  · show i < z.cps.size
    simpa [sgnD] using hi
  · show z.cps.size ≤ _
    simp [sgnD]
  · obtain ⟨rfl, c, h, rfl⟩ := y
    exact ⟨.dat (.str ⟨#[c]⟩), by simp [sgnD, h], fun G1 φ1 S1 r _ => ⟨G1, r, .refl, .str _⟩⟩
def enuD (ds : List PyData) : List D := ds.mapIdx fun (i : Nat) d => .dat (.tuple [.int (i : Nat), d])
def zipD (ds es : List PyData) : List D := (ds.zip es).map fun p => .dat (.tuple [p.1, p.2])
end
section
variable {X : Cx} {tg e : Expr} {te : DE} {ta : DA}
def itP : PyData → Option (List D)
  | .list ds => some (ds.map .dat)
  | .tuple ds => some (ds.map .dat)
  | .str z => some (sgnD z)
  | _ => none
def iRow (te : DE) : DI := fun ρ S Q => te ρ S fun x S1 => ∃ p xs, x = .dat p ∧ itP p = some xs ∧ Q xs S1
def tiAny (K : PySem.W.Frag) (tl : TE) : TI := fun σ H R => tl σ H fun x H1 => (∃ a, x = .ref a ∧ (∃ xs, SqL K H1 a xs) ∧ R (Itl K a) H1) ∨ (∃ a, x = .ref a ∧ (∃ xs, SqT K H1 a xs) ∧ R (Itt K a) H1) ∨ ∃ z, x = .str z ∧ R (Its z) H1
theorem pi_any {l : Expr} {tl : TE} (hl : PE X l tl) : PI X tg l (tiAny X.K tl) := by
  refine ⟨fun pins s σ H R I h => ?_⟩
  refine thn (hl.run pins s σ H _ I h) fun v s1 ⟨x, H1, I1, r1, q1⟩ => ?_
  rcases q1 with ⟨a, e, ⟨xs, hq⟩, q⟩ | ⟨a, e, ⟨xs, hq⟩, q⟩ | ⟨x, ex, q⟩
  · subst e
    cases r1
    obtain ⟨its, rv, p, hz⟩ := I1.list hq
    refine wpAny_pyIter_list p.isList ?_
    refine ⟨s1.heap.objs.size, [s1.heap.objs.size], _, _, H1, rfl, I1.kept (t' := s1.toks) fun b o e => Heap.get?_push_of_some _ e, turn_list a _, ⟨_, Heap.get?_push_size _ rfl, rfl, rfl⟩, fun b hb => ?_, q⟩
    have e : b = s1.heap.objs.size := by simpa using hb
    subst e
    exact I1.fpOk (Nat.le_refl _) (I1.hok.fresh (Nat.le_refl _))
  · subst e
    cases r1
    obtain ⟨its, rv, p, hz⟩ := I1.tuple hq
    refine wpAny_pyIter_tuple (show s1.heap.IsTuple a its.toArray from p) ?_
    refine ⟨s1.heap.objs.size, [s1.heap.objs.size], _, _, H1, rfl, I1.kept (t' := s1.toks) fun b o e => Heap.get?_push_of_some _ e, turn_tuple a _, ⟨_, Heap.get?_push_size _ rfl, rfl, rfl⟩, fun b hb => ?_, q⟩
    have e : b = s1.heap.objs.size := by simpa using hb
    subst e
    exact I1.fpOk (Nat.le_refl _) (I1.hok.fresh (Nat.le_refl _))
  · subst ex
    obtain ⟨t, rfl⟩ := r1
    cases ha : x.cps.all (· < 128)
    · exact wpAny_pyIter_wide ha (pi_one (tk := s1.toks) I1 _ (turn_str _ x t "str_iterator" (.inr rfl)) ⟨_, Heap.get?_push_size _ rfl, rfl, rfl⟩ q)
    · exact wpAny_pyIter_ascii ha (pi_one (tk := s1.toks) I1 _ (turn_str _ x t "str_ascii_iterator" (.inl rfl)) ⟨_, Heap.get?_push_size _ rfl, rfl, rfl⟩ q)
theorem di_row (h : PE X e (up X.K te)) : PI X tg e (upI X.K (iRow te)) := (pi_any h).imp fun σ H R ⟨G, φ, ρ, S, Q', r, sl, dn, q⟩ =>
  ⟨G, φ, ρ, S, _, r, sl, fun d S1 G1 φ1 v H1 q1 e1 r1 dv => (by
    obtain ⟨p, xs, rfl, hp, q1⟩ := q1
    cases dv with
    | lst a b => cases hp; exact .inl ⟨_, rfl, ⟨_, SqL.of (r1.sub _ _ a)⟩, dn _ _ _ _ _ _ q1 e1 r1 (wk_list a b)⟩
    | tup a b => cases hp; exact .inr (.inl ⟨_, rfl, ⟨_, sameT r1.sub a⟩, dn _ _ _ _ _ _ q1 e1 r1 (wk_tup a b)⟩)
    | str z => cases hp; exact .inr (.inr ⟨_, rfl, dn _ _ _ _ _ _ q1 e1 r1 wk_str⟩)
    | _ => cases hp), q⟩
def iRan1 (ta : DA) : DI := fun ρ S Q => ta ρ S fun ds S1 => ∃ j : Int, ds = [.dat (.int j)] ∧ -(2 ^ 62) ≤ j ∧ j < 2 ^ 62 ∧ Q (ranD 0 j.toNat) S1
def iRan2 (ta : DA) : DI := fun ρ S Q => ta ρ S fun ds S1 => ∃ i j : Int, ds = [.dat (.int i), .dat (.int j)] ∧ (-(2 ^ 62) ≤ i ∧ i < 2 ^ 62 ∧ -(2 ^ 62) ≤ j ∧ j < 2 ^ 62) ∧ Q (ranD i (j - i).toNat) S1
theorem di_ran1 (h : PI X tg e (iRng1 (upA X.K ta))) : PI X tg e (upI X.K (iRan1 ta)) := h.imp fun σ H R ⟨G, φ, ρ, S, Q', r, sl, dn, q⟩ =>
  ⟨G, φ, ρ, S, _, r, sl, fun ds S1 G1 φ1 vs H1 q1 e1 r1 dv => by
    obtain ⟨j, rfl, h1, h2, q1⟩ := q1
    cases dv with
    | cons a b => cases b; exact ⟨j, by rw [dq_int a], h1, h2, dn _ _ _ _ _ _ q1 e1 r1 wk_range⟩, q⟩
def iEnu (ta : DA) : DI := fun ρ S Q => ta ρ S fun ds S1 => ∃ xs, ds = [.dat (.list xs)] ∧ Q (enuD xs) S1
def iZp (ta : DA) : DI := fun ρ S Q => ta ρ S fun ds S1 => ∃ xs ys, ds = [.dat (.list xs), .dat (.list ys)] ∧ Q (zipD xs ys) S1
end
def loop (g : DGt) (tb : DSm) (E : DEnds) : List D → Rh → Os → Prop
  | [], ρ, S => E.nx ρ S
  | x :: xs, ρ, S => g x ρ S fun ρ2 S2 => tb { E with nx := loop g tb E xs, ct := loop g tb E xs, bk := E.nx } ρ2 S2
def sFor (it : DI) (g : DGt) (tb : DSm) : DSm := fun E ρ S => it ρ S fun xs S1 => loop g tb E xs ρ S1
def wloop (c : DT) (tb : DSm) (E : DEnds) : Nat → Rh → Os → Prop
  | 0, _, _ => False
  | n + 1, ρ, S => c ρ S fun b S1 => if b = true then tb { E with nx := wloop c tb E n, ct := wloop c tb E n, bk := E.nx } ρ S1 else E.nx ρ S1
def sWhile (c : DT) (tb : DSm) : DSm := fun E ρ S => ∃ n, wloop c tb E n ρ S
section
variable {W : WX} {X : Cx} {st : Stmt} {it : DI} {g : DGt} {tb : DSm} {c : DT}
theorem drop_cons {α : Type} {xs : List α} {i : Nat} {x : α} (h : xs[i]? = some x) : xs.drop i = x :: xs.drop (i + 1) := by
  obtain ⟨h1, h2⟩ := List.getElem?_eq_some_iff.mp h
  rw [List.drop_eq_getElem_cons h1, h2]
theorem ds_for (h : PS X st (tFor (upI X.K it) (upG X.K g) (upS X.K W tb))) : PS X st (upS X.K W (sFor it g tb)) := h.imp fun E σ H ⟨G, φ, ρ, S, E', r, sl, dn, q⟩ =>
  ⟨G, φ, ρ, S, _, r, sl, fun xs S1 G1 φ1 H1 J q1 e1 r1 wk => by
    refine ⟨fun i m σ' H' => m = xs.length - i ∧ i ≤ xs.length ∧ ∃ G2 φ2 ρ2 S2, Ext G1 φ1 H1 G2 φ2 H' ∧ Rel X.K G2 φ2 S2 H' ∧ Slots X.K G2 φ2 ρ2 σ' ∧ loop g tb E' (xs.drop i) ρ2 S2, ⟨_, rfl, Nat.zero_le _, G1, φ1, ρ, S1, .refl, r1, sl.ext e1, q1⟩, ?_⟩
    rintro i m σ' H' ⟨rfl, hi, G2, φ2, ρ2, S2, e2, r2, s2, q2⟩
    have sg : Same G1 H' := fun b o z => r2.sub _ _ (e2.g _ _ z)
    by_cases hlt : i < xs.length
    · refine .inr ⟨wk.go i H' hlt sg, fun σ3 H3 => i + 1 ≤ xs.length ∧ ∃ G2 φ2 ρ2 S2, Ext G1 φ1 H1 G2 φ2 H3 ∧ Rel X.K G2 φ2 S2 H3 ∧ Slots X.K G2 φ2 ρ2 σ3 ∧ loop g tb E' (xs.drop (i + 1)) ρ2 S2, fun σ3 H3 z => ⟨_, by omega, rfl, z.1, z.2⟩, fun v H3 y => ?_⟩
      obtain ⟨d, hd, hy⟩ := wk.yld i H' v H3 hlt sg y
      obtain ⟨G3, r3, e3, dv⟩ := hy G2 φ2 S2 r2 e2.g
      rw [drop_cons hd] at q2
      refine ⟨G3, φ2, ρ2, S2, d, _, r3, s2.ext e3, dv, fun ρ4 S4 G4 φ4 σ4 H4 q4 e4 r4 s4 => ?_, q2⟩
      have e14 := (e2.trans e3).trans e4
      have nxt : DnR X.K G4 φ4 H4 (fun σ3 H3 => i + 1 ≤ xs.length ∧ ∃ G2 φ2 ρ2 S2, Ext G1 φ1 H1 G2 φ2 H3 ∧ Rel X.K G2 φ2 S2 H3 ∧ Slots X.K G2 φ2 ρ2 σ3 ∧ loop g tb E' (xs.drop (i + 1)) ρ2 S2) (loop g tb E' (xs.drop (i + 1))) :=
        fun ρ5 S5 G5 φ5 σ5 H5 q5 e5 r5 s5 => ⟨hlt, G5, φ5, ρ5, S5, e14.trans e5, r5, s5, q5⟩
      exact ⟨G4, φ4, ρ4, S4, { E' with nx := loop g tb E' (xs.drop (i + 1)), ct := loop g tb E' (xs.drop (i + 1)), bk := E'.nx }, r4, s4, ⟨nxt, dn.rt.ext (e1.trans e14), dn.nx.ext (e1.trans e14), nxt, dn.xr.ext (e1.trans e14)⟩, q4⟩
    · have e : i = xs.length := by omega
      subst e
      rw [List.drop_length] at q2
      exact .inl ⟨wk.stop H' sg, dn.nx _ _ _ _ _ _ q2 (e1.trans e2) r2 s2⟩, q⟩
theorem ds_while (h : PS X st (tWhile (upT X.K c) (upS X.K W tb))) : PS X st (upS X.K W (sWhile c tb)) := h.imp fun E σ H ⟨G, φ, ρ, S, E', r, sl, dn, n, q⟩ => by
  refine ⟨fun m σ' H' => ∃ G2 φ2 ρ2 S2, Ext G φ H G2 φ2 H' ∧ Rel X.K G2 φ2 S2 H' ∧ Slots X.K G2 φ2 ρ2 σ' ∧ wloop c tb E' m ρ2 S2, ⟨n, G, φ, ρ, S, .refl, r, sl, q⟩, ?_⟩
  rintro m σ' H' ⟨G2, φ2, ρ2, S2, e2, r2, s2, q2⟩
  cases m with
  | zero => exact q2.elim
  | succ m =>
    refine ⟨G2, φ2, ρ2, S2, _, r2, s2, fun b S3 G3 φ3 H3 q3 e3 r3 => ?_, q2⟩
    have e13 := e2.trans e3
    cases b with
    | false => exact dn.nx _ _ _ _ _ _ q3 e13 r3 (s2.ext e3)
    | true =>
      refine ⟨fun σ3 H3 => ∃ G2 φ2 ρ2 S2, Ext G φ H G2 φ2 H3 ∧ Rel X.K G2 φ2 S2 H3 ∧ Slots X.K G2 φ2 ρ2 σ3 ∧ wloop c tb E' m ρ2 S2, fun σ3 H3 z => ⟨m, Nat.lt_succ_self _, z⟩, ?_⟩
      have nxt : DnR X.K G3 φ3 H3 (fun σ3 H3 => ∃ G2 φ2 ρ2 S2, Ext G φ H G2 φ2 H3 ∧ Rel X.K G2 φ2 S2 H3 ∧ Slots X.K G2 φ2 ρ2 σ3 ∧ wloop c tb E' m ρ2 S2) (wloop c tb E' m) :=
        fun ρ5 S5 G5 φ5 σ5 H5 q5 e5 r5 s5 => ⟨G5, φ5, ρ5, S5, e13.trans e5, r5, s5, q5⟩
      exact ⟨G3, φ3, ρ2, S3, { E' with nx := wloop c tb E' m, ct := wloop c tb E' m, bk := E'.nx }, r3, s2.ext e3, ⟨nxt, dn.rt.ext e13, dn.nx.ext e13, nxt, dn.xr.ext e13⟩, q3⟩
end
end Rm

set_option Elab.async false
set_option linter.all false
set_option maxRecDepth 100000
set_option maxHeartbeats 4000000
namespace Rm
open PySem PySem.Spec PyProof.Rows L2
inductive Tg where
  | one (j : Nat)
  | tup (js : List Nat)
  | nest (i : Nat) (js : List Nat)
def Tg.own : Tg → List Nat
  | .one j => [j]
  | .tup js => js
  | .nest i js => i :: js
def setsR (σ : L2.St) : List Nat → List V → L2.St
  | j :: js, v :: vs => setsR (σ.set j (some v)) js vs
  | _, _ => σ
def setsD (ρ : Rh) : List Nat → List PyData → Rh
  | j :: js, p :: ps => setsD (ρ.set j (some (.dat p))) js ps
  | _, _ => ρ
def wipeD (ρ : Rh) : List Nat → Rh
  | [] => ρ
  | v :: vs => (wipeD ρ vs).set v none
def gNames : List Nat → TGs
  | [] => gNil
  | j :: js => gCons (gName j) (gNames js)
def Tg.raw (K : PySem.W.Frag) : Tg → TG
  | .one j => gName j
  | .tup js => gTup K js.length (gNames js)
  | .nest i js => gTup K 2 (gCons (gName i) (gCons (gTup K js.length (gNames js)) gNil))
def Tg.put : Tg → D → Rh → (Rh → Prop) → Prop
  | .one j, d, ρ, Q => Q (ρ.set j (some d))
  | .tup js, d, ρ, Q => ∃ ps, d = .dat (.tuple ps) ∧ ps.length = js.length ∧ Q (setsD ρ js ps)
  | .nest i js, d, ρ, Q => ∃ p ps, d = .dat (.tuple [p, .tuple ps]) ∧ ps.length = js.length ∧ Q (setsD (ρ.set i (some (.dat p))) js ps)
def lcL (g : Tg) (tt : DT) (te : DE) (ρ : Rh) : List D → Os → (List PyData → Os → Prop) → Prop
  | [], S, Q => Q [] S
  | x :: xs, S, Q => g.put x ρ fun ρ2 => tt ρ2 S fun b S3 => if b = true then te ρ2 S3 fun y S4 => ∃ p, y = .dat p ∧ lcL g tt te ρ xs S4 fun ys S5 => Q (p :: ys) S5 else lcL g tt te ρ xs S3 Q
def dLc (it : DI) (g : Tg) (tt : DT) (te : DE) : DE := fun ρ S Q => it ρ S fun xs S1 => xs.length ≤ 1000000 ∧ lcL g tt te (wipeD ρ g.own) xs S1 fun ys S2 => Q (.dat (.list ys)) S2
def dYes : DT := fun _ S Q => Q true S
theorem wipe_set {σ : L2.St} {j : Nat} {v : Option V} : ∀ {js : List Nat}, j ∈ js → wipe (σ.set j v) js = wipe σ js
  | k :: js, h => by
    by_cases e : j = k
    · subst e
      show (wipe (σ.set j v) js).set j none = (wipe σ js).set j none
      by_cases h2 : j ∈ js
      · rw [wipe_set h2]
      · have : ∀ (js : List Nat), j ∉ js → wipe (σ.set j v) js = (wipe σ js).set j v := by
          intro js
          induction js with
          | nil => intro _; rfl
          | cons k js ih =>
            intro h
            simp only [List.mem_cons, not_or] at h
            show (wipe (σ.set j v) js).set k none = ((wipe σ js).set k none).set j v
            rw [ih h.2, List.set_comm _ _ h.1]
        rw [this js h2, List.set_set]
    · have h2 : j ∈ js := by
        rcases List.mem_cons.mp h with q | q
        · exact absurd q e
        · exact q
      show (wipe (σ.set j v) js).set k none = (wipe σ js).set k none
      rw [wipe_set h2]
theorem wipe_sets {js0 : List Nat} : ∀ {js : List Nat} {vs : List V} {σ : L2.St}, (∀ j ∈ js, j ∈ js0) → wipe (setsR σ js vs) js0 = wipe σ js0
  | [], _, _, _ => by simp [setsR]
  | _ :: _, [], _, _ => by simp [setsR]
  | j :: js, v :: vs, σ, h => by
    simp only [setsR]
    rw [wipe_sets fun k hk => h k (List.mem_cons_of_mem _ hk), wipe_set (h j (List.mem_cons_self ..))]
theorem wipe_wipe {σ : L2.St} : ∀ (js : List Nat) {ks : List Nat}, (∀ k ∈ ks, k ∈ js) → wipe (wipe σ ks) js = wipe σ js
  | js, [], _ => rfl
  | js, k :: ks, h => by
    show wipe ((wipe σ ks).set k none) js = _
    rw [wipe_set (h k (List.mem_cons_self ..)), wipe_wipe js fun j hj => h j (List.mem_cons_of_mem _ hj)]
theorem gNames_run {Q : L2.St → Hp → Prop} {H : Hp} : ∀ {js : List Nat} {vs : List V} {σ : L2.St}, vs.length = js.length → Q (setsR σ js vs) H → gNames js vs σ H Q
  | [], [], σ, _, q => ⟨rfl, q⟩
  | j :: js, v :: vs, σ, h, q => ⟨v, vs, rfl, gNames_run (by simpa using h) q⟩
  | [], _ :: _, _, h, _ => by simp at h
  | _ :: _, [], _, h, _ => by simp at h
section
variable {K : PySem.W.Frag} {G H : Hp} {φ : List Foot} {S : Os} {ρ : Rh} {σ : L2.St}
theorem Slots.wipes (s : Slots K G φ ρ σ) : ∀ js : List Nat, Slots K G φ (wipeD ρ js) (L2.wipe σ js)
  | [] => s
  | j :: js => (s.wipes js).wipe j
theorem Slots.sets : ∀ {js : List Nat} {ps : List PyData} {vs : List V} {ρ : Rh} {σ : L2.St}, Slots K G φ ρ σ → DqAll K G vs ps → Slots K G φ (setsD ρ js ps) (setsR σ js vs)
  | [], _, _, _, _, s, _ => by simpa [setsD, setsR] using s
  | _ :: _, _, _, _, _, s, .nil => by simpa [setsD, setsR] using s
  | j :: js, _, _, _, _, s, .cons h r => by
    simp only [setsD, setsR]
    exact Slots.sets (s.set (d := .dat _) j h) r
theorem Rel.skip {p : Addr} {o : HO} (r : Rel K G φ S H) (h1 : p ∉ zs φ) (h2 : G p = none) : Rel K G φ S (upd H p o) := by
  refine ⟨fun b u e => ?_, r.len, r.nd, fun a m => ?_, fun i f ob h3 h4 => ?_, r.off⟩
  · rw [upd_ne fun q => by subst q; rw [h2] at e; cases e]
    exact r.sub b u e
  · rw [upd_ne fun (q : a = p) => h1 (by rw [← q]; exact m)]
    exact r.on a m
  · exact (r.ob i f ob h3 h4).stay fun a m => upd_ne fun (q : a = p) => h1 (by rw [← q]; exact mem_zs h3 m)
end
section
variable {X : Cx}
theorem lc_gen {it : DI} {g : Tg} {tt : DT} {te : DE} {σ : L2.St} {H : Hp} {Q : VK} {R' : List PyData → Os → Prop} {G : Hp} {φ : List Foot} {ρ : Rh} {S : Os} (r : Rel X.K G φ S H) (sl : Slots X.K G φ ρ σ)
    (fin' : ∀ (D : Addr) (ps : List PyData) (acc : List V) G1 φ1 H1 G2 φ2 S2 H', R' ps S2 → Ext G φ H G1 φ1 H1 → Ext G1 φ1 H1 G2 φ2 H' → Rel X.K G2 φ2 S2 H' → H1 D = none → H' D = some (.lst acc) → DqAll X.K G2 acc ps → D ∉ zs φ2 → G2 D = none → Q (.ref D) H')
    (q : it ρ S fun xs S1 => xs.length ≤ 1000000 ∧ lcL g tt te (wipeD ρ g.own) xs S1 R') : tLc (upI X.K it) (g.raw X.K) (upT X.K tt) (up X.K te) g.own σ H Q := by
  refine ⟨G, φ, ρ, S, _, r, sl, fun xs S1 G1 φ1 H1 J q1 e1 r1 wk => ?_, q⟩
  obtain ⟨hl, q1⟩ := q1
  intro D nD
  have g1D : G1 D = none := r1.sub.free nD
  have d1 : D ∉ zs φ1 := fun m => r1.on D m nD
  have e0 : Ext G1 φ1 H1 G1 φ1 (upd H1 D (.lst [])) := ⟨.refl _, ⟨[], by simp⟩, fun a o _ z => same_new nD _ a o z, fun a h1 h2 => absurd h1 h2, fun _ h1 h2 => absurd h1 h2⟩
  have slw := (sl.ext e1).wipes g.own
  let P := fun (i : Nat) (H' : Hp) => i ≤ xs.length ∧ ∃ G2 φ2 S2 acc ps, Ext G1 φ1 H1 G2 φ2 H' ∧ Rel X.K G2 φ2 S2 H' ∧ H' D = some (.lst acc) ∧ DqAll X.K G2 acc ps ∧ D ∉ zs φ2 ∧ G2 D = none ∧ acc.length ≤ i ∧ lcL g tt te (wipeD ρ g.own) (xs.drop i) S2 fun ys S3 => R' (ps ++ ys) S3
  refine ⟨fun i m H' => m = xs.length - i ∧ P i H', ⟨_, rfl, Nat.zero_le _, G1, φ1, S1, [], [], e0, r1.skip d1 g1D, upd_same, .nil, d1, g1D, Nat.zero_le _, q1⟩, ?_⟩
  rintro i m H' ⟨rfl, hi, G2, φ2, S2, acc, ps, e2, r2, hD, hda, d2, g2D, hal, q2⟩
  have sg : Same G1 H' := fun b o z => r2.sub _ _ (e2.g _ _ z)
  by_cases hlt : i < xs.length
  · refine .inr ⟨wk.go i H' hlt sg, P (i + 1), fun H3 z => ⟨_, by omega, rfl, z⟩, fun v H3 y => ?_⟩
    obtain ⟨d, hd, hy⟩ := wk.yld i H' v H3 hlt sg y
    obtain ⟨G3, r3, e3, dv⟩ := hy G2 φ2 S2 r2 e2.g
    rw [drop_cons hd] at q2
    have e13 := e2.trans e3
    -- what stays of the list under way
    have keepD : ∀ {Ga φa Ha Gb φb Hb} {a : List V}, Ext Ga φa Ha Gb φb Hb → D ∉ zs φa → Ga D = none → Ha D = some (.lst a) → D ∉ zs φb ∧ Gb D = none ∧ Hb D = some (.lst a) := by
      intro Ga φa Ha Gb φb Hb a e n1 n2 n3
      refine ⟨fun m => ?_, ?_, e.fr _ _ n1 n3⟩
      · have := e.pn D m n1
        rw [this] at n3; cases n3
      · cases q : Gb D with
        | none => rfl
        | some o =>
          rcases e.gn D n2 (by rw [q]; exact fun z => nomatch z) with z | z
          · rw [z] at n3; cases n3
          · exact absurd z n1
    obtain ⟨d3, g3D, h3D⟩ := keepD e3 d2 g2D hD
    have sl3 : Slots X.K G3 φ2 (wipeD ρ g.own) (wipe σ g.own) := slw.ext e13
    have fin : ∀ σ2 ρ2, wipe σ2 g.own = wipe σ g.own → Slots X.K G3 φ2 ρ2 σ2 →
        (tt ρ2 S2 fun b S3 => if b = true then te ρ2 S3 fun y S4 => ∃ p, y = .dat p ∧ lcL g tt te (wipeD ρ g.own) (xs.drop (i + 1)) S4 fun ys S5 => R' (ps ++ (p :: ys)) S5 else lcL g tt te (wipeD ρ g.own) (xs.drop (i + 1)) S3 fun ys S3 => R' (ps ++ ys) S3) →
        wipe σ2 g.own = wipe σ g.own ∧ upT X.K tt σ2 H3 fun b H4 => if b = true then up X.K te σ2 H4 fun y H5 => ∃ acc, H5 D = some (.lst acc) ∧ acc.length < sizeLine ∧ P (i + 1) (upd H5 D (.lst (acc ++ [y]))) else P (i + 1) H4 := by
      intro σ2 ρ2 hw s2 z
      refine ⟨hw, G3, φ2, ρ2, S2, _, r3, s2, fun b S4 G4 φ4 H4 q4 e4 r4 => ?_, z⟩
      obtain ⟨d4, g4D, h4D⟩ := keepD e4 d3 g3D h3D
      have e14 := e13.trans e4
      cases b with
      | false => exact ⟨hlt, G4, φ4, S4, acc, ps, e14, r4, h4D, hda.mono (e3.g.trans e4.g), d4, g4D, by omega, q4⟩
      | true =>
        refine ⟨G4, φ4, ρ2, S4, _, r4, s2.ext e4, fun y S5 G5 φ5 w H5 q5 e5 r5 dw => ?_, q4⟩
        obtain ⟨p, rfl, q5⟩ := q5
        obtain ⟨d5, g5D, h5D⟩ := keepD e5 d4 g4D h4D
        have e15 := e14.trans e5
        refine ⟨acc, h5D, Nat.lt_of_le_of_lt (show acc.length ≤ 1000000 by omega) (by decide), hlt, G5, φ5, S5, acc ++ [w], ps ++ [p], ?_, r5.skip d5 g5D, upd_same, (hda.mono ((e3.g.trans e4.g).trans e5.g)).app (.cons dw .nil), d5, g5D, by simp; omega, ?_⟩
        · refine ⟨e15.g, e15.p, fun a o n h => ?_, e15.gn, e15.pn⟩
          rw [upd_ne fun z => by subst z; rw [nD] at h; cases h]
          exact e15.fr a o n h
        · simpa [List.append_assoc] using q5
    cases g with
    | one j =>
      refine fin _ _ ?_ (sl3.set j dv) q2
      rw [wipe_set (by simp [Tg.own])]
      exact wipe_wipe _ fun k h => h
    | tup js =>
      obtain ⟨qs, rfl, hql, q2⟩ := q2
      cases dv with
      | tup a1 a2 =>
        refine ⟨_, _, rfl, sameT r3.sub a1, by rw [a2.len]; exact hql, gNames_run (by rw [a2.len]; exact hql) (fin _ _ ?_ (sl3.sets a2) q2)⟩
        show wipe (setsR _ js _) js = _
        rw [wipe_sets fun k h => h]
        exact wipe_wipe _ fun k h => h
    | nest j js =>
      obtain ⟨p, qs, rfl, hql, q2⟩ := q2
      cases dv with
      | tup a1 a2 =>
        cases a2 with
        | cons b1 b2 =>
          cases b2 with
          | cons c1 c2 =>
            cases c2
            cases c1 with
            | tup d1 d2 =>
              refine ⟨_, _, rfl, sameT r3.sub a1, rfl, _, _, rfl, _, _, rfl, ⟨_, _, rfl, sameT r3.sub d1, by rw [d2.len]; exact hql, gNames_run (by rw [d2.len]; exact hql) ⟨rfl, fin _ _ ?_ ((sl3.set j (d := .dat p) b1).sets d2) q2⟩⟩⟩
              show wipe (setsR _ js _) (j :: js) = _
              rw [wipe_sets fun k h => List.mem_cons_of_mem _ h, wipe_set (List.mem_cons_self ..)]
              exact wipe_wipe _ fun k h => h
  · have e : i = xs.length := by omega
    subst e
    rw [List.drop_length] at q2
    simp only [lcL, List.append_nil] at q2
    exact .inl ⟨wk.stop H' sg, fin' D ps acc G1 φ1 H1 G2 φ2 S2 H' q2 e1 e2 r2 nD hD hda d2 g2D⟩
theorem lc_up {it : DI} {g : Tg} {tt : DT} {te : DE} {σ : L2.St} {H : Hp} {Q : VK} (h : up X.K (dLc it g tt te) σ H Q) : tLc (upI X.K it) (g.raw X.K) (upT X.K tt) (up X.K te) g.own σ H Q := by
  obtain ⟨G, φ, ρ, S, Q', r, sl, dn, q⟩ := h
  refine lc_gen r sl (fun D ps acc G1 φ1 H1 G2 φ2 S2 H' q2 e1 e2 r2 nD hD hda d2 g2D => ?_) q
  have gg := same_new g2D (HO.lst acc)
  have r3 : Rel X.K (upd G2 D (.lst acc)) φ2 S2 H' := by
    refine ⟨fun b u e => ?_, r2.len, r2.nd, r2.on, fun i f ob h3 h4 => (r2.ob i f ob h3 h4).mono gg ⟨[], by simp⟩, fun i f ob h3 h4 h5 a m => ?_⟩
    · by_cases z : b = D
      · subst z; rw [upd_same] at e; cases e; exact hD
      · rw [upd_ne z] at e; exact r2.sub b u e
    · rw [upd_ne fun (q : a = D) => d2 (by rw [← q]; exact mem_zs h3 m)]
      exact r2.off i f ob h3 h4 h5 a m
  have e3 : Ext G1 φ1 H1 (upd G2 D (.lst acc)) φ2 H' := ⟨e2.g.trans gg, e2.p, e2.fr, fun a h1 h2 => by
    by_cases z : a = D
    · subst z; exact .inl nD
    · rw [upd_ne z] at h2; exact e2.gn a h1 h2, e2.pn⟩
  exact dn _ _ _ _ _ _ q2 (e1.trans e3) r3 (.lst upd_same (hda.mono gg))
theorem de_lc {e : Expr} {it : DI} {g : Tg} {tt : DT} {te : DE} (h : PE X e (tLc (upI X.K it) (g.raw X.K) (upT X.K tt) (up X.K te) g.own)) : PE X e (up X.K (dLc it g tt te)) := h.imp fun σ H Q q => lc_up q
theorem dts_nil : PTs X [] (upT X.K dYes) := ⟨fun pins s σ H Q I ⟨G, φ, ρ, S, Q', r, sl, dn, q⟩ => pts_nil.run pins s σ H Q I (dn _ _ _ _ _ q .refl r)⟩
theorem dts_one {c : Expr} {t : DT} (h : PT X c (upT X.K t)) : PTs X [c] (upT X.K t) := pts_one h
end
end Rm

set_option Elab.async false
set_option linter.all false
set_option maxRecDepth 100000
set_option maxHeartbeats 4000000
namespace Rm
open PySem PySem.Spec PyProof.Rows L2
section
variable {X : Cx} {K : PySem.W.Frag} {e : Expr} {te to : DE} {ta : DA}
theorem pair1 {G : Hp} {φ : List Foot} {vs : List V} {d : D} (h : Paired (DV K G φ) vs [d]) : ∃ v, vs = [v] ∧ DV K G φ v d := by
  cases h with
  | cons a b => cases b; exact ⟨_, rfl, a⟩
theorem pair2 {G : Hp} {φ : List Foot} {vs : List V} {d d' : D} (h : Paired (DV K G φ) vs [d, d']) : ∃ v v', vs = [v, v'] ∧ DV K G φ v d ∧ DV K G φ v' d' := by
  cases h with
  | cons a b => cases b with
    | cons c d => cases d; exact ⟨_, _, rfl, a, c⟩
def cLen : RCD := fun ds S Q => ∃ x p n, ds = [x] ∧ rd S x = some p ∧ lenP p = some n ∧ ixB p ∧ Q (.dat (.int n)) S
theorem cd_len : CallD K (fun xs H Q => ∃ x n, xs = [x] ∧ LenV K x H n ∧ Q (.int n) H) cLen := by
  rintro G φ S H ds vs Q Q' r dvs dn ⟨x, p, n, rfl, h1, h2, hb, q⟩
  obtain ⟨v, rfl, dv⟩ := pair1 dvs
  have e := r.rd dv h1
  have qq := dn _ _ _ _ _ _ q .refl r (.int _)
  cases p with
  | list ds => cases h2; obtain ⟨a, vs, rfl, a1, a2⟩ := e; exact ⟨_, _, rfl, .inl ⟨vs, SqL.of a1, a2.len.symm⟩, qq⟩
  | tuple ds => cases h2; obtain ⟨a, vs, rfl, a1, a2⟩ := e; exact ⟨_, _, rfl, .inr ⟨vs, a1, a2.len.symm⟩, qq⟩
  | str z => cases h2; exact ⟨_, _, rfl, by rw [dq_str e]; exact ⟨hb, rfl⟩, qq⟩
  | _ => cases h2
def cInt : RCD := fun ds S Q => ∃ p, ds = [.dat p] ∧ match p with
  | .int i => Q (.dat (.int i)) S
  | .bool b => Q (.dat (.int (if b = true then 1 else 0))) S
  | .str z => ∃ n, PySem.intText? z = some n ∧ z.length ≤ 640 ∧ Q (.dat (.int n)) S
  | _ => False
def intR : List V → Hp → VK → Prop := fun xs H Q => ((∃ i, xs = [.int i] ∧ Q (.int i) H) ∨ ∃ k, xs = [.bl k] ∧ Q (.int (if k then 1 else 0)) H) ∨ ∃ a n, xs = [.str a] ∧ PySem.intText? a = some n ∧ a.length ≤ 640 ∧ Q (.int n) H
theorem callR_or {f : Value} {r r' : List V → Hp → VK → Prop} (h : CallR X f r) (h' : CallR X f r') : CallR X f (fun xs H Q => r xs H Q ∨ r' xs H Q) := fun pins s σ H xs us Q I rv q => q.elim (h pins s σ H xs us Q I rv) (h' pins s σ H xs us Q I rv)
theorem cr_int : CallR X (.type "int") intR := callR_or call_int1 call_int_str
theorem cd_int : CallD K intR cInt := by
  rintro G φ S H ds vs Q Q' r dvs dn ⟨p, rfl, q⟩
  obtain ⟨v, rfl, dv⟩ := pair1 dvs
  cases p with
  | int i => exact .inl (.inl ⟨i, by rw [dq_int dv], dn _ _ _ _ _ _ q .refl r (.int _)⟩)
  | bool i => exact .inl (.inr ⟨i, by rw [dq_bl dv], dn _ _ _ _ _ _ q .refl r (.int _)⟩)
  | str i => obtain ⟨n, h1, h2, q⟩ := q; exact .inr ⟨i, n, by rw [dq_str dv], h1, h2, dn _ _ _ _ _ _ q .refl r (.int _)⟩
  | _ => exact q.elim
def cStr : RCD := fun ds S Q => ∃ i : Int, ds = [.dat (.int i)] ∧ i.natAbs.log2 < 1920 ∧ Q (.dat (.str (toString i))) S
def cAbs : RCD := fun ds S Q => ∃ i : Int, ds = [.dat (.int i)] ∧ Q (.dat (.int (if i < 0 then -i else i))) S
theorem cd_abs : CallD K (fun xs H Q => ∃ i, xs = [.int i] ∧ Q (.int (if i < 0 then -i else i)) H) cAbs := by
  rintro G φ S H ds vs Q Q' r dvs dn ⟨i, rfl, q⟩
  obtain ⟨v, rfl, dv⟩ := pair1 dvs
  exact ⟨i, by rw [dq_int dv], dn _ _ _ _ _ _ q .refl r (.int _)⟩
def cMin : RCD := fun ds S Q => ∃ i j : Int, ds = [.dat (.int i), .dat (.int j)] ∧ Q (.dat (.int (if j < i then j else i))) S
def cMax : RCD := fun ds S Q => ∃ i j : Int, ds = [.dat (.int i), .dat (.int j)] ∧ Q (.dat (.int (if j > i then j else i))) S
def cAll : RCD := fun ds S Q => ∃ (ps : List PyData) (bs : List Bool), ds = [.dat (.list ps)] ∧ ps = bs.map PyData.bool ∧ Q (.dat (.bool (bs.all id))) S
def cAny : RCD := fun ds S Q => ∃ (ps : List PyData) (bs : List Bool), ds = [.dat (.list ps)] ∧ ps = bs.map PyData.bool ∧ Q (.dat (.bool (bs.any id))) S
def cSum : RCD := fun ds S Q => ∃ (ps : List PyData) (ns : List Int), ds = [.dat (.list ps)] ∧ ps = ns.map PyData.int ∧ Q (.dat (.int ns.sum)) S
theorem cd_all : CallD K (rAll K) cAll := by
  rintro G φ S H ds vs Q Q' r dvs dn ⟨ps, bs, rfl, rfl, q⟩
  obtain ⟨v, rfl, dv⟩ := pair1 dvs
  cases dv with
  | lst a b => exact ⟨_, bs, rfl, SqL.of (by rw [← dq_bls_inv b]; exact r.sub _ _ a), dn _ _ _ _ _ _ q .refl r (.bl _)⟩
def cList : RCD := fun ds S Q => ∃ x p xs, ds = [x] ∧ rd S x = some p ∧ rowP p = some xs ∧ Q (.dat (.list xs)) S
def cListO : RCD := fun ds S Q => ∃ x p xs, ds = [x] ∧ rd S x = some p ∧ rowP p = some xs ∧ Q (.ref S.length) (S ++ [.lst xs])
def cTuple : RCD := fun ds S Q => ∃ x p xs, ds = [x] ∧ rd S x = some p ∧ rowP p = some xs ∧ Q (.dat (.tuple xs)) S
theorem Rv.row {G H : Hp} {v : V} {p : PyData} {xs : List PyData} (h : Rv K G H v p) (e : rowP p = some xs) : ∃ a vs, v = .ref a ∧ (SqL K H a vs ∨ SqT K H a vs) ∧ DqAll K G vs xs := by
  cases p with
  | list ds => cases e; obtain ⟨a, vs, rfl, a1, a2⟩ := h; exact ⟨a, vs, rfl, .inl (SqL.of a1), a2⟩
  | tuple ds => cases e; obtain ⟨a, vs, rfl, a1, a2⟩ := h; exact ⟨a, vs, rfl, .inr a1, a2⟩
  | _ => cases e
theorem cd_list : CallD K (fun xs H Q => ∃ p ys, xs = [.ref p] ∧ (SqL K H p ys ∨ SqT K H p ys) ∧ ∀ l, H l = none → Q (.ref l) (upd H l (.lst ys))) cList := by
  rintro G φ S H ds vs Q Q' r dvs dn ⟨x, p, xs, rfl, h1, h2, q⟩
  obtain ⟨v, rfl, dv⟩ := pair1 dvs
  obtain ⟨a, ws, rfl, sq, da⟩ := (r.rd dv h1).row h2
  refine ⟨a, ws, rfl, sq, fun l hl => ?_⟩
  obtain ⟨r2, e2⟩ := r.newD (o := .lst ws) hl
  exact dn _ _ _ _ _ _ q e2 r2 (.lst upd_same (da.mono e2.g))
theorem cd_tuple : CallD K (fun xs H Q => ∃ p ys, xs = [.ref p] ∧ ((SqL K H p ys ∧ ∀ l, H l = none → Q (.ref l) (upd H l (.tup ys))) ∨ (SqT K H p ys ∧ Q (.ref p) H))) cTuple := by
  rintro G φ S H ds vs Q Q' r dvs dn ⟨x, p, xs, rfl, h1, h2, q⟩
  obtain ⟨v, rfl, dv⟩ := pair1 dvs
  have rv := r.rd dv h1
  cases p with
  | list es =>
    cases h2
    obtain ⟨a, ws, rfl, a1, a2⟩ := rv
    refine ⟨a, ws, rfl, .inl ⟨SqL.of a1, fun l hl => ?_⟩⟩
    obtain ⟨r2, e2⟩ := r.newD (o := .tup ws) hl
    exact dn _ _ _ _ _ _ q e2 r2 (.tup (SqT.of upd_same) (a2.mono e2.g))
  | tuple es =>
    cases h2
    obtain ⟨a, ws, rfl, a1, a2⟩ := rv
    refine ⟨a, ws, rfl, .inr ⟨a1, ?_⟩⟩
    cases x with
    | dat y => cases h1; exact dn _ _ _ _ _ _ q .refl r dv
    | ref i =>
      simp only [rd] at h1
      split at h1 <;> cases h1
    | ty n => cases h1
    | exc _ _ _ _ => cases h1
    | dct _ => cases h1
    | any => cases h1
    | exk _ _ => cases h1
    | tupK _ _ _ => cases h1
    | tup _ => cases h1
  | _ => cases h2
def dIsi (te : DE) (ts : List String) : DE := fun ρ S Q => te ρ S fun x S1 => ∃ p, rd S1 x = some p ∧ Q (.dat (.bool (ts.any (isT · p)))) S1
def tTys : List String → TA
  | [] => tNil
  | n :: ts => tCons (tC (.ty n)) (tTys ts)
theorem tTys_run {σ : L2.St} {H : Hp} : ∀ {ts : List String} {R : List V → Hp → Prop}, R (ts.map V.ty) H → tTys ts σ H R
  | [], _, h => h
  | n :: ts, R, h => tTys_run (ts := ts) (R := fun vs H2 => R (V.ty n :: vs) H2) h
theorem clsV_ty (n : String) : ClsV (.ty n) (.type n) := .ty n
theorem cls_tys : ∀ ts : List String, Paired ClsV (ts.map V.ty) (ts.map Value.type)
  | [] => .nil
  | n :: ts => .cons (clsV_ty n) (cls_tys ts)
theorem nodict_rv {G H : Hp} {v : V} {p : PyData} (h : Rv K G H v p) : ∀ k, p ≠ .dict k := fun k e => by subst e; cases h
theorem de_isi {n : String} (h : PE X e (tCB (rIsi X.K) (tCons (up X.K te) (tCons (tC (.ty n)) tNil)))) (hn : n = "int" ∨ n = "bool" ∨ n = "str" ∨ n = "tuple" ∨ n = "list") : PE X e (up X.K (dIsi te [n])) := h.imp fun σ H Q ⟨G, φ, ρ, S, Q', r, sl, dn, q⟩ =>
  ⟨G, φ, ρ, S, _, r, sl, fun x S1 G1 φ1 v H1 q1 e1 r1 dv => by
    obtain ⟨p, h1, q1⟩ := q1
    have rv := r1.rd dv h1
    refine ⟨v, .ty n, .type (tyN p), .type n, isT n p, rfl, clsV_ty n, (rv.dp r1.sub).tyx, kit_one (nodict_rv rv) n hn, ?_⟩
    simp only [List.any_cons, List.any_nil, Bool.or_false] at q1
    exact dn _ _ _ _ _ _ q1 e1 r1 (.bl _), q⟩
theorem de_isiT {ts : List String} (h : PE X e (tCB (rIsiT X.K) (tCons (up X.K te) (tCons (tTup (tTys ts)) tNil)))) (hn : ∀ n ∈ ts, n = "int" ∨ n = "bool" ∨ n = "str" ∨ n = "tuple" ∨ n = "list") (hl : ts.length ≤ 1000 := by decide) : PE X e (up X.K (dIsi te ts)) := h.imp fun σ H Q ⟨G, φ, ρ, S, Q', r, sl, dn, q⟩ =>
  ⟨G, φ, ρ, S, _, r, sl, fun x S1 G1 φ1 v H1 q1 e1 r1 dv => by
    obtain ⟨p, h1, q1⟩ := q1
    refine tTys_run ⟨small (by rw [List.length_map]; exact hl), fun a ha => ?_⟩
    obtain ⟨r2, e2⟩ := r1.newD (o := .tup (ts.map V.ty)) ha
    have rv := r2.rd (dv.ext e2) h1
    exact ⟨v, a, _, .type (tyN p), _, _, rfl, upd_same, cls_tys ts, (rv.dp r2.sub).tyx, kit_many (nodict_rv rv) ts hn, dn _ _ _ _ _ _ q1 (e1.trans e2) r2 (.bl _)⟩, q⟩
def dSplit (to te : DE) : DE := fun ρ S Q => to ρ S fun x S1 => ∃ a, x = .dat (.str a) ∧ te ρ S1 fun y S2 => ∃ b, y = .dat (.str b) ∧ (b.length == 0) = false ∧ a.length + 2 ≤ sizeLine ∧ Q (.dat (.list ((Txt.split a b).map PyData.str))) S2
def dJoin (to te : DE) : DE := fun ρ S Q => to ρ S fun x S1 => ∃ a, x = .dat (.str a) ∧ te ρ S1 fun y S2 => ∃ (p : PyData) (xs : List PyData) (ys : List Str), rd S2 y = some p ∧ rowP p = some xs ∧ xs = ys.map PyData.str ∧ (ys.map (·.length)).sum + ys.length * a.length ≤ 16777216 ∧ Q (.dat (.str (Txt.join a ys))) S2
theorem de_join (h : PE X e (tM1 (fun x xs H Q => ∃ a p, ∃ ys : List Str, x = .str a ∧ xs = [.ref p] ∧ (SqL X.K H p (ys.map V.str) ∨ SqT X.K H p (ys.map V.str)) ∧ (ys.map (·.length)).sum + ys.length * a.length ≤ 16777216 ∧ Q (.str (Txt.join a ys)) H) (up X.K to) (up X.K te))) : PE X e (up X.K (dJoin to te)) := h.imp fun σ H Q ⟨G, φ, ρ, S, Q', r, sl, dn, q⟩ =>
  ⟨G, φ, ρ, S, _, r, sl, fun x S1 G1 φ1 v H1 q1 e1 r1 dv => by
    obtain ⟨a, rfl, q1⟩ := q1
    have ev := dq_str dv
    subst ev
    refine ⟨⟨a, rfl⟩, G1, φ1, ρ, S1, _, r1, sl.ext e1, fun y S2 G2 φ2 u H2 q2 e2 r2 du => ?_, q1⟩
    obtain ⟨p, xs, ys, h1, h2, rfl, h3, q2⟩ := q2
    obtain ⟨b, ws, rfl, sq, da⟩ := (r2.rd du h1).row h2
    rw [dq_strs_inv da] at sq
    exact ⟨a, b, ys, rfl, rfl, sq, h3, dn _ _ _ _ _ _ q2 (e1.trans e2) r2 (.str _)⟩, q⟩
def dAppend (to te : DE) : DE := fun ρ S Q => to ρ S fun x S1 => ∃ i, x = .ref i ∧ (∃ ds, S1[i]? = some (.lst ds)) ∧ te ρ S1 fun y S2 => ∃ ds p, S2[i]? = some (.lst ds) ∧ y = .dat p ∧ ds.length < sizeLine ∧ Q (.dat .none) (S2.set i (.lst (ds ++ [p])))
theorem Rel.lstAt {G H : Hp} {φ : List Foot} {S : Os} {i : Nat} {v : V} {ds : List PyData} (r : Rel K G φ S H) (dv : DV K G φ v (.ref i)) (h : S[i]? = some (.lst ds)) :
    ∃ f vs, φ[i]? = some f ∧ v = .ref f.1 ∧ f.2 = [] ∧ H f.1 = some (.lst vs) ∧ DqAll K G vs ds := by
  obtain ⟨f, h1, rfl⟩ := dv
  obtain ⟨h2, vs, h3, h4⟩ := r.ob i f _ h1 h
  exact ⟨f, vs, h1, rfl, h2, h3, h4⟩
theorem Rel.lstPut {G H : Hp} {φ : List Foot} {S : Os} {i : Nat} {f : Foot} {ds ds' : List PyData} {vs' : List V} (r : Rel K G φ S H) (h1 : φ[i]? = some f) (h : S[i]? = some (.lst ds)) (hf : f.2 = []) (hd : DqAll K G vs' ds') :
    Rel K G φ (S.set i (.lst ds')) (upd H f.1 (.lst vs')) ∧ Ext G φ H G φ (upd H f.1 (.lst vs')) := by
  refine r.put h1 h (fun z => nomatch z) (fun a m => upd_ne fun q => m (by rw [q]; exact List.mem_cons_self ..)) (fun a m => ?_) ⟨hf, vs', upd_same, hd⟩
  simp only [Foot.all, hf, List.mem_singleton] at m
  subst m
  rw [upd_same]
  exact fun z => nomatch z
theorem de_append (h : PE X e (tBM X.K "list" rAppend (up X.K to) (tCons (up X.K te) tNil))) : PE X e (up X.K (dAppend to te)) := h.imp fun σ H Q ⟨G, φ, ρ, S, Q', r, sl, dn, q⟩ =>
  ⟨G, φ, ρ, S, _, r, sl, fun x S1 G1 φ1 v H1 q1 e1 r1 dv => by
    obtain ⟨i, rfl, ⟨ds, hd⟩, q1⟩ := q1
    obtain ⟨f, vs, g1, rfl, g2, g3, g4⟩ := r1.lstAt dv hd
    refine ⟨.inl ⟨rfl, vs, SqL.of g3⟩, G1, φ1, ρ, S1, _, r1, sl.ext e1, fun y S2 G2 φ2 u H2 q2 e2 r2 du => ?_, q1⟩
    obtain ⟨ds, p, h1, rfl, h2, q2⟩ := q2
    obtain ⟨f', ws, k1, k2, k3, k4, k5⟩ := r2.lstAt (dv.ext e2) h1
    obtain ⟨r3, e3⟩ := r2.lstPut k1 h1 k3 (k5.app (.cons du .nil))
    have ef : f.1 = f'.1 := by injection k2
    rw [← ef] at k4 r3 e3
    exact ⟨_, ws, u, rfl, rfl, k4, by rw [k5.len]; exact h2, dn _ _ _ _ _ _ q2 ((e1.trans e2).trans e3) r3 .non⟩, q⟩
def dPop (to : DE) : DE := fun ρ S Q => to ρ S fun x S1 => ∃ i ds p, x = .ref i ∧ S1[i]? = some (.lst ds) ∧ ds.getLast? = some p ∧ Q (.dat p) (S1.set i (.lst ds.dropLast))
theorem DqAll.dropLast {G : Hp} {vs : List V} {ds : List PyData} (h : DqAll K G vs ds) : DqAll K G vs.dropLast ds.dropLast := by
  rw [List.dropLast_eq_take, List.dropLast_eq_take, h.len]
  exact h.take _
def dExtend (to te : DE) : DE := fun ρ S Q => to ρ S fun x S1 => ∃ i, x = .ref i ∧ (∃ ds, S1[i]? = some (.lst ds)) ∧ te ρ S1 fun y S2 => ∃ ds es, S2[i]? = some (.lst ds) ∧ y = .dat (.list es) ∧ ds.length + es.length ≤ sizeLine ∧ Q (.dat .none) (S2.set i (.lst (ds ++ es)))
def dgSub (to ti : DE) : DGt := fun d ρ S Q => to ρ S fun x S1 => ti ρ S1 fun y S2 => ∃ i k ds j p, x = .ref i ∧ y = .dat (.int k) ∧ S2[i]? = some (.lst ds) ∧ ixN ds.length k = some j ∧ d = .dat p ∧ Q ρ (S2.set i (.lst (ds.set j p)))
end
end Rm

set_option Elab.async false
set_option linter.all false
set_option maxRecDepth 100000
set_option maxHeartbeats 4000000
namespace Rm
open PySem PySem.Spec PyProof.Rows L2
abbrev Fs := List D → Os → DQ → Prop
def upF (K : PySem.W.Frag) (fs : Fs) : Sp := fun vs H Q _ => ∃ G φ ds S Q', Rel K G φ S H ∧ Paired (DV K G φ) vs ds ∧ Dn K G φ H Q Q' ∧ fs ds S Q'
def hsOf : List D → List Nat
  | [] => []
  | .ref i :: r => if i ∈ hsOf r then hsOf r else i :: hsOf r
  | _ :: r => hsOf r
def D.un (hs : List Nat) : D → D
  | .ref i => .ref (hs.idxOf i)
  | .tup _ => .any
  | d => d
def D.isDat : D → Bool
  | .dat _ => true
  | .dct _ => true
  | .any => true
  | .exk _ _ => true
  | .tupK _ _ _ => true
  | _ => false
def Ob.flat : Ob → Bool
  | .lst _ => true
  | .spr _ => true
  | .dead => true
  | .ins _ fs => fs.all fun p => p.2.isDat
  | .dk kvs => kvs.all fun p => p.2.isDat
  | .mix ds => ds.all fun d => d.isDat
  | .jnk _ => true
  | .tab _ _ => true
  | .dt kvs => kvs.all fun p => p.2.isDat
  | _ => false
def putS (S : Os) : List Nat → Os → Os
  | h :: hs, o :: os => putS (S.set h o) hs os
  | _, _ => S
def callS (fs : Fs) (ds : List D) (S : Os) (Q : DQ) : Prop :=
  (∀ h ∈ hsOf ds, ∃ o, S[h]? = some o ∧ o.flat = true) ∧ fs (ds.map (D.un (hsOf ds))) ((hsOf ds).map fun h => S.getD h .dead) fun d Sc =>
    Sc.all Ob.flat = true ∧ ((Sc.length = (hsOf ds).length ∧ (∃ p, d = .dat p) ∧ Q d (putS S (hsOf ds) Sc)) ∨ (∃ o, Sc.drop (hsOf ds).length = [o] ∧ Sc.length = (hsOf ds).length + 1 ∧ d = .ref (hsOf ds).length ∧ Q (.ref S.length) (putS S (hsOf ds) Sc ++ [o])))
def dCall (fs : Fs) (t : DA) : DE := fun ρ S Q => t ρ S fun ds S1 => callS fs ds S1 Q
theorem mem_hs : ∀ {ds : List D} {i : Nat}, i ∈ hsOf ds ↔ D.ref i ∈ ds
  | [], i => by simp [hsOf]
  | .ref j :: r, i => by
    simp only [hsOf, List.mem_cons, D.ref.injEq]
    split
    · rename_i h
      rw [mem_hs]
      constructor
      · exact .inr
      · rintro (e | e)
        · subst e; exact mem_hs.mp h
        · exact e
    · rw [List.mem_cons, mem_hs]
  | .dat _ :: r, i => by simp [hsOf, mem_hs]
  | .ty _ :: r, i => by simp [hsOf, mem_hs]
  | .exc _ _ _ _ :: r, i => by simp [hsOf, mem_hs]
  | .dct _ :: r, i => by simp [hsOf, mem_hs]
  | .any :: r, i => by simp [hsOf, mem_hs]
  | .exk _ _ :: r, i => by simp [hsOf, mem_hs]
  | .tupK _ _ _ :: r, i => by simp [hsOf, mem_hs]
  | .tup _ :: r, i => by simp [hsOf, mem_hs]
theorem hs_nodup : ∀ ds : List D, (hsOf ds).Nodup
  | [] => by simp [hsOf]
  | .ref j :: r => by
    simp only [hsOf]
    split
    · exact hs_nodup r
    · rename_i h
      exact List.nodup_cons.mpr ⟨h, hs_nodup r⟩
  | .dat _ :: r => by simpa [hsOf] using hs_nodup r
  | .ty _ :: r => by simpa [hsOf] using hs_nodup r
  | .exc _ _ _ _ :: r => by simpa [hsOf] using hs_nodup r
  | .dct _ :: r => by simpa [hsOf] using hs_nodup r
  | .any :: r => by simpa [hsOf] using hs_nodup r
  | .exk _ _ :: r => by simpa [hsOf] using hs_nodup r
  | .tupK _ _ _ :: r => by simpa [hsOf] using hs_nodup r
  | .tup _ :: r => by simpa [hsOf] using hs_nodup r
theorem getD_some {φ : List Foot} {h : Nat} (hl : h < φ.length) : φ[h]? = some (φ.getD h (0, [])) := by
  rw [List.getD_eq_getElem?_getD, List.getElem?_eq_getElem hl]; rfl
theorem zs_sel {φ : List Foot} (nd : (zs φ).Nodup) : ∀ {hs : List Nat}, hs.Nodup → (∀ h ∈ hs, h < φ.length) → (zs (hs.map fun h => φ.getD h (0, []))).Nodup
  | [], _, _ => by simp [zs]
  | h :: hs, n, b => by
    rw [List.map_cons, zs_cons]
    have hn := List.nodup_cons.mp n
    have hb := b h (List.mem_cons_self ..)
    have e : φ[h]? = some (φ.getD h (0, [])) := by rw [List.getD_eq_getElem?_getD, List.getElem?_eq_getElem hb]; rfl
    refine List.nodup_append.mpr ⟨?_, zs_sel nd hn.2 fun k hk => b k (List.mem_cons_of_mem _ hk), fun a ha c hc q => ?_⟩
    · have : ∀ {φ : List Foot} {i : Nat} {f : Foot}, (zs φ).Nodup → φ[i]? = some f → f.all.Nodup := by
        intro φ
        induction φ with
        | nil => intro i f _ h; simp at h
        | cons g φ ih =>
          intro i f nd h
          rw [zs_cons] at nd
          obtain ⟨n1, n2, _⟩ := List.nodup_append.mp nd
          cases i with
          | zero => simp at h; subst h; exact n1
          | succ i => exact ih n2 (by simpa using h)
      exact this nd e
    · subst q
      obtain ⟨k, f, h1, h2⟩ := zs_mem hc
      rw [List.getElem?_map] at h1
      cases hk : hs[k]? with
      | none => rw [hk] at h1; cases h1
      | some j =>
        rw [hk] at h1
        cases h1
        have hj := b j (List.mem_cons_of_mem _ (List.mem_of_getElem? hk))
        have e2 : φ[j]? = some (φ.getD j (0, [])) := by rw [List.getD_eq_getElem?_getD, List.getElem?_eq_getElem hj]; rfl
        have := zs_inj nd e e2 ha h2
        subst this
        exact hn.1 (List.mem_of_getElem? hk)
theorem putS_len : ∀ (hs : List Nat) (os S : Os), (putS S hs os).length = S.length
  | [], _, _ => by simp [putS]
  | _ :: _, [], _ => by simp [putS]
  | h :: hs, o :: os, S => by simp only [putS]; rw [putS_len hs os]; simp
theorem putS_ne : ∀ {hs : List Nat} {os S : Os} {i : Nat}, i ∉ hs → (putS S hs os)[i]? = S[i]?
  | [], _, _, _, _ => by simp [putS]
  | _ :: _, [], _, _, _ => by simp [putS]
  | h :: hs, o :: os, S, i, n => by
    simp only [List.mem_cons, not_or] at n
    simp only [putS]
    rw [putS_ne n.2, List.getElem?_set_ne (Ne.symm n.1)]
theorem putS_at : ∀ {hs : List Nat} {os S : Os} {j h : Nat} {o : Ob}, hs.Nodup → hs[j]? = some h → os[j]? = some o → h < S.length → (putS S hs os)[h]? = some o
  | [], _, _, _, _, _, _, e, _, _ => by simp at e
  | _ :: _, [], _, _, _, _, _, _, e, _ => by simp at e
  | k :: hs, q :: os, S, 0, h, o, n, e1, e2, hl => by
    simp at e1 e2
    subst e1 e2
    simp only [putS]
    rw [putS_ne (List.nodup_cons.mp n).1, List.getElem?_set_self hl]
  | k :: hs, q :: os, S, j + 1, h, o, n, e1, e2, hl => by
    simp only [putS]
    exact putS_at (List.nodup_cons.mp n).2 (by simpa using e1) (by simpa using e2) (by simpa using hl)
section
variable {K : PySem.W.Frag} {G G' H H' : Hp} {φ φ' : List Foot} {S S' : Os}
theorem DV.isDat {v : V} {d : D} (h : d.isDat = true) (q : DV K G φ v d) : DV K G φ' v d := by
  cases d with
  | dat p => exact q
  | dct p => exact q
  | any => exact q
  | exk _ _ => exact q
  | tupK _ _ _ => exact q
  | _ => cases h
theorem paired_isDat {α : Type} {R : α × V → α × D → Prop} {R' : α × V → α × D → Prop} (hR : ∀ p q, q.2.isDat = true → R p q → R' p q) : ∀ {vs : List (α × V)} {fs : List (α × D)}, Paired R vs fs → (fs.all fun p => p.2.isDat) = true → Paired R' vs fs
  | _, _, .nil, _ => .nil
  | _, _, .cons h r, f => by
    simp only [List.all_cons, Bool.and_eq_true] at f
    exact .cons (hR _ _ f.1 h) (paired_isDat hR r f.2)
theorem paired_isDat1 {R : V → D → Prop} {R' : V → D → Prop} (hR : ∀ p q, q.isDat = true → R p q → R' p q) : ∀ {vs : List V} {fs : List D}, Paired R vs fs → (fs.all fun p => p.isDat) = true → Paired R' vs fs
  | _, _, .nil, _ => .nil
  | _, _, .cons h r, f => by
    simp only [List.all_cons, Bool.and_eq_true] at f
    exact .cons (hR _ _ f.1 h) (paired_isDat1 hR r f.2)
theorem ObR.flat {f : Foot} {o : Ob} (h : o.flat = true) (q : ObR K G φ f H o) : ObR K G φ' f H o := by
  cases o with
  | lst _ => exact q
  | spr _ => exact q
  | dead => trivial
  | ins C fs => obtain ⟨dx, vs, h1, h2, h2', h3⟩ := q; exact ⟨dx, vs, h1, h2, h2', paired_isDat (fun p q c z => ⟨z.1, z.2.isDat c⟩) h3 h⟩
  | dk kvs => obtain ⟨h1, vs, h2, h3⟩ := q; exact ⟨h1, vs, h2, paired_isDat (fun p q c z => ⟨z.1, z.2.isDat c⟩) h3 h⟩
  | mix ds => obtain ⟨h1, vs, h2, h3⟩ := q; exact ⟨h1, vs, h2, paired_isDat1 (fun p q c z => z.isDat c) h3 h⟩
  | jnk n => exact q
  | tab P q' => exact q
  | dt kvs => obtain ⟨h1, vs, h2, h3⟩ := q; exact ⟨h1, vs, h2, paired_isDat (fun p q c z => ⟨z.1, z.2.isDat c⟩) h3 h⟩
  | refs is => cases h
theorem Rel.sel {hs : List Nat} (r : Rel K G φ S H) (n : hs.Nodup) (b : ∀ h ∈ hs, ∃ o, S[h]? = some o ∧ o.flat = true) : Rel K G (hs.map fun h => φ.getD h (0, [])) (hs.map fun h => S.getD h .dead) H := by
  have hb : ∀ h ∈ hs, h < φ.length := fun h m => by
    obtain ⟨o, h1, _⟩ := b h m
    rw [r.len]
    exact (List.getElem?_eq_some_iff.mp h1).1
  have cs : ∀ (i : Nat) f o, (hs.map fun h => φ.getD h (0, []))[i]? = some f → (hs.map fun h => S.getD h .dead)[i]? = some o → ∃ h, hs[i]? = some h ∧ φ[h]? = some f ∧ S[h]? = some o ∧ o.flat = true := by
    intro i f o h1 h2
    rw [List.getElem?_map] at h1 h2
    cases hk : hs[i]? with
    | none => rw [hk] at h1; cases h1
    | some h =>
      rw [hk] at h1 h2
      cases h1
      cases h2
      obtain ⟨o, g1, g2⟩ := b h (List.mem_of_getElem? hk)
      have hl := hb h (List.mem_of_getElem? hk)
      have eo : List.getD S h Ob.dead = o := by rw [List.getD_eq_getElem?_getD, g1]; rfl
      refine ⟨h, rfl, getD_some hl, ?_, ?_⟩
      · show S[h]? = some (List.getD S h Ob.dead)
        rw [eo]; exact g1
      · show (List.getD S h Ob.dead).flat = true
        rw [eo]; exact g2
  refine ⟨r.sub, by simp, zs_sel r.nd n hb, fun a m => ?_, fun i f o h1 h2 => ?_, fun i f o h1 h2 h3 a m => ?_⟩
  · obtain ⟨i, f, h1, h2⟩ := zs_mem m
    rw [List.getElem?_map] at h1
    cases hk : hs[i]? with
    | none => rw [hk] at h1; cases h1
    | some h =>
      rw [hk] at h1
      cases h1
      have hl := hb h (List.mem_of_getElem? hk)
      exact r.on a (mem_zs (i := h) (f := φ.getD h (0, [])) (getD_some hl) h2)
  · obtain ⟨h, _, g2, g3, g4⟩ := cs i f o h1 h2
    exact (r.ob h f o g2 g3).flat g4
  · obtain ⟨h, _, g2, g3, g4⟩ := cs i f o h1 h2
    exact r.off h f o g2 g3 h3 a m
theorem sel_zs {hs : List Nat} (b : ∀ h ∈ hs, h < φ.length) {a : Addr} (m : a ∈ zs (hs.map fun h => φ.getD h (0, []))) : ∃ h ∈ hs, ∃ f, φ[h]? = some f ∧ a ∈ f.all := by
  obtain ⟨i, f, h1, h2⟩ := zs_mem m
  rw [List.getElem?_map] at h1
  cases hk : hs[i]? with
  | none => rw [hk] at h1; cases h1
  | some h =>
    rw [hk] at h1
    cases h1
    have hm := List.mem_of_getElem? hk
    exact ⟨h, hm, _, getD_some (b h hm), h2⟩
theorem Rel.back {hs : List Nat} {Sc : Os} {ψ : List Foot} (r : Rel K G φ S H) (n : hs.Nodup) (b : ∀ h ∈ hs, ∃ o, S[h]? = some o ∧ o.flat = true) (fl : Sc.all Ob.flat = true) (hl : hs.length ≤ Sc.length)
    (e : Ext G (hs.map fun h => φ.getD h (0, [])) H G' ((hs.map fun h => φ.getD h (0, [])) ++ ψ) H') (rc : Rel K G' ((hs.map fun h => φ.getD h (0, [])) ++ ψ) Sc H') :
    Rel K G' (φ ++ ψ) (putS S hs Sc ++ Sc.drop hs.length) H' ∧ Ext G φ H G' (φ ++ ψ) H' := by
  have hb : ∀ h ∈ hs, h < φ.length := fun h m => by
    obtain ⟨o, h1, _⟩ := b h m
    rw [r.len]
    exact (List.getElem?_eq_some_iff.mp h1).1
  have sz : ∀ {a}, a ∈ zs (hs.map fun h => φ.getD h (0, [])) → a ∈ zs φ := fun m => by
    obtain ⟨h, _, f, h1, h2⟩ := sel_zs hb m
    exact mem_zs h1 h2
  have len2 : ψ.length = (Sc.drop hs.length).length := by
    have := rc.len
    simp at this ⊢
    omega
  -- new places were free
  have nw : ∀ a ∈ zs ψ, H a = none := fun a m => by
    by_cases h : a ∈ zs (hs.map fun h => φ.getD h (0, []))
    · have := rc.nd
      rw [zs_app] at this
      exact absurd rfl ((List.nodup_append.mp this).2.2 a h a m)
    · exact e.pn a (by rw [zs_app]; exact List.mem_append_right _ m) h
  -- objects that were not handed over stand
  have stay : ∀ (i : Nat) f, φ[i]? = some f → i ∉ hs → ∀ a ∈ f.all, H' a = H a ∧ a ∉ zs (hs.map fun h => φ.getD h (0, [])) := fun i f hf hi a m => by
    have out : a ∉ zs (hs.map fun h => φ.getD h (0, [])) := fun z => by
      obtain ⟨h, hm, g, h1, h2⟩ := sel_zs hb z
      have := zs_inj r.nd hf h1 m h2
      subst this
      exact hi hm
    cases q : H a with
    | none => exact absurd q (r.on a (mem_zs hf m))
    | some o => exact ⟨e.fr a o out q, out⟩
  have cs : ∀ (i : Nat) f o, (φ ++ ψ)[i]? = some f → (putS S hs Sc ++ Sc.drop hs.length)[i]? = some o →
      (φ[i]? = some f ∧ S[i]? = some o ∧ i ∉ hs) ∨ (∃ j : Nat, ((hs.map fun h => φ.getD h (0, [])) ++ ψ)[j]? = some f ∧ Sc[j]? = some o) := by
    intro i f o h1 h2
    by_cases hi : i < φ.length
    · rw [List.getElem?_append_left hi] at h1
      rw [List.getElem?_append_left (by rw [putS_len, ← r.len]; exact hi)] at h2
      by_cases hm : i ∈ hs
      · obtain ⟨j, hj⟩ := List.mem_iff_getElem?.mp hm
        have jl := (List.getElem?_eq_some_iff.mp hj).1
        have jc : j < Sc.length := by omega
        rw [putS_at n hj (List.getElem?_eq_getElem jc) (by rw [← r.len]; exact hi)] at h2
        refine .inr ⟨j, ?_, by rw [List.getElem?_eq_getElem jc]; exact h2⟩
        rw [List.getElem?_append_left (by simpa using jl), List.getElem?_map, hj]
        simp [List.getD_eq_getElem?_getD, h1]
      · rw [putS_ne hm] at h2
        exact .inl ⟨h1, h2, hm⟩
    · rw [List.getElem?_append_right (by omega)] at h1
      rw [List.getElem?_append_right (by rw [putS_len, ← r.len]; omega), putS_len, ← r.len, List.getElem?_drop] at h2
      refine .inr ⟨hs.length + (i - φ.length), ?_, h2⟩
      rw [List.getElem?_append_right (by simp)]
      simpa using h1
  have sub2 : ∀ a ∈ zs φ, G a = none → G' a ≠ none → a ∈ zs (hs.map fun h => φ.getD h (0, [])) := fun a m g1 g2 => by
    rcases e.gn a g1 g2 with z | z
    · exact absurd z (r.on a m)
    · exact z
  refine ⟨⟨rc.sub, by simp [putS_len, r.len, len2], ?_, fun a m => ?_, fun i f o h1 h2 => ?_, fun i f o h1 h2 h3 a m => ?_⟩, ⟨e.g, ⟨ψ, rfl⟩, fun a o hn h => ?_, fun a h1 h2 => ?_, fun a m hn => ?_⟩⟩
  · rw [zs_app]
    have nd2 := rc.nd
    rw [zs_app] at nd2
    exact List.nodup_append.mpr ⟨r.nd, (List.nodup_append.mp nd2).2.1, fun a ha c hc q => r.on a ha (by rw [q]; exact nw c hc)⟩
  · rw [zs_app] at m
    rcases List.mem_append.mp m with m | m
    · by_cases z : a ∈ zs (hs.map fun h => φ.getD h (0, []))
      · exact rc.on a (by rw [zs_app]; exact List.mem_append_left _ z)
      · cases q : H a with
        | none => exact absurd q (r.on a m)
        | some o => rw [e.fr a o z q]; exact fun z => nomatch z
    · exact rc.on a (by rw [zs_app]; exact List.mem_append_right _ m)
  · rcases cs i f o h1 h2 with ⟨g1, g2, g3⟩ | ⟨j, g1, g2⟩
    · exact ((r.ob i f o g1 g2).mono e.g ⟨ψ, rfl⟩).stay fun a m => (stay i f g1 g3 a m).1
    · exact (rc.ob j f o g1 g2).flat (List.all_eq_true.mp fl o (List.mem_of_getElem? g2))
  · rcases cs i f o h1 h2 with ⟨g1, g2, g3⟩ | ⟨j, g1, g2⟩
    · have z := r.off i f o g1 g2 h3 a m
      cases q : G' a with
      | none => rfl
      | some u => exact absurd (sub2 a (mem_zs g1 m) z (by rw [q]; exact fun z => nomatch z)) (stay i f g1 g3 a m).2
    · exact rc.off j f o g1 g2 h3 a m
  · exact e.fr a o (fun z => hn (sz z)) h
  · rcases e.gn a h1 h2 with z | z
    · exact .inl z
    · exact .inr (sz z)
  · rw [zs_app] at m
    rcases List.mem_append.mp m with m | m
    · exact absurd m hn
    · exact nw a m
theorem un_dv {ds0 : List D} (r : Rel K G φ S H) (b : ∀ h ∈ hsOf ds0, ∃ o, S[h]? = some o ∧ o.flat = true) : ∀ {ds : List D} {vs : List V}, (∀ d ∈ ds, d ∈ ds0) → Paired (DV K G φ) vs ds → Paired (DV K G ((hsOf ds0).map fun h => φ.getD h (0, []))) vs (ds.map (D.un (hsOf ds0)))
  | [], _, _, .nil => .nil
  | d :: ds, _, hm, .cons h t => by
    refine .cons ?_ (un_dv r b (fun e he => hm e (List.mem_cons_of_mem _ he)) t)
    cases d with
    | dat p => exact h
    | ty n => exact h
    | exc _ _ _ _ => exact h
    | dct _ => exact h
    | any => exact h
    | exk _ _ => exact h
    | tupK _ _ _ => exact h
    | tup ds => obtain ⟨a, vs, rfl, _⟩ := h; exact fun z => nomatch z
    | ref i =>
      obtain ⟨f, h1, h2⟩ := h
      refine ⟨f, ?_, h2⟩
      have hi : i ∈ hsOf ds0 := mem_hs.mpr (hm _ (List.mem_cons_self ..))
      have hl := List.idxOf_lt_length_iff.mpr hi
      rw [List.getElem?_map, List.getElem?_eq_getElem hl, List.getElem_idxOf hl]
      simp [List.getD_eq_getElem?_getD, h1]
end
section
variable {X : Cx} {fs : Fs} {e : Expr} {t : DA}
theorem de_call (h : PE X e (tCall (upF X.K fs) [] E0 (upA X.K t))) : PE X e (up X.K (dCall fs t)) := h.imp fun σ H Q ⟨G, φ, ρ, S, Q', r, sl, dn, q⟩ =>
  ⟨G, φ, ρ, S, _, r, sl, fun ds S1 G1 φ1 vs H1 q1 e1 r1 dv => by
    obtain ⟨b, q1⟩ := q1
    rw [List.append_nil]
    refine ⟨G1, _, _, _, _, r1.sel (hs_nodup _) b, un_dv r1 b (fun d h => h) dv, fun d Sc G2 φ2 v H2 q2 e2 r2 dv2 => ?_, q1⟩
    obtain ⟨fl, q2⟩ := q2
    obtain ⟨ψ, rfl⟩ := e2.p
    rcases q2 with ⟨hl, ⟨p, rfl⟩, q2⟩ | ⟨o, ho, hl, rfl, q2⟩
    · obtain ⟨r3, e3⟩ := r1.back (hs_nodup _) b fl (by omega) e2 r2
      have z : ψ = [] := by
        have := r2.len
        simp at this
        exact List.length_eq_zero_iff.mp (by omega)
      subst z
      have d0 : Sc.drop (hsOf ds).length = [] := List.drop_eq_nil_of_le (by omega)
      rw [d0, List.append_nil, List.append_nil] at r3
      rw [List.append_nil] at e3
      exact dn _ _ _ _ _ _ q2 (e1.trans e3) r3 dv2
    · obtain ⟨r3, e3⟩ := r1.back (hs_nodup _) b fl (by omega) e2 r2
      rw [ho] at r3
      refine dn _ _ _ _ _ _ q2 (e1.trans e3) r3 ?_
      obtain ⟨f, h1, rfl⟩ := dv2
      refine ⟨f, ?_, rfl⟩
      rw [List.getElem?_append_right (by simp)] at h1
      rw [← r1.len, List.getElem?_append_right (Nat.le_refl _)]
      simpa using h1, q⟩
theorem de_call0 (h : PE X e (tCall (upF X.K fs) [] E0 tNil)) : PE X e (up X.K (dCall fs dNil)) := de_call (h.imp fun σ H Q ⟨G, φ, ρ, S, Q', r, sl, dn, q⟩ => dn [] S G φ [] H q .refl r .nil)
end
end Rm

set_option Elab.async false
set_option linter.all false
set_option maxRecDepth 100000
set_option maxHeartbeats 4000000
namespace Rm
open PySem PySem.Spec PyProof.Rows L2
def D.cl (n : Nat) : D → Bool
  | .ref i => decide (i < n)
  | .tup ds => ds.all fun d => match d with
    | .inl _ => true
    | .inr i => decide (i < n)
  | _ => true
def Ob.cl (n : Nat) : Ob → Bool
  | .refs is => is.all fun i => decide (i < n)
  | .ins _ fs => fs.all fun p => p.2.cl n
  | .dk kvs => kvs.all fun p => p.2.cl n
  | .mix ds => ds.all fun d => d.cl n
  | .dt kvs => kvs.all fun p => p.2.cl n
  | _ => true
def fin (n : Nat) (Q : DQ) : DQ := fun d S' => n ≤ S'.length ∧ (S'.take n).all (Ob.cl n) = true ∧ match d with
  | .dat p => Q (.dat p) (S'.take n)
  | .ref h => if h < n then Q (.ref h) (S'.take n) else match S'[h]? with
    | some (.lst ds) => Q (.dat (.list ds)) (S'.take n)
    | some o => o.cl n = true ∧ Q (.ref n) (S'.take n ++ [o])
    | none => False
  | _ => False
section
variable {K : PySem.W.Frag} {G G' H H' : Hp} {φ φ' ψ : List Foot} {S S' : Os}
theorem paired_cl {α β : Type} {F F' : α → β → Prop} {p : β → Bool} (hh : ∀ a b, F a b → p b = true → F' a b) : ∀ {as : List α} {bs : List β}, Paired F as bs → bs.all p = true → Paired F' as bs
  | _, _, .nil, _ => .nil
  | _, _, .cons h t, c => by
    rw [List.all_cons, Bool.and_eq_true] at c
    exact .cons (hh _ _ h c.1) (paired_cl hh t c.2)
theorem DV.cl {v : V} {d : D} (h : DV K G (φ ++ ψ) v d) (c : d.cl φ.length = true) : DV K G φ v d := by
  cases d with
  | ref i =>
    obtain ⟨f, h1, h2⟩ := h
    have hi : i < φ.length := of_decide_eq_true c
    rw [List.getElem?_append_left hi] at h1
    exact ⟨f, h1, h2⟩
  | tup ds =>
    obtain ⟨a, vs, h1, h2, h3⟩ := h
    refine ⟨a, vs, h1, h2, paired_cl (fun x y q c => ?_) h3 c⟩
    cases y with
    | inl p => exact q
    | inr i =>
      obtain ⟨f, q1, q2⟩ := q
      rw [List.getElem?_append_left (of_decide_eq_true c)] at q1
      exact ⟨f, q1, q2⟩
  | _ => exact h
theorem ObR.cl {f : Foot} {o : Ob} (h : ObR K G (φ ++ ψ) f H o) (c : o.cl φ.length = true) : ObR K G φ f H o := by
  cases o with
  | refs is => obtain ⟨h1, vs, h2, h3⟩ := h; exact ⟨h1, vs, h2, paired_cl (fun a b q c => DV.cl (d := .ref b) q c) h3 c⟩
  | ins C fs => obtain ⟨dx, vs, h1, h2, h2', h3⟩ := h; exact ⟨dx, vs, h1, h2, h2', paired_cl (fun a b q c => ⟨q.1, q.2.cl c⟩) h3 c⟩
  | dk kvs => obtain ⟨h1, vs, h2, h3⟩ := h; exact ⟨h1, vs, h2, paired_cl (fun a b q c => ⟨q.1, q.2.cl c⟩) h3 c⟩
  | mix ds => obtain ⟨h1, vs, h2, h3⟩ := h; exact ⟨h1, vs, h2, paired_cl (fun a b q c => q.cl c) h3 c⟩
  | dt kvs => obtain ⟨h1, vs, h2, h3⟩ := h; exact ⟨h1, vs, h2, paired_cl (fun a b q c => ⟨q.1, q.2.cl c⟩) h3 c⟩
  | _ => exact h
theorem Rel.take (r : Rel K G (φ ++ ψ) S H) (fl : (S.take φ.length).all (Ob.cl φ.length) = true) : Rel K G φ (S.take φ.length) H := by
  have hl := r.len
  rw [List.length_append] at hl
  have nd := r.nd
  rw [zs_app] at nd
  have cs : ∀ (i : Nat) f o, φ[i]? = some f → (S.take φ.length)[i]? = some o → (φ ++ ψ)[i]? = some f ∧ S[i]? = some o := fun i f o h1 h2 => by
    have hi := (List.getElem?_eq_some_iff.mp h1).1
    rw [List.getElem?_take_of_lt hi] at h2
    exact ⟨by rw [List.getElem?_append_left hi]; exact h1, h2⟩
  refine ⟨r.sub, by simp; omega, (List.nodup_append.mp nd).1, fun a m => r.on a (by rw [zs_app]; exact List.mem_append_left _ m), fun i f o h1 h2 => ?_, fun i f o h1 h2 => ?_⟩
  · obtain ⟨g1, g2⟩ := cs i f o h1 h2
    exact (r.ob i f o g1 g2).cl (List.all_eq_true.mp fl o (List.mem_of_getElem? h2))
  · obtain ⟨g1, g2⟩ := cs i f o h1 h2
    exact r.off i f o g1 g2
theorem Ext.take (e : Ext G φ H G' (φ ++ ψ) H') : Ext G φ H G' φ H' := ⟨e.g, ⟨[], by simp⟩, e.fr, e.gn, fun _ h1 h2 => absurd h1 h2⟩
theorem Rel.takeO {h : Nat} {f : Foot} {o : Ob} (r : Rel K G (φ ++ ψ) S H) (fl : (S.take φ.length).all (Ob.cl φ.length) = true) (hf : o.cl φ.length = true) (hn : φ.length ≤ h) (h1 : (φ ++ ψ)[h]? = some f) (h2 : S[h]? = some o) : Rel K G (φ ++ [f]) (S.take φ.length ++ [o]) H := by
  have r0 := r.take fl
  have hl := r.len
  rw [List.length_append] at hl
  have tl : (S.take φ.length).length = φ.length := by simp; omega
  have cs : ∀ (i : Nat) g u, (φ ++ [f])[i]? = some g → (S.take φ.length ++ [o])[i]? = some u → (φ[i]? = some g ∧ (S.take φ.length)[i]? = some u) ∨ (g = f ∧ u = o) := fun i g u q1 q2 => by
    by_cases hi : i < φ.length
    · rw [List.getElem?_append_left hi] at q1
      rw [List.getElem?_append_left (by rw [tl]; exact hi)] at q2
      exact .inl ⟨q1, q2⟩
    · rw [List.getElem?_append_right (by omega)] at q1
      rw [List.getElem?_append_right (by omega), tl] at q2
      cases hk : i - φ.length with
      | zero => rw [hk] at q1 q2; simp at q1 q2; exact .inr ⟨q1.symm, q2.symm⟩
      | succ n => rw [hk] at q1; simp at q1
  have sep : ∀ a ∈ zs φ, a ∉ f.all := fun a m m' => by
    obtain ⟨i, g, q1, q2⟩ := zs_mem m
    have hi := (List.getElem?_eq_some_iff.mp q1).1
    have := zs_inj r.nd (i := i) (by rw [List.getElem?_append_left hi]; exact q1) h1 q2 m'
    omega
  have z1 : zs [f] = f.all := by simp [zs]
  have fnd : f.all.Nodup := by
    have : ∀ {φ : List Foot} {i : Nat} {f : Foot}, (zs φ).Nodup → φ[i]? = some f → f.all.Nodup := by
      intro φ
      induction φ with
      | nil => intro i f _ h; simp at h
      | cons g φ ih =>
        intro i f nd h
        rw [zs_cons] at nd
        obtain ⟨n1, n2, _⟩ := List.nodup_append.mp nd
        cases i with
        | zero => simp at h; subst h; exact n1
        | succ i => exact ih n2 (by simpa using h)
    exact this r.nd h1
  refine ⟨r.sub, by simp [tl], ?_, fun a m => ?_, fun i g u q1 q2 => ?_, fun i g u q1 q2 q3 => ?_⟩
  · rw [zs_app, z1]
    exact List.nodup_append.mpr ⟨r0.nd, fnd, fun a ha c hc q => sep a ha (q ▸ hc)⟩
  · rw [zs_app, z1] at m
    rcases List.mem_append.mp m with m | m
    · exact r0.on a m
    · exact r.on a (mem_zs h1 m)
  · rcases cs i g u q1 q2 with ⟨p1, p2⟩ | ⟨rfl, rfl⟩
    · exact (r0.ob i g u p1 p2).mono (.refl _) ⟨_, rfl⟩
    · exact ((r.ob h g u h1 h2).cl hf).mono (.refl _) ⟨_, rfl⟩
  · rcases cs i g u q1 q2 with ⟨p1, p2⟩ | ⟨rfl, rfl⟩
    · exact r0.off i g u p1 p2 q3
    · exact r.off h g u h1 h2 q3
theorem Dn.fin {Q : VK} {Q' : DQ} (dn : Dn K G φ H Q Q') : Dn K G φ H Q (fin φ.length Q') := by
  rintro d S' G' φ' v H' ⟨hl, fl, q⟩ e r dv
  obtain ⟨ψ, rfl⟩ := e.p
  cases d with
  | dat p => exact dn _ _ _ _ _ _ q e.take (r.take fl) dv
  | ty n => exact q.elim
  | exc _ _ _ _ => exact q.elim
  | dct _ => exact q.elim
  | any => exact q.elim
  | exk _ _ => exact q.elim
  | tupK _ _ _ => exact q.elim
  | tup _ => exact q.elim
  | ref h =>
    obtain ⟨f, h1, rfl⟩ := dv
    by_cases hn : h < φ.length
    · simp only [hn, if_true] at q
      refine dn _ _ _ _ _ _ q e.take (r.take fl) ⟨f, ?_, rfl⟩
      rw [List.getElem?_append_left hn] at h1
      exact h1
    · simp only [hn, if_false] at q
      have hn' : φ.length ≤ h := by omega
      cases hs : S'[h]? with
      | none => simp only [hs] at q
      | some o =>
        have other : (∀ ds, o ≠ .lst ds) → o.cl φ.length = true ∧ Q' (.ref φ.length) (S'.take φ.length ++ [o]) := fun no => by
          simp only [hs] at q
          cases o with
          | lst ds => exact absurd rfl (no ds)
          | _ => exact q
        by_cases hlst : ∃ ds, o = .lst ds
        · obtain ⟨ds, rfl⟩ := hlst
          simp only [hs] at q
          obtain ⟨G2, r2, e2, d2⟩ := r.frz h1 hs
          have tk : (S'.set h .dead).take φ.length = S'.take φ.length := by rw [List.take_set]; exact List.set_eq_of_length_le (by simp; omega)
          have r3 := r2.take (by rw [tk]; exact fl)
          rw [tk] at r3
          exact dn _ _ _ _ _ _ q (e.trans e2).take r3 d2
        · obtain ⟨hf, q⟩ := other fun ds z => hlst ⟨ds, z⟩
          refine dn _ _ _ _ _ _ q ⟨e.g, ⟨[f], rfl⟩, e.fr, e.gn, fun a m hn' => e.pn a ?_ hn'⟩ (r.takeO fl hf hn' h1 hs) ⟨f, by simp, rfl⟩
          rw [zs_app] at m
          rcases List.mem_append.mp m with m | m
          · rw [zs_app]; exact List.mem_append_left _ m
          · simp [zs] at m
            exact mem_zs h1 (by simpa [Foot.all] using m)
end
def startD (n : Nat) (ds : List D) : Rh := ds.map some ++ List.replicate (n - ds.length) none
theorem slots_start {K : PySem.W.Frag} {G : Hp} {φ : List Foot} {N : List Str} {vs : List V} {ds : List D} (h : Paired (DV K G φ) vs ds) : Slots K G φ (startD N.length ds) (start N vs) := by
  have hl : vs.length = ds.length := Paired.length h
  refine ⟨by simp [startD, L2.start, hl], fun i d e => ?_⟩
  unfold startD at e
  by_cases hi : i < ds.length
  · rw [List.getElem?_append_left (by simpa using hi), List.getElem?_map] at e
    cases hd : ds[i]? with
    | none => rw [hd] at e; cases e
    | some d' =>
      rw [hd] at e
      cases e
      have : ∀ {vs : List V} {ds : List D} {i : Nat} {d : D}, Paired (DV K G φ) vs ds → ds[i]? = some d → ∃ v, vs[i]? = some v ∧ DV K G φ v d := by
        intro vs ds
        induction ds generalizing vs with
        | nil => intro i d _ e; simp at e
        | cons c ds ih =>
          intro i d h e
          cases h with
          | cons a b =>
            cases i with
            | zero => simp at e; subst e; exact ⟨_, rfl, a⟩
            | succ i => obtain ⟨v, q1, q2⟩ := ih (i := i) b (by simpa using e); exact ⟨v, by simpa using q1, q2⟩
      obtain ⟨v, q1, q2⟩ := this h hd
      refine ⟨v, ?_, q2⟩
      unfold L2.start
      rw [List.getElem?_append_left (by simp; omega), List.getElem?_map, q1]
      rfl
  · rw [List.getElem?_append_right (by simpa using hi)] at e
    have := List.mem_of_getElem? e
    simp at this
section
variable {P : Program} {w : World} {K : PySem.W.Frag} {mg : Str → Option Value} {base : Heap} {x : Str} {st : Stmt} {N ps : List Str} {k : Nat} {fs : Fs}
theorem Df.calD (F : Df K mg x st) (S : FnScope N ps (defScope st))
    (hb : ∀ (kV doc pm : Value) (an : Option Addr) (cdv ct : Value) (us : List Value), us.length = ps.length → bindArgs (PySem.W.fnOf x x (defArgs st) (defBody st) (defScope st) .none kV doc pm an cdv ct) ⟨us, []⟩ = pure (ps.zip us))
    (len : ∀ ds S Q, fs ds S Q → ds.length = ps.length) (t : DSm)
    (hbody : ∀ (f : Addr) (cdv : Value) (A : Around) (outer : List Env) (s : Shared) (H : Hp) (E : XK), Room k (A.deeper (envOfC x (defScope st) s.heap.objs.size f cdv)) →
      PSs (cxOf CX0 P w K mg base N x (defScope st) f cdv A outer s H E).nox (defBody st) (upS K W0 t))
    (hq : ∀ ds S Q, fs ds S Q → t { nx := fun _ S' => fin S.length Q (.dat .none) S', rt := fin S.length Q } (startD N.length ds) S) : Cal P w K mg base (k + 1) x (upF K fs) := by
  refine F.cal S hb (fun vs H Q E h => ?_) fun f cdv A outer s H vs Q E hr hs => ⟨upS K W0 t, hbody f cdv A outer s H E hr, ?_⟩
  · obtain ⟨G, φ, ds, S, Q', r, dv, dn, q⟩ := h
    rw [Paired.length dv]
    exact len ds S Q' q
  · obtain ⟨G, φ, ds, S, Q', r, dv, dn, q⟩ := hs
    have dnf := dn.fin
    rw [r.len] at dnf
    exact ⟨G, φ, _, S, { nx := fun _ S' => fin S.length Q' (.dat .none) S', rt := fin S.length Q' }, r, slots_start dv, ⟨fun ρ S' G' φ' σ' H' q' e' r' _ => dnf (.dat .none) _ _ _ _ _ q' e' r' .non, dnf, fun _ _ _ _ _ _ q' => q'.elim, fun _ _ _ _ _ _ q' => q'.elim, fun _ _ _ _ _ _ _ _ _ _ q' => q'.elim⟩, hq ds S Q' q⟩
theorem Df.zeroD (F : Df K mg x st)
    (hb : ∀ (kV doc pm : Value) (an : Option Addr) (cdv ct : Value) (us : List Value), us.length = ps.length → bindArgs (PySem.W.fnOf x x (defArgs st) (defBody st) (defScope st) .none kV doc pm an cdv ct) ⟨us, []⟩ = pure (ps.zip us))
    (no : ∀ ds S Q, ¬ fs ds S Q) : Cal P w K mg base k x (upF K fs) := F.zero hb fun vs H Q E ⟨G, φ, ds, S, Q', _, _, _, q⟩ => no _ _ _ q
end
end Rm

set_option Elab.async false
set_option linter.all false
set_option maxRecDepth 100000
set_option maxHeartbeats 4000000
namespace Rm
open PySem PySem.Spec PyProof.Rows L2
def Pf {α : Type} (pre : α → Prop) (emb : α → List PyData) (f : α → PyData) : Fs := fun ds S Q => S = [] ∧ ∃ a, ds = (emb a).map .dat ∧ pre a ∧ Q (.dat (f a)) []
theorem hs_dat : ∀ ps : List PyData, hsOf (ps.map .dat) = []
  | [] => rfl
  | p :: r => by simp [hsOf, hs_dat r]
theorem un_dat {hs : List Nat} : ∀ {ds : List D} {ps : List PyData}, ds.map (D.un hs) = ps.map .dat → ds = ps.map .dat
  | [], [], _ => rfl
  | [], _ :: _, h => by simp at h
  | _ :: _, [], h => by simp at h
  | d :: ds, p :: ps, h => by
    simp only [List.map_cons, List.cons.injEq] at h
    rw [un_dat h.2]
    cases d with
    | dat q => rw [List.map_cons]; exact congrArg (· :: _) h.1
    | ref i => exact absurd h.1 (by simp [D.un])
    | ty n => exact absurd h.1 (by simp [D.un])
    | exc _ _ _ _ => exact absurd h.1 (by simp [D.un])
    | dct _ => exact absurd h.1 (by simp [D.un])
    | any => exact absurd h.1 (by simp [D.un])
    | exk _ _ => exact absurd h.1 (by simp [D.un])
    | tupK _ _ _ => exact absurd h.1 (by simp [D.un])
    | tup _ => exact absurd h.1 (by simp [D.un])
theorem map_un {hs : List Nat} : ∀ ps : List PyData, (ps.map D.dat).map (D.un hs) = ps.map .dat
  | [] => rfl
  | p :: r => by rw [List.map_cons, List.map_cons, map_un r]; rfl
theorem callS_Pf {α : Type} {pre : α → Prop} {emb : α → List PyData} {f : α → PyData} {ds : List D} {S : Os} {Q : DQ} : callS (Pf pre emb f) ds S Q ↔ ∃ a, ds = (emb a).map .dat ∧ pre a ∧ Q (.dat (f a)) S := by
  constructor
  · rintro ⟨_, h0, a, h1, h2, h3, h4⟩
    refine ⟨a, un_dat h1, h2, ?_⟩
    have hh : hsOf ds = [] := by rw [un_dat h1]; exact hs_dat _
    rcases h4 with ⟨_, _, q⟩ | ⟨o, _, q2, _⟩
    · rw [hh] at q
      simpa [putS] using q
    · rw [hh] at q2
      simp at q2
  · rintro ⟨a, rfl, h2, q⟩
    refine ⟨fun h m => ?_, ?_⟩
    · rw [hs_dat] at m; cases m
    · rw [hs_dat, map_un]
      exact ⟨rfl, a, rfl, h2, rfl, .inl ⟨rfl, ⟨_, rfl⟩, q⟩⟩
section
variable {W : WX} {X : Cx}
theorem pe_gl {x : Str} {v : V} {pos : Pos} (hm : ∃ u, X.mg x = some u ∧ RelV v u) (hg : Gl X x := by rfl) (hd : (x == ("__debug__" : Str)) = false := by decide) : PE X (.Name x pos) (tC v) := by
  obtain ⟨u, h1, h2⟩ := hm
  exact pe_glob hg h1 h2 hd
theorem de_gint {x : Str} {i : Int} {pos : Pos} (h : ∃ u, X.mg x = some u ∧ RelV (.int i) u) (hg : Gl X x := by rfl) (hd : (x == ("__debug__" : Str)) = false := by decide) : PE X (.Name x pos) (up X.K (dC (.dat (.int i)))) := de_c (pe_gl h hg hd) fun _ _ => Dq.int i
theorem de_gstr {x : Str} {i : Str} {pos : Pos} (h : ∃ u, X.mg x = some u ∧ RelV (.str i) u) (hg : Gl X x := by rfl) (hd : (x == ("__debug__" : Str)) = false := by decide) : PE X (.Name x pos) (up X.K (dC (.dat (.str i)))) := de_c (pe_gl h hg hd) fun _ _ => Dq.str i
theorem de_gtup {x : Str} {l : List Str} {pos : Pos} (h : ∃ a, X.mg x = some (.ref a) ∧ ∀ H, SqT X.K H a (l.map V.str)) (hg : Gl X x := by rfl) (hd : (x == ("__debug__" : Str)) = false := by decide) : PE X (.Name x pos) (up X.K (dC (.dat (.tuple (l.map PyData.str))))) := by
  obtain ⟨a, h1, h2⟩ := h
  exact de_c (pe_glob (v := .ref a) hg h1 rfl hd) fun G φ => .tup (h2 G) (dq_strs l)
def sCut (t u : DSm) : DSm := fun E ρ S => ∃ M : Rh → Os → Prop, t { E with nx := M } ρ S ∧ ∀ ρ1 S1, M ρ1 S1 → u E ρ1 S1
theorem dss_cut {st : Stmt} {rest : List Stmt} {t u : DSm} (h1 : PS X st (upS X.K W t)) (h2 : PSs X rest (upS X.K W u)) : PSs X (st :: rest) (upS X.K W (sCut t u)) :=
  (pss_cons h1 h2).imp fun E σ H ⟨G, φ, ρ, S, E', r, sl, dn, M, q, qm⟩ =>
    ⟨G, φ, ρ, S, { E' with nx := M }, r, sl, ⟨fun ρ1 S1 G1 φ1 σ1 H1 q1 e1 r1 s1 => ⟨G1, φ1, ρ1, S1, E', r1, s1, dn.ext e1, qm _ _ q1⟩, dn.rt, dn.bk, dn.ct, dn.xr⟩, q⟩
end
theorem lcL_map {g : Tg} {te : DE} {ρ : Rh} {f : D → PyData} : ∀ {xs : List D} {S : Os} {Q : List PyData → Os → Prop}, (∀ x ∈ xs, ∀ R : DQ, R (.dat (f x)) S → g.put x ρ fun ρ2 => te ρ2 S R) → Q (xs.map f) S → lcL g dYes te ρ xs S Q
  | [], _, _, _, q => q
  | x :: xs, S, Q, h, q => by
    have hh := h x (List.mem_cons_self ..) (fun y S4 => ∃ p, y = .dat p ∧ lcL g dYes te ρ xs S4 fun ys S5 => Q (p :: ys) S5) ⟨_, rfl, lcL_map (fun y hy => h y (List.mem_cons_of_mem _ hy)) q⟩
    simp only [lcL, dYes, if_true]
    exact hh
theorem loop_inv {g : DGt} {tb : DSm} {E : DEnds} (I : List D → Rh → Os → Prop) : ∀ {xs : List D} {ρ : Rh} {S : Os}, I xs ρ S → (∀ ρ S, I [] ρ S → E.nx ρ S) →
    (∀ x r ρ S (N : Rh → Os → Prop), I (x :: r) ρ S → (∀ ρ1 S1, I r ρ1 S1 → N ρ1 S1) → g x ρ S fun ρ2 S2 => tb { E with nx := N, ct := N, bk := E.nx } ρ2 S2) → loop g tb E xs ρ S
  | [], _, _, h, hd, _ => hd _ _ h
  | x :: xs, _, _, h, hd, hs => by
    simp only [loop]
    exact hs x xs _ _ _ h fun ρ1 S1 i => loop_inv I i hd hs
end Rm

set_option Elab.async false
set_option linter.all false
set_option maxRecDepth 100000
set_option maxHeartbeats 4000000
namespace Rm
open PySem PySem.Spec PyProof.Rows L2
theorem lcL_sgn {te : DE} {j : Nat} {ρ : Rh} {f : Nat → PyData} {S : Os} : ∀ {cs : List Nat} {Q : List PyData → Os → Prop}, (∀ c ∈ cs, ∀ R : DQ, R (.dat (f c)) S → te (ρ.set j (some (.dat (.str ⟨#[c]⟩)))) S R) → Q (cs.map f) S → lcL (.one j) dYes te ρ (cs.map fun c => .dat (.str ⟨#[c]⟩)) S Q
  | [], _, _, q => q
  | x :: xs, Q, h, q => by
    simp only [List.map_cons, lcL, dYes, if_true, Tg.put]
    exact h x (List.mem_cons_self ..) _ ⟨_, rfl, lcL_sgn (fun y hy => h y (List.mem_cons_of_mem _ hy)) q⟩
theorem lcL_rowF {tt : DT} {te : DE} {j : Nat} {ρ : Rh} {f : PyData → PyData} {b : PyData → Bool} : ∀ {ds : List PyData} {S : Os} {Q : List PyData → Os → Prop},
    (∀ p ∈ ds, ∀ R : Os → Prop, ∀ R2 : DQ, (b p = false → R S) → (b p = true → R2 (.dat (f p)) S) → tt (ρ.set j (some (.dat p))) S fun c S3 => if c = true then te (ρ.set j (some (.dat p))) S3 R2 else R S3) → Q ((ds.filter b).map f) S → lcL (.one j) tt te ρ (ds.map .dat) S Q
  | [], _, _, _, q => q
  | x :: xs, S, Q, h, q => by
    have ih : ∀ {Q : List PyData → Os → Prop}, Q ((xs.filter b).map f) S → lcL (.one j) tt te ρ (xs.map .dat) S Q := fun q => lcL_rowF (fun y hy => h y (List.mem_cons_of_mem _ hy)) q
    simp only [List.map_cons, lcL, Tg.put]
    refine h x (List.mem_cons_self ..) (fun S3 => lcL (.one j) tt te ρ (xs.map .dat) S3 Q) _ (fun hb => ?_) fun hb => ?_
    · exact ih (by rw [List.filter_cons, hb] at q; exact q)
    · exact ⟨_, rfl, ih (by rw [List.filter_cons, hb] at q; exact q)⟩
theorem inP_str {x : Str} : ∀ {l : List Str}, inP (.str x) (l.map PyData.str) = l.contains x
  | [] => rfl
  | y :: l => by
    have := inP_str (x := x) (l := l)
    unfold inP at this ⊢
    rw [List.map_cons, List.any_cons, this, List.contains_cons]
    simp only [PyData.eqv]
    congr 1
    exact BEq.comm
theorem flatP_strs : ∀ l : List Str, (l.map PyData.str).all flatP = true
  | [] => rfl
  | _ :: l => by rw [List.map_cons, List.all_cons, flatP_strs l]; rfl
theorem sgnD_len {z : Str} : (sgnD z).length = z.length := by simp [sgnD]; rfl
theorem isT_str (z : Str) : isT "str" (.str z) = true := rfl
theorem atI_nat' {α : Type} {xs : List α} {i : Nat} : atI xs (i : Int) = xs[i]? := by
  unfold atI ixN
  rw [if_pos (Int.natCast_nonneg i)]
  by_cases h : i < xs.length
  · rw [if_pos (by omega)]; rfl
  · rw [if_neg (by omega), List.getElem?_eq_none (by omega)]; rfl
theorem atI_last' {α : Type} {xs : List α} : atI xs (-1) = xs.getLast? := by
  unfold atI ixN
  rw [if_neg (by decide), List.getLast?_eq_getElem?]
  by_cases h : xs.length = 0
  · rw [if_neg (by omega), List.getElem?_eq_none (by omega)]; rfl
  · rw [if_pos (by omega)]
    show xs[(-1 + (xs.length : Int)).toNat]? = _
    congr 1
    omega
theorem cutP_from {α : Type} {xs : List α} {n : Nat} : cutP xs (some (n : Int)) none = xs.drop n := by
  unfold cutP HT.sIx
  dsimp only
  rw [if_neg (by omega)]
  simp only [Int.toNat_natCast]
  by_cases h : n ≤ xs.length
  · rw [Nat.min_eq_left h]
    exact List.take_of_length_le (by simp)
  · rw [Nat.min_eq_right (by omega), List.drop_eq_nil_of_le (Nat.le_refl _), List.drop_eq_nil_of_le (by omega)]
    simp
theorem cutP_upto {α : Type} {xs : List α} {n : Nat} : cutP xs none (some (n : Int)) = xs.take n := by
  unfold cutP HT.sIx
  dsimp only
  rw [if_neg (by omega)]
  simp only [Int.toNat_natCast, List.drop_zero, Nat.sub_zero]
  by_cases h : n ≤ xs.length
  · rw [Nat.min_eq_left h]
  · rw [Nat.min_eq_right (by omega), List.take_length, List.take_of_length_le (by omega)]
theorem rd_dat {S : Os} {p : PyData} : rd S (.dat p) = some p := rfl
theorem rd_ref {S : Os} {i : Nat} : rd S (.ref i) = match S[i]? with | some (.lst ds) => some (.list ds) | _ => none := rfl
theorem isN_int {i : Int} : isN (.dat (.int i)) = false := rfl
theorem isN_str {i : Str} : isN (.dat (.str i)) = false := rfl
theorem isN_bl {i : Bool} : isN (.dat (.bool i)) = false := rfl
theorem isN_non : isN (.dat .none) = true := rfl
theorem isN_lst {i : List PyData} : isN (.dat (.list i)) = false := rfl
theorem isN_tup {i : List PyData} : isN (.dat (.tuple i)) = false := rfl
theorem isN_ref {i : Nat} : isN (.ref i) = false := rfl
theorem flatP_int {i : Int} : flatP (.int i) = true := rfl
theorem flatP_str {i : Str} : flatP (.str i) = true := rfl
theorem flatP_bl {i : Bool} : flatP (.bool i) = true := rfl
theorem flatP_non : flatP .none = true := rfl
theorem lenP_str {i : Str} : lenP (.str i) = some i.length := rfl
theorem lenP_lst {i : List PyData} : lenP (.list i) = some i.length := rfl
theorem lenP_tup {i : List PyData} : lenP (.tuple i) = some i.length := rfl
theorem rowP_lst {i : List PyData} : rowP (.list i) = some i := rfl
theorem rowP_tup {i : List PyData} : rowP (.tuple i) = some i := rfl
theorem rowP_str {z : Str} : rowP (.str z) = none := rfl
theorem itP_lst {i : List PyData} : itP (.list i) = some (i.map .dat) := rfl
theorem itP_tup {i : List PyData} : itP (.tuple i) = some (i.map .dat) := rfl
theorem itP_str {z : Str} : itP (.str z) = some (sgnD z) := rfl
theorem ixB_str {z : Str} : ixB (.str z) = (z.length ≤ sizeLine) := rfl
theorem ixB_lst {i : List PyData} : ixB (.list i) = True := rfl
theorem ixB_tup {i : List PyData} : ixB (.tuple i) = True := rfl
theorem slP_lst {i : List PyData} {l h : Option Int} : slP (.list i) l h = some (.list (cutP i l h)) := rfl
theorem slP_tup {i : List PyData} {l h : Option Int} : slP (.tuple i) l h = some (.tuple (cutP i l h)) := rfl
theorem slP_str {z : Str} {l h : Option Int} : slP (.str z) l h = some (.str (cutS z l h)) := rfl
theorem atP_lst {i : List PyData} {n : Int} : atP (.list i) n = atI i n := rfl
theorem atP_tup {i : List PyData} {n : Int} : atP (.tuple i) n = atI i n := rfl
theorem addP_int {i j : Int} : addP (.int i) (.int j) = some (.int (i + j)) := rfl
theorem addP_str {i j : Str} : addP (.str i) (.str j) = some (.str (i ++ j)) := rfl
theorem addP_lst {i j : List PyData} : addP (.list i) (.list j) = some (.list (i ++ j)) := rfl
theorem addP_tup {i j : List PyData} : addP (.tuple i) (.tuple j) = some (.tuple (i ++ j)) := rfl
theorem addB_int {i j : Int} : addB (.int i) (.int j) = True := rfl
theorem addB_str {i j : Str} : addB (.str i) (.str j) = (i.length + j.length ≤ sizeLine) := rfl
theorem addB_lst {i j : List PyData} : addB (.list i) (.list j) = (i.length + j.length ≤ sizeLine) := rfl
theorem addB_tup {i j : List PyData} : addB (.tuple i) (.tuple j) = (i.length + j.length ≤ sizeLine) := rfl
theorem fin0 {Q : DQ} {p : PyData} {S : Os} : fin 0 Q (.dat p) S = Q (.dat p) [] := by simp [fin]
theorem eqOk_flat {p q : PyData} (h : flatP p = true) (h' : flatP q = true) : eqOk p q := .inl ⟨h, h'⟩
theorem eqOk_ss {p q : Str} : eqOk (.str p) (.str q) = True := eq_true (.inl ⟨rfl, rfl⟩)
theorem eqOk_ii {p q : Int} : eqOk (.int p) (.int q) = True := eq_true (.inl ⟨rfl, rfl⟩)
theorem eqv_ss {p q : Str} : PyData.eqv (.str p) (.str q) = (p == q) := by simp [PyData.eqv]
theorem eqv_ii {p q : Int} : PyData.eqv (.int p) (.int q) = (p == q) := by simp [PyData.eqv]
theorem atI_0 {α : Type} {xs : List α} : atI xs 0 = xs[0]? := atI_nat' (i := 0)
theorem atI_1 {α : Type} {xs : List α} : atI xs 1 = xs[1]? := atI_nat' (i := 1)
theorem atI_2 {α : Type} {xs : List α} : atI xs 2 = xs[2]? := atI_nat' (i := 2)
theorem atI_3 {α : Type} {xs : List α} : atI xs 3 = xs[3]? := atI_nat' (i := 3)
theorem atI_4 {α : Type} {xs : List α} : atI xs 4 = xs[4]? := atI_nat' (i := 4)
theorem atI_5 {α : Type} {xs : List α} : atI xs 5 = xs[5]? := atI_nat' (i := 5)
theorem atI_6 {α : Type} {xs : List α} : atI xs 6 = xs[6]? := atI_nat' (i := 6)
theorem atI_7 {α : Type} {xs : List α} : atI xs 7 = xs[7]? := atI_nat' (i := 7)
theorem cutP_f1 {α : Type} {xs : List α} : cutP xs (some 1) none = xs.drop 1 := cutP_from (n := 1)
theorem cutP_t1 {α : Type} {xs : List α} : cutP xs none (some 1) = xs.take 1 := cutP_upto (n := 1)
theorem cutP_f2 {α : Type} {xs : List α} : cutP xs (some 2) none = xs.drop 2 := cutP_from (n := 2)
theorem cutP_t2 {α : Type} {xs : List α} : cutP xs none (some 2) = xs.take 2 := cutP_upto (n := 2)
theorem cutP_f3 {α : Type} {xs : List α} : cutP xs (some 3) none = xs.drop 3 := cutP_from (n := 3)
theorem cutP_t3 {α : Type} {xs : List α} : cutP xs none (some 3) = xs.take 3 := cutP_upto (n := 3)
theorem cutP_f4 {α : Type} {xs : List α} : cutP xs (some 4) none = xs.drop 4 := cutP_from (n := 4)
theorem cutP_t4 {α : Type} {xs : List α} : cutP xs none (some 4) = xs.take 4 := cutP_upto (n := 4)
theorem cutP_f5 {α : Type} {xs : List α} : cutP xs (some 5) none = xs.drop 5 := cutP_from (n := 5)
theorem cutP_t5 {α : Type} {xs : List α} : cutP xs none (some 5) = xs.take 5 := cutP_upto (n := 5)
end Rm

set_option Elab.async false
set_option linter.all false
set_option maxRecDepth 100000
set_option maxHeartbeats 4000000
namespace Rm
open PySem PySem.Spec PyProof.Rows L2
def putD (f : Str) (v : D) : List (Str × D) → List (Str × D)
  | [] => [(f, v)]
  | (g, x) :: r => if g = f then (g, v) :: r else (g, x) :: putD f v r
section
variable {K : PySem.W.Frag} {G H : Hp} {φ : List Foot} {S : Os}
end
def dFld (C : Addr) (f : Str) (ta : DE) : DE := fun ρ S Q => ta ρ S fun x S1 => ∃ i fl d, x = .ref i ∧ S1[i]? = some (.ins C fl) ∧ fl.lookup f = some d ∧ Q d S1
def sFldD (C : Addr) (f : Str) (ta tv : DE) : DSm := fun E ρ S => tv ρ S fun y S1 => ta ρ S1 fun x S2 => ∃ i fl, x = .ref i ∧ S2[i]? = some (.ins C fl) ∧ fl.length < 1000 ∧ E.nx ρ (S2.set i (.ins C (putD f y fl)))
def dMeth (C : Addr) (m : Str) (fs : Fs) (ta : DE) (t : DA) : DE := fun ρ S Q => ta ρ S fun x S1 => ∃ i fl, x = .ref i ∧ S1[i]? = some (.ins C fl) ∧ fl.lookup m = none ∧ t ρ S1 fun ds S2 => fs (x :: ds) S2 Q
def dMake (C : Addr) (fs : Fs) (t : DA) : DE := fun ρ S Q => t ρ S fun ds S1 => fs (.ref S1.length :: ds) (S1 ++ [.ins C []]) fun d S2 => d = .dat .none ∧ (∃ o, S2[S1.length]? = some o) ∧ Q (.ref S1.length) S2
def dCallW (fs : Fs) (t : DA) : DE := fun ρ S Q => t ρ S fun ds S1 => fs ds S1 Q
section
variable {W : WX} {X : Cx} {e : Expr} {st : Stmt} {ta tv : DE} {t : DA} {C : Addr} {f m : Str} {fs : Fs}
end
end Rm

set_option Elab.async false
set_option linter.all false
set_option maxRecDepth 100000
set_option maxHeartbeats 4000000
namespace Rm
open PySem PySem.Spec PyProof.Rows L2
def finM (n : Nat) (Q : DQ) : DQ := fun d S' => ∃ m, n ≤ m ∧ m ≤ S'.length ∧ (S'.take m).all (Ob.cl m) = true ∧ d.cl m = true ∧ Q d (S'.take m)
theorem Dn.finM {K : PySem.W.Frag} {G H : Hp} {φ : List Foot} {Q : VK} {Q' : DQ} (dn : Dn K G φ H Q Q') : Dn K G φ H Q (finM φ.length Q') := by
  rintro d S' G' φ' v H' ⟨m, h1, h2, h3, h4, q⟩ e r dv
  have hl := r.len
  have ea : φ' = φ'.take m ++ φ'.drop m := (List.take_append_drop m φ').symm
  have el : (φ'.take m).length = m := by rw [List.length_take]; omega
  rw [ea] at r dv
  have r2 := r.take (by rw [el]; exact h3)
  rw [el] at r2
  refine dn _ _ _ _ _ _ q ⟨e.g, ?_, e.fr, e.gn, fun a ma na => e.pn a ?_ na⟩ r2 (dv.cl (by rw [el]; exact h4))
  · obtain ⟨ψ, hp⟩ := e.p
    refine ⟨ψ.take (m - φ.length), ?_⟩
    rw [hp, List.take_append, List.take_of_length_le h1]
  · rw [ea, zs_app]
    exact List.mem_append_left _ ma
structure DfM (K : PySem.W.Frag) (C m qual : Str) (st : Stmt) : Prop where
  ex : ∃ fd, FunD K m qual (defArgs st) (defBody st) (defScope st) [] [] (He.ma K (He.ga K C) m) fd
structure CalM (P : Program) (w : World) (K : PySem.W.Frag) (mg : Str → Option Value) (base : Heap) (k : Nat) (C m : Str) (fs : Fs) : Prop where
  ex : ∃ (fd : FuncData) (ps : List Str), FnOk P w K mg base CX0 k (He.ma K (He.ga K C) m) fd ps (upF K fs) ∧ Binds K fd ps []
section
variable {P : Program} {w : World} {K : PySem.W.Frag} {mg : Str → Option Value} {base : Heap} {C m qual : Str} {st : Stmt} {N ps : List Str} {k : Nat} {fs : Fs}
theorem DfM.calD (F : DfM K C m qual st) (S : FnScope N ps (defScope st))
    (hb : ∀ (kV doc pm : Value) (an : Option Addr) (cdv ct : Value) (us : List Value), us.length = ps.length → bindArgs (PySem.W.fnOf m qual (defArgs st) (defBody st) (defScope st) .none kV doc pm an cdv ct) ⟨us, []⟩ = pure (ps.zip us))
    (len : ∀ ds S Q, fs ds S Q → ds.length = ps.length) (t : DSm)
    (hbody : ∀ (f : Addr) (cdv : Value) (A : Around) (outer : List Env) (s : Shared) (H : Hp) (E : XK), Room k (A.deeper (envOfC qual (defScope st) s.heap.objs.size f cdv)) →
      PSs (cxOf CX0 P w K mg base N qual (defScope st) f cdv A outer s H E).nox (defBody st) (upS K W0 t))
    (hq : ∀ ds S Q, fs ds S Q → t { nx := fun _ S' => finM S.length Q (.dat .none) S', rt := finM S.length Q } (startD N.length ds) S) : CalM P w K mg base (k + 1) C m fs := by
  obtain ⟨fd, F⟩ := F.ex
  refine ⟨fd, ps, F.ok S (fun vs H Q E h => ?_) fun cdv A outer s H vs Q E hr hs => ⟨upS K W0 t, (hbody _ cdv A outer s H E hr).nox, ?_⟩, F.bindsN hb⟩
  · obtain ⟨G, φ, ds, S, Q', r, dv, dn, q⟩ := h
    rw [Paired.length dv]
    exact len ds S Q' q
  · obtain ⟨G, φ, ds, S, Q', r, dv, dn, q⟩ := hs
    have dnf := dn.finM
    rw [r.len] at dnf
    exact ⟨G, φ, _, S, { nx := fun _ S' => finM S.length Q' (.dat .none) S', rt := finM S.length Q' }, r, slots_start dv, ⟨fun ρ S' G' φ' σ' H' q' e' r' _ => dnf (.dat .none) _ _ _ _ _ q' e' r' .non, dnf, fun _ _ _ _ _ _ q' => q'.elim, fun _ _ _ _ _ _ q' => q'.elim, fun _ _ _ _ _ _ _ _ _ _ q' => q'.elim⟩, hq ds S Q' q⟩
end
section
variable {X : Cx} {C m : Str} {o e : Expr} {es : List Expr} {apos pos : Pos} {ta : DE} {t : DA} {fs : Fs} {k j : Nat}
end
end Rm

set_option Elab.async false
set_option linter.all false
set_option maxRecDepth 100000
set_option maxHeartbeats 4000000
namespace Rm
open PySem PySem.Spec PyProof.Rows L2
section
variable {X : Cx} {K : PySem.W.Frag} {e : Expr} {te to ta tb : DE} {t : DA}
def dLenSet (te : DE) : DE := fun ρ S Q => te ρ S fun x S1 => ∃ (ps : List PyData) (xs : List Str), x = .dat (.tuple ps) ∧ ps = xs.map PyData.str ∧ xs.length ≤ 100 ∧ Q (.dat (.int (kinds xs))) S1
theorem Rel.refsAt {G H : Hp} {φ : List Foot} {S : Os} {i : Nat} {v : V} {is : List Nat} (r : Rel K G φ S H) (dv : DV K G φ v (.ref i)) (h : S[i]? = some (.refs is)) :
    ∃ f vs, φ[i]? = some f ∧ v = .ref f.1 ∧ f.2 = [] ∧ H f.1 = some (.lst vs) ∧ Paired (fun v i => DV K G φ v (.ref i)) vs is := by
  obtain ⟨f, h1, rfl⟩ := dv
  obtain ⟨h2, vs, h3, h4⟩ := r.ob i f _ h1 h
  exact ⟨f, vs, h1, rfl, h2, h3, h4⟩
theorem Rel.refsPut {G H : Hp} {φ : List Foot} {S : Os} {i : Nat} {f : Foot} {o : Ob} {is' : List Nat} {vs' : List V} (r : Rel K G φ S H) (h1 : φ[i]? = some f) (h : S[i]? = some o) (ho : o ≠ .dead) (hf : f.2 = []) (hd : Paired (fun v i => DV K G φ v (.ref i)) vs' is') :
    Rel K G φ (S.set i (.refs is')) (upd H f.1 (.lst vs')) ∧ Ext G φ H G φ (upd H f.1 (.lst vs')) := by
  refine r.put h1 h ho (fun a m => upd_ne fun q => m (by rw [q]; exact List.mem_cons_self ..)) (fun a m => ?_) ⟨hf, vs', upd_same, hd⟩
  simp only [Foot.all, hf, List.mem_singleton] at m
  subst m
  rw [upd_same]
  exact fun z => nomatch z
theorem paired_app {α β : Type} {F : α → β → Prop} : ∀ {as : List α} {bs : List β} {a : α} {b : β}, Paired F as bs → F a b → Paired F (as ++ [a]) (bs ++ [b])
  | _, _, _, _, .nil, h => .cons h .nil
  | _, _, _, _, .cons h r, q => .cons h (paired_app r q)
theorem paired_drop {α β : Type} {F : α → β → Prop} : ∀ {as : List α} {bs : List β}, Paired F as bs → Paired F as.dropLast bs.dropLast
  | _, _, .nil => .nil
  | _, _, .cons h .nil => .nil
  | _, _, .cons h (.cons q r) => .cons h (paired_drop (.cons q r))
theorem paired_get {α β : Type} {F : α → β → Prop} : ∀ {as : List α} {bs : List β} {i : Nat} {b : β}, Paired F as bs → bs[i]? = some b → ∃ a, as[i]? = some a ∧ F a b
  | _, _, _, _, .nil, e => by simp at e
  | _, _, 0, _, .cons h _, e => by simp at e; subst e; exact ⟨_, rfl, h⟩
  | _, _, i + 1, b, .cons _ r, e => by
    obtain ⟨a, h1, h2⟩ := paired_get r (i := i) (b := b) (by simpa using e)
    exact ⟨a, by simpa using h1, h2⟩
def dAppendR (to te : DE) : DE := fun ρ S Q => to ρ S fun x S1 => ∃ i, x = .ref i ∧ (∃ is, S1[i]? = some (.refs is)) ∧ te ρ S1 fun y S2 => ∃ is j, S2[i]? = some (.refs is) ∧ y = .ref j ∧ is.length < sizeLine ∧ Q (.dat .none) (S2.set i (.refs (is ++ [j])))
theorem de_appendR (h : PE X e (tBM X.K "list" rAppend (up X.K to) (tCons (up X.K te) tNil))) : PE X e (up X.K (dAppendR to te)) := h.imp fun σ H Q ⟨G, φ, ρ, S, Q', r, sl, dn, q⟩ =>
  ⟨G, φ, ρ, S, _, r, sl, fun x S1 G1 φ1 v H1 q1 e1 r1 dv => by
    obtain ⟨i, rfl, ⟨ds, hd⟩, q1⟩ := q1
    obtain ⟨f, vs, g1, rfl, g2, g3, g4⟩ := r1.refsAt dv hd
    refine ⟨.inl ⟨rfl, vs, SqL.of g3⟩, G1, φ1, ρ, S1, _, r1, sl.ext e1, fun y S2 G2 φ2 u H2 q2 e2 r2 du => ?_, q1⟩
    obtain ⟨is, j, h1, rfl, h2, q2⟩ := q2
    obtain ⟨f', ws, k1, k2, k3, k4, k5⟩ := r2.refsAt (dv.ext e2) h1
    obtain ⟨r3, e3⟩ := r2.refsPut k1 h1 (fun z => nomatch z) k3 (paired_app k5 du)
    have ef : f.1 = f'.1 := by injection k2
    rw [← ef] at k4 r3 e3
    exact ⟨_, ws, u, rfl, rfl, k4, by rw [PySem.Paired.length k5]; exact h2, dn _ _ _ _ _ _ q2 ((e1.trans e2).trans e3) r3 .non⟩, q⟩
def dPopR (to : DE) : DE := fun ρ S Q => to ρ S fun x S1 => ∃ i is j, x = .ref i ∧ S1[i]? = some (.refs is) ∧ is.getLast? = some j ∧ Q (.ref j) (S1.set i (.refs is.dropLast))
theorem de_popR (h : PE X e (tBM0 X.K "list" rPop (up X.K to))) : PE X e (up X.K (dPopR to)) := h.imp fun σ H Q ⟨G, φ, ρ, S, Q', r, sl, dn, q⟩ =>
  ⟨G, φ, ρ, S, _, r, sl, fun x S1 G1 φ1 v H1 q1 e1 r1 dv => by
    obtain ⟨i, is, j, rfl, h1, h2, q1⟩ := q1
    obtain ⟨f, vs, g1, rfl, g2, g3, g4⟩ := r1.refsAt dv h1
    rw [List.getLast?_eq_getElem?] at h2
    obtain ⟨w, k1, k2⟩ := paired_get g4 h2
    obtain ⟨r3, e3⟩ := r1.refsPut g1 h1 (fun z => nomatch z) g2 (paired_drop g4)
    exact ⟨.inl ⟨rfl, vs, SqL.of g3⟩, _, vs, w, rfl, rfl, g3, by rw [PySem.Paired.length g4]; exact k1, dn _ _ _ _ _ _ q1 (e1.trans e3) r3 (DV.ext e3 k2)⟩, q⟩
def rIxR : R2D := fun x y S Q => ∃ i is k j, x = .ref i ∧ S[i]? = some (.refs is) ∧ y = .dat (.int k) ∧ atI is k = some j ∧ Q (.ref j) S
theorem od_ixR : OpD K (rIxL K) rIxR := by
  rintro G φ S H x y v u Q Q' r dx dy dn ⟨i, is, k, j, rfl, h1, rfl, h2, q⟩
  obtain ⟨f, vs, g1, rfl, g2, g3, g4⟩ := r.refsAt dx h1
  have hl := PySem.Paired.length g4
  unfold atI at h2
  cases hk : ixN is.length k with
  | none => rw [hk] at h2; cases h2
  | some n =>
    rw [hk] at h2
    obtain ⟨w, k1, k2⟩ := paired_get g4 (show is[n]? = some j from h2)
    refine ⟨_, vs, k, w, rfl, dq_int dy, SqL.of g3, ?_, dn _ _ _ _ _ _ q .refl r k2⟩
    unfold atI
    rw [hl, hk]
    exact k1
theorem de_itemR {a b : Expr} {pos : Pos} (ha : PE X a (up X.K ta)) (hb : PE X b (up X.K tb)) (hp : PlainIx b := by intro _ _; rfl) : PE X (.Subscript a b pos) (up X.K (dOp rIxR ta tb)) := de_ix ix_list od_ixR ha hb hp
def dLstR : DE := fun ρ S Q => Q (.ref S.length) (S ++ [.refs []])
end
end Rm

set_option Elab.async false
set_option linter.all false
set_option maxRecDepth 100000
set_option maxHeartbeats 4000000
namespace Rm
open PySem PySem.Spec PyProof.Rows L2
section
variable {X : Cx} {K : PySem.W.Frag} {e : Expr} {te to ta tb : DE} {t : DA}
abbrev KD := List (Str × PyData)
def dkO (kvs : KD) : Ob := .dk (kvs.map fun p => (.inr p.1, .dat p.2))
def getD' (kvs : KD) (k : Str) : Option PyData := (kvs.find? fun p => decide (p.1 = k)).map (·.2)
def putDk (kvs : KD) (k : Str) (v : PyData) : KD := if (kvs.any fun p => decide (p.1 = k)) = true then kvs.map (fun p => if p.1 = k then (p.1, v) else p) else kvs ++ [(k, v)]
def mergeD (kvs more : KD) : KD := more.foldl (fun acc p => putDk acc p.1 p.2) kvs
def cDict : RCD := fun ds S Q => ∃ (ps : List PyData) (kvs : KD), ds = [.dat (.list ps)] ∧ ps = kvs.map (fun p => .tuple [.str p.1, p.2]) ∧ Q (.ref S.length) (S ++ [dkO (mergeD [] kvs)])
def dDin (neg : Bool) (ty td : DE) : DE := fun ρ S Q => ty ρ S fun y S1 => td ρ S1 fun x S2 => ∃ k i kvs, y = .dat (.str k) ∧ x = .ref i ∧ S2[i]? = some (dkO kvs) ∧ Q (.dat (.bool (if neg then !(getD' kvs k).isSome else (getD' kvs k).isSome))) S2
def dDget (td ty : DE) : DE := fun ρ S Q => td ρ S fun x S1 => ty ρ S1 fun y S2 => ∃ k i kvs p, y = .dat (.str k) ∧ x = .ref i ∧ S2[i]? = some (dkO kvs) ∧ getD' kvs k = some p ∧ Q (.dat p) S2
end
end Rm

set_option Elab.async false
set_option linter.all false
set_option maxRecDepth 100000
set_option maxHeartbeats 4000000
namespace Rm
open PySem PySem.Spec PyProof.Rows L2
section
variable {X : Cx} {a b : Expr} {rest : List Expr} {pos : Pos} {ta tb : DE}
theorem callS_dat {fs : Fs} {ps : List PyData} {S : Os} {Q : DQ} (h : fs (ps.map .dat) [] fun d S' => S' = [] ∧ (∃ p, d = .dat p) ∧ Q d S)
    (mono : ∀ (Q1 Q2 : DQ), (∀ d S', Q1 d S' → Q2 d S') → fs (ps.map .dat) [] Q1 → fs (ps.map .dat) [] Q2) : callS fs (ps.map .dat) S Q := by
  refine ⟨fun h m => ?_, ?_⟩
  · rw [hs_dat] at m; cases m
  · rw [hs_dat, map_un]
    refine mono _ _ (fun d S' ⟨e, hp, q⟩ => ?_) h
    subst e
    exact ⟨rfl, .inl ⟨rfl, hp, q⟩⟩
end
end Rm

set_option Elab.async false
set_option linter.all false
set_option maxRecDepth 100000
set_option maxHeartbeats 4000000
namespace Rm
open PySem PySem.Spec PyProof.Rows L2
abbrev XR := Addr → List (Str × PyData) → Os → Prop
abbrev FsX := List D → Os → DQ → XR → Prop
def DnX (K : PySem.W.Frag) (G : Hp) (φ : List Foot) (H : Hp) (E : XK) (xr : XR) : Prop := ∀ C fs S' G' φ' d vs H', xr C fs S' → Ext G φ H G' φ' H' → Rel K G' φ' S' H' → G' d = some (.xd vs) → Paired (fun (p : Str × V) (q : Str × PyData) => p.1 = q.1 ∧ Dq K G' p.2 q.2) vs fs → E (.ref C) (some d) H'
def upFX (K : PySem.W.Frag) (fs : FsX) : Sp := fun vs H Q E => ∃ G φ ds S Q' xr, Rel K G φ S H ∧ Paired (DV K G φ) vs ds ∧ Dn K G φ H Q Q' ∧ DnX K G φ H E xr ∧ fs ds S Q' xr
def finX (n : Nat) (xr : XR) : Addr → List (Str × PyData) → Rh → Os → Prop := fun C fs _ S' => n ≤ S'.length ∧ (S'.take n).all (Ob.cl n) = true ∧ xr C fs (S'.take n)
def wOf (E : XK) : WX := fun cls d _ H => E cls d H
section
variable {K : PySem.W.Frag} {G G' H H' : Hp} {φ φ' ψ : List Foot} {S S' : Os}
theorem DnX.fin {E : XK} {xr : XR} (dn : DnX K G φ H E xr) : DnW K G φ H (wOf E) (finX φ.length xr) := by
  rintro C fs ρ S' G' φ' σ d vs H' ⟨hl, fl, q⟩ e r sl h1 h2
  obtain ⟨ψ, rfl⟩ := e.p
  exact dn C fs _ _ _ d vs _ q e.take (r.take fl) h1 h2
end
structure CalX (P : Program) (w : World) (K : PySem.W.Frag) (mg : Str → Option Value) (base : Heap) (k : Nat) (x : Str) (fs : FsX) : Prop where
  ex : ∃ (f : Addr) (fd : FuncData) (ps : List Str), FnOk P w K mg base (L2.CX P w) k f fd ps (upFX K fs) ∧ mg x = some (.ref f) ∧ PySem.W.keepIn K (.ref f) = true ∧ Binds K fd ps []
section
variable {P : Program} {w : World} {K : PySem.W.Frag} {mg : Str → Option Value} {base : Heap} {x : Str} {st : Stmt} {N ps : List Str} {k : Nat} {fs : FsX}
theorem Df.calX (F : Df K mg x st) (S : FnScope N ps (defScope st))
    (hb : ∀ (kV doc pm : Value) (an : Option Addr) (cdv ct : Value) (us : List Value), us.length = ps.length → bindArgs (PySem.W.fnOf x x (defArgs st) (defBody st) (defScope st) .none kV doc pm an cdv ct) ⟨us, []⟩ = pure (ps.zip us))
    (len : ∀ ds S Q xr, fs ds S Q xr → ds.length = ps.length) (t : DSm)
    (hbody : ∀ (f : Addr) (cdv : Value) (A : Around) (outer : List Env) (s : Shared) (H : Hp) (E : XK), Room k (A.deeper (envOfC x (defScope st) s.heap.objs.size f cdv)) →
      Takes (cxOf (L2.CX P w) P w K mg base N x (defScope st) f cdv A outer s H E) (wOf E) →
      PSs (cxOf (L2.CX P w) P w K mg base N x (defScope st) f cdv A outer s H E) (defBody st) (upS K (wOf E) t))
    (hq : ∀ ds S Q xr, fs ds S Q xr → t { nx := fun _ S' => fin S.length Q (.dat .none) S', rt := fin S.length Q, xr := finX S.length xr } (startD N.length ds) S) : CalX P w K mg base (k + 1) x fs := by
  obtain ⟨f, fd, F, m⟩ := F.ex
  refine ⟨f, fd, ps, F.ok S (fun vs H Q E h => ?_) fun cdv A outer s H vs Q E hr hs => ⟨upS K (wOf E) t, hbody f cdv A outer s H E hr (takes_of rfl rfl rfl rfl), ?_⟩, m, F.kp, F.bindsN hb⟩
  · obtain ⟨G, φ, ds, S, Q', xr, r, dv, dn, dx, q⟩ := h
    rw [Paired.length dv]
    exact len ds S Q' xr q
  · obtain ⟨G, φ, ds, S, Q', xr, r, dv, dn, dx, q⟩ := hs
    have dnf := dn.fin
    have dxf := dx.fin
    rw [r.len] at dnf dxf
    exact ⟨G, φ, _, S, { nx := fun _ S' => fin S.length Q' (.dat .none) S', rt := fin S.length Q', xr := finX S.length xr }, r, slots_start dv, ⟨fun ρ S' G' φ' σ' H' q' e' r' _ => dnf (.dat .none) _ _ _ _ _ q' e' r' .non, dnf, fun _ _ _ _ _ _ q' => q'.elim, fun _ _ _ _ _ _ q' => q'.elim, dxf⟩, hq ds S Q' xr q⟩
end
end Rm

set_option Elab.async false
set_option linter.all false
set_option maxRecDepth 100000
set_option maxHeartbeats 4000000
namespace Rm
open PySem PySem.Spec PyProof.Rows L2
section
variable {K : PySem.W.Frag} {G G' H H' : Hp} {φ φ' ψ : List Foot} {S S' : Os}
theorem Rel.grow {d : Addr} {o : HO} (r : Rel K G φ S H) (k : Same H H') (hp : H d = none) (hd : H' d = some o) : Rel K (upd G d o) φ S H' ∧ Ext G φ H (upd G d o) φ H' := by
  have gp : G d = none := r.sub.free hp
  have ne : ∀ a ∈ zs φ, a ≠ d := fun a m e => r.on a m (e ▸ hp)
  have gg := same_new gp o
  have st : ∀ a ∈ zs φ, H' a = H a := fun a m => by
    cases e : H a with
    | none => exact absurd e (r.on a m)
    | some u => exact k a u e
  refine ⟨⟨fun b u e => ?_, r.len, r.nd, fun a m => ?_, fun i f ob h1 h2 => ?_, fun i f ob h1 h2 h3 a m => ?_⟩, ⟨gg, ⟨[], by simp⟩, fun a u _ h => k a u h, fun a h1 h2 => ?_, fun _ h1 h2 => absurd h1 h2⟩⟩
  · by_cases h : b = d
    · subst h; rw [upd_same] at e; rw [hd]; exact e
    · rw [upd_ne h] at e; exact k _ _ (r.sub b u e)
  · rw [st a m]; exact r.on a m
  · exact ((r.ob i f ob h1 h2).mono gg ⟨[], by simp⟩).stay fun a m => st a (mem_zs h1 m)
  · rw [upd_ne (ne a (mem_zs h1 m))]; exact r.off i f ob h1 h2 h3 a m
  · by_cases h : a = d
    · subst h; exact .inl hp
    · rw [upd_ne h] at h2; exact absurd h1 h2
end
def spI (C : Addr) (ns : List Str) : Sp := fun vs H Q _ => ∃ a ws, vs = .ref a :: ws ∧ ws.length = ns.length ∧ H a = some (exo a C none) ∧ (∀ w ∈ ws, flatV w = true) ∧
  ∀ H' d, (∀ b o, b ≠ a → H b = some o → H' b = some o) → H d = none → H' a = some (exo a C (some d)) → H' d = some (exd d ((ns.zip ws).reverse)) → Q .non H'
def sRaise (C : Addr) (ns : List Str) (ta : DA) : DSm := fun E ρ S => ta ρ S fun ds S1 => ∃ ps, ds = ps.map .dat ∧ ps.length = ns.length ∧ ps.all flatP = true ∧ E.xr C ((ns.zip ps).reverse) ρ S1
structure ExC (P : Program) (w : World) (K : PySem.W.Frag) (mg : Str → Option Value) (base : Heap) (k : Nat) (x : Str) (ns : List Str) : Prop where
  ex : ∃ (fI : Addr) (fd : FuncData) (ps : List Str), OexC K (He.ga K x) ∧ PySem.W.findIn K (.ref (He.ga K x)) "__init__" = some (some (.ref fI)) ∧ PySem.W.typeIn K (.ref fI) = some (.type "function") ∧
    FnOk P w K mg base CX0 k fI fd ps (spI (He.ga K x) ns) ∧ Binds K fd ps [] ∧ mg x = some (.ref (He.ga K x)) ∧ ns.length ≤ 100
section
variable {X : Cx} {W : WX} {x : Str} {k j : Nat} {ns : List Str} {e : Expr} {es : List Expr} {p pos pos' : Pos} {ta : DA}
theorem pairs_flat {G : Hp} {K : PySem.W.Frag} {φ : List Foot} : ∀ {vs : List V} {ps : List PyData}, Paired (DV K G φ) vs (ps.map .dat) → ps.all flatP = true → (∀ v ∈ vs, flatV v = true) ∧ Paired (Dq K G) vs ps
  | [], [], _, _ => ⟨fun v (m : v ∈ ([] : List V)) => absurd m (by simp), Paired.nil⟩
  | v :: vs, q :: qs, h, f => by
    cases h with
    | cons h1 h2 =>
      simp only [List.all_cons, Bool.and_eq_true] at f
      obtain ⟨a, b⟩ := pairs_flat h2 f.2
      have h1' : Dq K G v q := h1
      refine ⟨fun u m => ?_, .cons h1' b⟩
      rcases List.mem_cons.mp m with rfl | m
      · cases h1' <;> first | rfl | exact absurd f.1 Bool.false_ne_true
      · exact a u m
  | [], _ :: _, h, _ => by cases h
  | _ :: _, [], h, _ => by cases h
theorem zip_pairs {G : Hp} {K : PySem.W.Frag} : ∀ {ns : List Str} {vs : List V} {ps : List PyData}, Paired (Dq K G) vs ps → Paired (fun (p : Str × V) (q : Str × PyData) => p.1 = q.1 ∧ Dq K G p.2 q.2) (ns.zip vs) (ns.zip ps)
  | [], _, _, _ => by simp only [List.zip_nil_left]; exact .nil
  | _ :: _, _, _, .nil => by simp only [List.zip_nil_right]; exact .nil
  | n :: ns, _, _, .cons h r => by simp only [List.zip_cons_cons]; exact .cons ⟨rfl, h⟩ (zip_pairs r)
theorem paired_imp {α β : Type} {R R' : α → β → Prop} (h : ∀ a b, R a b → R' a b) : ∀ {as : List α} {bs : List β}, Paired R as bs → Paired R' as bs
  | _, _, .nil => .nil
  | _, _, .cons a b => .cons (h _ _ a) (paired_imp h b)
theorem paired_rev {α β : Type} {R : α → β → Prop} : ∀ {as : List α} {bs : List β}, Paired R as bs → Paired R as.reverse bs.reverse
  | _, _, .nil => .nil
  | _, _, .cons a b => by
    simp only [List.reverse_cons]
    exact paired_app (paired_rev b) a
theorem ds_raise {C0 : Addr} (hC0 : C0 = He.ga X.K x) (c : ExC X.prog X.w X.K X.mg X.base k x ns) (hr : Room j X.A) (hk : k + 1 ≤ j) (hc : X.calm = true) (tk : Takes X W) (hg : Gl X x) (ha : PA X (e :: es) (upA X.K ta))
    (hdb : (x == ("__debug__" : Str)) = false := by decide) (he : starEach (e :: es) X.env = (false, eval e X.env) :: starEach es X.env := by rfl) (hpl : (backTo pos (starEach es X.env)).any (·.1) = false := by rfl) :
    PS X (.Raise (some (.Call (.Name x p) (e :: es) [] pos)) none pos') (upS X.K W (sRaise C0 ns ta)) := by
  subst hC0
  obtain ⟨fI, fd, ps, T, iC, tI, F, hb, hm, hn⟩ := c.ex
  refine (ps_raise hc tk (pmk_oex T iC tI F (hr.mono hk) hb .nil pass0 hg hm ha hdb he hpl)).imp fun E σ H ⟨G, φ, ρ, S, E', r, sl, dn, q⟩ => ?_
  refine ⟨G, φ, ρ, S, _, r, sl, fun ds S1 G1 φ1 vs H1 q1 e1 r1 pv => ?_, q⟩
  obtain ⟨ps, rfl, hl, hf, q1⟩ := q1
  obtain ⟨f1, f2⟩ := pairs_flat pv hf
  have hlen : vs.length = ns.length := by rw [Paired.length f2, hl]
  refine ⟨by omega, fun a ha => ⟨a, vs, by simp, hlen, upd_same, f1, fun H' d kp hd ea ed => ⟨rfl, d, _, ea, ed, ?_, ?_⟩⟩⟩
  · by_cases h : d = a
    · subst h; exact ha
    · rw [upd_ne h] at hd; exact hd
  · have hda : d ≠ a := fun h => by
      subst h
      rw [upd_same] at hd
      cases hd
    have hd1 : H1 d = none := by rw [upd_ne hda] at hd; exact hd
    have sm : Same H1 (upd (del H' a) d (.xd ((ns.zip vs).reverse))) := fun b o e => by
      have hbd : b ≠ d := fun h => by rw [h, hd1] at e; cases e
      have hba : b ≠ a := fun h => by rw [h, ha] at e; cases e
      rw [upd_ne hbd, del_ne hba]
      exact kp b o hba (by rw [upd_ne hba]; exact e)
    obtain ⟨r2, e2⟩ := r1.grow sm hd1 upd_same
    exact dn.xr _ _ _ _ _ _ _ d _ _ q1 (e1.trans e2) r2 (sl.ext (e1.trans e2)) upd_same (paired_rev (zip_pairs (paired_imp (fun _ _ h => h.mono e2.g) f2)))
end
end Rm

set_option Elab.async false
set_option linter.all false
set_option maxRecDepth 100000
set_option maxHeartbeats 4000000
namespace Rm
open PySem PySem.Spec PyProof.Rows L2
abbrev DEX := Rh → Os → DQ → XR → Prop
def upX (K : PySem.W.Frag) (W : WX) (t : DEX) : TE := fun σ H Q => ∃ G φ ρ S Q' xr, Rel K G φ S H ∧ Slots K G φ ρ σ ∧ Dn K G φ H Q Q' ∧ DnX K G φ H (fun cls d H' => W cls d σ H') xr ∧ t ρ S Q' xr
def callSX (fs : FsX) (ds : List D) (S : Os) (Q : DQ) (xr : XR) : Prop :=
  (∀ h ∈ hsOf ds, ∃ o, S[h]? = some o ∧ o.flat = true) ∧ fs (ds.map (D.un (hsOf ds))) ((hsOf ds).map fun h => S.getD h .dead) (fun d Sc =>
    Sc.all Ob.flat = true ∧ ((Sc.length = (hsOf ds).length ∧ (∃ p, d = .dat p) ∧ Q d (putS S (hsOf ds) Sc)) ∨ (∃ o, Sc.drop (hsOf ds).length = [o] ∧ Sc.length = (hsOf ds).length + 1 ∧ d = .ref (hsOf ds).length ∧ Q (.ref S.length) (putS S (hsOf ds) Sc ++ [o]))))
    fun C f Sc => Sc.all Ob.flat = true ∧ Sc.length = (hsOf ds).length ∧ xr C f (putS S (hsOf ds) Sc)
def dCallX (fs : FsX) (t : DA) : DEX := fun ρ S Q xr => t ρ S fun ds S1 => callSX fs ds S1 Q xr
def tCallW (W : WX) (sp : Sp) (t : TA) : TE := fun σ H Q => t σ H fun vs H1 => sp vs H1 Q fun cls d H' => W cls d σ H'
theorem DnX.ext {K : PySem.W.Frag} {G H G' H' : Hp} {φ φ' : List Foot} {E : XK} {xr : XR} (h : DnX K G φ H E xr) (e : Ext G φ H G' φ' H') : DnX K G' φ' H' E xr := fun C fs S' G2 φ2 d vs H2 q e2 r h1 h2 => h C fs S' G2 φ2 d vs H2 q (e.trans e2) r h1 h2
section
variable {X : Cx} {W : WX} {x : Str} {k j : Nat} {e : Expr} {es : List Expr} {p pos pos' : Pos} {fs : FsX} {ta : TA} {t : DA} {te : DEX} {st : Stmt}
theorem pe_callW (c : CalX X.prog X.w X.K X.mg X.base k x fs) (hr : Room j X.A) (hk : k ≤ j) (tk : Takes X W) (hg : Gl X x) (ha : PA X (e :: es) ta)
    (hdb : (x == ("__debug__" : Str)) = false := by decide) (he : starEach (e :: es) X.env = (false, eval e X.env) :: starEach es X.env := by rfl) (hpl : (backTo pos (starEach es X.env)).any (·.1) = false := by rfl) :
    PE X (.Call (.Name x p) (e :: es) [] pos) (tCallW W (upFX X.K fs) ta) := by
  obtain ⟨f, fd, ps, F, hm, kp, hb⟩ := c.ex
  refine ⟨fun pins s σ H Q I h => ?_⟩
  refine wpAny_Call_Name_kw (ld_glob I hg hm ?_ hdb)
  refine PySem.W.callWith_K (h₀ := X.base) I.ok.mod.kin kp (thn (ha.run pos pins s σ H _ I h) fun us s1 ⟨vs, H1, I1, r, q⟩ => ⟨I1.kIn, ?_⟩) he hpl
  have hl : us.length = ps.length := by rw [← r.length]; exact F.len _ _ _ _ q
  have hb' := hb s1 us I1.kIn (by simpa using hl)
  rw [List.append_nil] at hb'
  refine wpAny_call (codeAny_mono (F.run X.A X.stack s1 H1 ⟨us, []⟩ us vs Q _ (hr.mono hk) I1.env0 hb' r q) fun r s' hq => ?_)
  cases r with
  | error e => exact tk e s' (XE.of_call I1 (fun cls d H' h => h) hq)
  | ok fl =>
    cases fl with
    | ret u => exact I1.after hq
    | next => exact False.elim hq
    | brk => exact False.elim hq
    | cont => exact False.elim hq
theorem de_callX (h : PE X e (tCallW W (upFX X.K fs) (upA X.K t))) : PE X e (upX X.K W (dCallX fs t)) := h.imp fun σ H Q ⟨G, φ, ρ, S, Q', xr, r, sl, dn, dx, q⟩ =>
  ⟨G, φ, ρ, S, _, r, sl, fun ds S1 G1 φ1 vs H1 q1 e1 r1 dv => by
    obtain ⟨b, q1⟩ := q1
    refine ⟨G1, _, _, _, _, _, r1.sel (hs_nodup _) b, un_dv r1 b (fun d h => h) dv, fun d Sc G2 φ2 v H2 q2 e2 r2 dv2 => ?_, fun C f Sc G2 φ2 d vs H2 q2 e2 r2 h1 h2 => ?_, q1⟩
    · obtain ⟨fl, q2⟩ := q2
      obtain ⟨ψ, rfl⟩ := e2.p
      rcases q2 with ⟨hl, ⟨p, rfl⟩, q2⟩ | ⟨o, ho, hl, rfl, q2⟩
      · obtain ⟨r3, e3⟩ := r1.back (hs_nodup _) b fl (by omega) e2 r2
        have z : ψ = [] := by
          have := r2.len
          simp at this
          exact List.length_eq_zero_iff.mp (by omega)
        subst z
        have d0 : Sc.drop (hsOf ds).length = [] := List.drop_eq_nil_of_le (by omega)
        rw [d0, List.append_nil, List.append_nil] at r3
        rw [List.append_nil] at e3
        exact dn _ _ _ _ _ _ q2 (e1.trans e3) r3 dv2
      · obtain ⟨r3, e3⟩ := r1.back (hs_nodup _) b fl (by omega) e2 r2
        rw [ho] at r3
        refine dn _ _ _ _ _ _ q2 (e1.trans e3) r3 ?_
        obtain ⟨f, h1, rfl⟩ := dv2
        refine ⟨f, ?_, rfl⟩
        rw [List.getElem?_append_right (by simp)] at h1
        rw [← r1.len, List.getElem?_append_right (Nat.le_refl _)]
        simpa using h1
    · obtain ⟨fl, hl, q2⟩ := q2
      obtain ⟨ψ, rfl⟩ := e2.p
      obtain ⟨r3, e3⟩ := r1.back (hs_nodup _) b fl (by omega) e2 r2
      have z : ψ = [] := by
        have := r2.len
        simp at this
        exact List.length_eq_zero_iff.mp (by omega)
      subst z
      have d0 : Sc.drop (hsOf ds).length = [] := List.drop_eq_nil_of_le (by omega)
      rw [d0, List.append_nil, List.append_nil] at r3
      rw [List.append_nil] at e3
      exact dx _ _ _ _ _ _ _ _ q2 (e1.trans e3) r3 h1 h2, q⟩
def sAsgX (te : DEX) (g : DGt) : DSm := fun E ρ S => te ρ S (fun d S1 => g d ρ S1 E.nx) fun C f S1 => E.xr C f ρ S1
def sDropX (te : DEX) : DSm := fun E ρ S => te ρ S (fun _ S1 => E.nx ρ S1) fun C f S1 => E.xr C f ρ S1
def sRetX (te : DEX) : DSm := fun E ρ S => te ρ S E.rt fun C f S1 => E.xr C f ρ S1
end
def dXf (a d : Addr) (C : Addr) (f : Str) (te : DE) : DE := fun ρ S Q => te ρ S fun x S1 => ∃ fs p, x = .exc a d C fs ∧ fs.lookup f = some p ∧ Q (.dat p) S1
def sTry (cs : List Addr) (i : Nat) (tB : DSm) (tS : Addr → Addr → Addr → DSm) : DSm := fun E ρ S => tB { E with xr := fun C fs ρ1 S1 => C ∈ cs ∧ ∀ a d, tS a d C { nx := fun ρ2 S2 => E.nx (ρ2.set i none) S2, rt := E.rt, bk := fun ρ2 S2 => E.bk (ρ2.set i none) S2, ct := fun ρ2 S2 => E.ct (ρ2.set i none) S2 } (ρ1.set i (some (.exc a d C fs))) S1 } ρ S
theorem lookup_pairs {G : Hp} {K : PySem.W.Frag} {f : Str} {q : PyData} : ∀ {vs : List (Str × V)} {fs : List (Str × PyData)}, Paired (fun (p : Str × V) (q : Str × PyData) => p.1 = q.1 ∧ Dq K G p.2 q.2) vs fs → fs.lookup f = some q → ∃ v, vs.lookup f = some v ∧ Dq K G v q
  | _, _, .nil, h => by simp at h
  | _, _, .cons (a := a) (b := b) h r, e => by
    obtain ⟨n, v⟩ := a
    obtain ⟨m, p⟩ := b
    obtain ⟨h1, h2⟩ := h
    dsimp only at h1 h2
    subst h1
    simp only [List.lookup_cons] at e ⊢
    cases hf : f == n with
    | true => rw [hf] at e; cases e; exact ⟨v, rfl, h2⟩
    | false => rw [hf] at e; exact lookup_pairs r e
section
variable {X : Cx} {x n f : Str} {c : Value} {i : Nat} {body suite : List Stmt} {b₀ : Stmt} {np pos pos' : Pos} {tB : DSm} {tS : Addr → Addr → Addr → DSm} {Wout : WX} {cs : List Addr}
end
end Rm

set_option Elab.async false
set_option linter.all false
set_option maxRecDepth 100000
set_option maxHeartbeats 4000000
namespace Rm
open PySem PySem.Spec PyProof.Rows L2
section
variable {K : PySem.W.Frag} {G H H' : Hp} {φ : List Foot} {S : Os}
theorem Rel.putG {i : Nat} {f : Foot} {ob ob' : Ob} (r : Rel K G φ S H) (h1 : φ[i]? = some f) (h2 : S[i]? = some ob) (hl : ob ≠ .dead) (kp : ∀ a o, a ∉ f.all → H a = some o → H' a = some o) (on : ∀ a ∈ f.all, H' a ≠ none) (hob : ObR K G φ f H' ob') :
    Rel K G φ (S.set i ob') H' ∧ Ext G φ H G φ H' := by
  have sep : ∀ (j : Nat) g, φ[j]? = some g → j ≠ i → ∀ a ∈ g.all, H' a = H a := fun j g hj n a m => by
    cases e : H a with
    | none => exact absurd e (r.on a (mem_zs hj m))
    | some o => exact kp a o (fun m' => n (zs_inj r.nd hj h1 m m')) e
  refine ⟨⟨fun b u e => ?_, by simp [r.len], r.nd, fun a m => ?_, fun j g o hj ho => ?_, fun j g o hj ho hd a m => ?_⟩, ⟨.refl _, ⟨[], by simp⟩, fun a u n h => ?_, fun a h1 h2 => absurd h1 h2, fun _ h1 h2 => absurd h1 h2⟩⟩
  · exact kp b u (fun m => by rw [r.off i f ob h1 h2 hl b m] at e; cases e) (r.sub b u e)
  · by_cases h : a ∈ f.all
    · exact on a h
    · cases e : H a with
      | none => exact absurd e (r.on a m)
      | some o => rw [kp a o h e]; exact fun z => nomatch z
  · by_cases h : j = i
    · subst h
      rw [h1] at hj; cases hj
      have : j < S.length := (List.getElem?_eq_some_iff.mp h2).1
      rw [List.getElem?_set_self this] at ho
      cases ho
      exact hob
    · rw [List.getElem?_set_ne (Ne.symm h)] at ho
      exact (r.ob j g o hj ho).stay (sep j g hj h)
  · by_cases h : j = i
    · subst h
      rw [h1] at hj; cases hj
      exact r.off j f ob h1 h2 hl a m
    · rw [List.getElem?_set_ne (Ne.symm h)] at ho
      exact r.off j g o hj ho hd a m
  · exact kp a u (fun m => n (mem_zs h1 m)) h
end
def sDraw : Fs := fun ds S Q => ∃ (b : Nat) (n : Int), ds = [.ref 0, .dat (.int n)] ∧ S = [.spr (b + 1)] ∧ 0 < n ∧ n < 1073741824 ∧ ∀ i : Nat, (i : Int) < n → Q (.dat (.int (i : Nat))) [.spr b]
theorem draw_up {K : PySem.W.Frag} {vs : List V} {H : Hp} {Q : VK} {E : XK} (h : upF K sDraw vs H Q E) : spDraw vs H Q E := by
  obtain ⟨G, φ, ds, S, Q', r, dv, dn, b, n, rfl, rfl, n0, n1, q⟩ := h
  obtain ⟨v, u, rfl, ⟨f, hf, rfl⟩, du⟩ := pair2 dv
  obtain rfl := dq_int du
  obtain ⟨sl, c, e1, hk, hc⟩ := r.ob 0 f _ hf rfl
  refine ⟨f.1, sl, c, n, rfl, hk, by omega, n0, n1, fun i H' i0 i1 hk' kp => ?_⟩
  have all : f.all = [f.1, sl] := by unfold Foot.all; rw [e1]
  obtain ⟨r2, e2⟩ := r.putG (H' := H') (ob' := .spr b) hf rfl (fun z => nomatch z) (fun a o na e => by
    rw [all] at na
    simp at na
    exact kp a o na.1 na.2 e) (fun a ha => by
    rw [all] at ha
    obtain ⟨_, _, _, _, g1, g2, _⟩ := hk'
    simp at ha
    rcases ha with rfl | rfl
    · rw [g1]; exact fun z => nomatch z
    · rw [g2]; exact fun z => nomatch z) ⟨sl, c + 1, e1, hk', by omega⟩
  obtain ⟨k, rfl⟩ : ∃ k : Nat, i = (k : Int) := ⟨i.toNat, by omega⟩
  exact dn _ _ _ _ _ _ (q k i1) e2 r2 (.int _)
theorem rel_spring {K : PySem.W.Frag} {st sl : Addr} {H : Hp} (hk : Sk st sl 0 H) : Rel K (fun _ => none) [(st, [sl])] [.spr 1000000] H := by
  obtain ⟨ne, r, m, ns, g1, g2, q⟩ := hk
  refine ⟨fun b o e => (by cases e), rfl, ?_, fun a ha => ?_, fun i f o hf ho => ?_, fun i f o hf ho _ a ha => rfl⟩
  · show [st, sl].Nodup
    simpa using ne
  · have : a ∈ [st, sl] := ha
    simp at this
    rcases this with rfl | rfl
    · rw [g1]; exact fun z => nomatch z
    · rw [g2]; exact fun z => nomatch z
  · cases i with
    | zero =>
      simp at hf ho
      subst hf ho
      exact ⟨sl, 0, rfl, ⟨ne, r, m, ns, g1, g2, q⟩, Nat.le_refl _⟩
    | succ i => simp at hf
end Rm

set_option Elab.async false
set_option linter.all false
set_option maxRecDepth 100000
set_option maxHeartbeats 4000000
namespace Rm
open PySem PySem.Spec PyProof.Rows L2
def Fs.Mono (fs : Fs) : Prop := ∀ ds S (Q Q' : DQ), (∀ d S', Q d S' → Q' d S') → fs ds S Q → fs ds S Q'
theorem hs_ref {h : Nat} (ps : List PyData) : hsOf (.ref h :: ps.map .dat) = [h] := by simp [hsOf, hs_dat]
theorem callS_1 {fs : Fs} {h : Nat} {o : Ob} {ps : List PyData} {S : Os} {Q : DQ} (m : fs.Mono) (hS : S[h]? = some o) (fl : o.flat = true)
    (hf : fs (.ref 0 :: ps.map .dat) [o] fun d Sc => ∃ p o', d = .dat p ∧ Sc = [o'] ∧ o'.flat = true ∧ Q (.dat p) (S.set h o')) : callS fs (.ref h :: ps.map .dat) S Q := by
  refine ⟨fun k hk => ?_, ?_⟩
  · rw [hs_ref, List.mem_singleton] at hk
    rw [hk]
    exact ⟨o, hS, fl⟩
  · rw [hs_ref]
    have e1 : (D.ref h :: ps.map D.dat).map (D.un [h]) = .ref 0 :: ps.map .dat := by rw [List.map_cons, map_un]; simp [D.un]
    have e2 : ([h].map fun h => S.getD h .dead) = [o] := by simp [List.getD, hS]
    rw [e1, e2]
    refine m _ _ _ _ ?_ hf
    rintro d Sc ⟨p, o', rfl, rfl, f', q⟩
    exact ⟨by simp [f'], .inl ⟨rfl, ⟨p, rfl⟩, q⟩⟩
theorem sDraw_mono : sDraw.Mono := fun _ _ _ _ h ⟨b, n, h1, h2, h3, h4, q⟩ => ⟨b, n, h1, h2, h3, h4, fun i hi => h _ _ (q i hi)⟩
theorem call_draw {h b : Nat} {n : Int} {S : Os} {Q : DQ} (hS : S[h]? = some (.spr (b + 1))) (n0 : 0 < n) (n1 : n < 1073741824) (q : ∀ i : Nat, (i : Int) < n → Q (.dat (.int (i : Nat))) (S.set h (.spr b))) :
    callS sDraw [.ref h, .dat (.int n)] S Q :=
  callS_1 (ps := [.int n]) sDraw_mono hS rfl ⟨b, n, rfl, rfl, n0, n1, fun i hi => ⟨_, _, rfl, rfl, rfl, q i hi⟩⟩
def itemsP : PyData → Option (List PyData)
  | .list ds => some ds
  | .tuple ds => some ds
  | .str z => some (z.cps.toList.map fun c => .str ⟨#[c]⟩)
  | _ => none
def sPick : Fs := fun ds S Q => ∃ (b : Nat) (p : PyData) (xs : List PyData), ds = [.ref 0, .dat p] ∧ S = [.spr (b + 1)] ∧ itemsP p = some xs ∧ xs ≠ [] ∧ xs.length ≤ 1000000 ∧ ∀ x ∈ xs, Q (.dat x) [.spr b]
theorem sPick_mono : sPick.Mono := fun _ _ _ _ h ⟨b, p, xs, h1, h2, h3, h4, h5, q⟩ => ⟨b, p, xs, h1, h2, h3, h4, h5, fun x hx => h _ _ (q x hx)⟩
theorem call_pick {h b : Nat} {p : PyData} {xs : List PyData} {S : Os} {Q : DQ} (hS : S[h]? = some (.spr (b + 1))) (hp : itemsP p = some xs) (h0 : xs ≠ []) (h1 : xs.length ≤ 1000000) (q : ∀ x ∈ xs, Q (.dat x) (S.set h (.spr b))) :
    callS sPick [.ref h, .dat p] S Q :=
  callS_1 (ps := [p]) sPick_mono hS rfl ⟨b, p, xs, rfl, rfl, hp, h0, h1, fun x hx => ⟨_, _, rfl, rfl, rfl, q x hx⟩⟩
theorem itemsP_at {p : PyData} {xs : List PyData} (hp : itemsP p = some xs) {i : Nat} (hi : i < xs.length) : ∃ x, x ∈ xs ∧ atP p (i : Nat) = some x := by
  refine ⟨xs[i], List.getElem_mem hi, ?_⟩
  cases p with
  | list ds => cases hp; rw [atP_lst, atI_nat']; exact List.getElem?_eq_getElem hi
  | tuple ds => cases hp; rw [atP_tup, atI_nat']; exact List.getElem?_eq_getElem hi
  | str z =>
    cases hp
    simp only [atP, atI_nat']
    simp at hi
    rw [List.getElem?_eq_getElem (by simpa using hi)]
    simp
  | _ => cases hp
theorem itemsP_len {p : PyData} {xs : List PyData} (hp : itemsP p = some xs) : lenP p = some xs.length := by
  cases p with
  | list ds => cases hp; rfl
  | tuple ds => cases hp; rfl
  | str z => cases hp; simp [lenP, Str.length]
  | _ => cases hp
theorem itemsP_ixB {p : PyData} {xs : List PyData} (hp : itemsP p = some xs) (h : xs.length ≤ 1000000) : ixB p := by
  cases p with
  | str z =>
    cases hp
    simp at h
    exact Nat.le_trans (show z.length ≤ 1000000 from h) (by decide)
  | _ => trivial
theorem set_self {S : Os} {h : Nat} {o : Ob} (e : S[h]? = some o) : S.set h o = S := by
  apply List.ext_getElem?
  intro j
  by_cases q : h = j
  · subst q
    rw [List.getElem?_set_self (List.getElem?_eq_some_iff.mp e).1, e]
  · rw [List.getElem?_set_ne q]
theorem set_get {S : Os} {h : Nat} {o o' : Ob} (e : S[h]? = some o) : (S.set h o')[h]? = some o' := List.getElem?_set_self (List.getElem?_eq_some_iff.mp e).1
theorem lcL_draws {te : DE} {j h : Nat} {ρ : Rh} {P : PyData → Prop} : ∀ {xs : List D} {S : Os} {b : Nat} {Q : List PyData → Os → Prop},
    (∀ x ∈ xs, ∀ (S : Os) (b : Nat) (R : DQ), S[h]? = some (.spr (b + 1)) → (∀ p, P p → R (.dat p) (S.set h (.spr b))) → te (ρ.set j (some x)) S R) → S[h]? = some (.spr (b + xs.length)) →
    (∀ ys : List PyData, ys.length = xs.length → (∀ y ∈ ys, P y) → Q ys (S.set h (.spr b))) → lcL (.one j) dYes te ρ xs S Q
  | [], S, b, Q, _, hS, q => by
    have := q [] rfl (by simp)
    rw [show S.set h (.spr b) = S from set_self hS] at this
    exact this
  | x :: xs, S, b, Q, hte, hS, q => by
    have hS' : S[h]? = some (.spr ((b + xs.length) + 1)) := by rw [hS]; simp [Nat.add_assoc]
    suffices te (ρ.set j (some x)) S fun y S4 => ∃ p, y = .dat p ∧ lcL (.one j) dYes te ρ xs S4 fun ys S5 => Q (p :: ys) S5 by
      simp only [lcL, Tg.put, dYes, if_true]
      exact this
    refine hte x (List.mem_cons_self ..) S _ _ hS' fun p hp => ⟨p, rfl, ?_⟩
    refine lcL_draws (b := b) (fun y hy => hte y (List.mem_cons_of_mem _ hy)) (set_get hS') fun ys hl hy => ?_
    rw [List.set_set]
    exact q (p :: ys) (by simp [hl]) fun y hm => by
      rcases List.mem_cons.mp hm with rfl | hm
      · exact hp
      · exact hy y hm
theorem ranD_len {lo : Int} {n : Nat} : (ranD lo n).length = n := by simp [ranD]
end Rm

set_option Elab.async false
set_option linter.all false
set_option maxRecDepth 100000
set_option maxHeartbeats 4000000
namespace Rm
open PySem PySem.Spec PyProof.Rows L2
theorem fin1_s {Q : DQ} {p : PyData} {b : Nat} : fin 1 Q (.dat p) [.spr b] = Q (.dat p) [.spr b] := propext ⟨fun h => h.2.2, fun h => ⟨Nat.le_refl _, rfl, h⟩⟩
theorem fin2_sl {Q : DQ} {p : PyData} {b : Nat} {L : List PyData} : fin 2 Q (.dat p) [.spr b, .lst L] = Q (.dat p) [.spr b, .lst L] := propext ⟨fun h => h.2.2, fun h => ⟨Nat.le_refl _, rfl, h⟩⟩
theorem call_draw' {h c : Nat} {n : Int} {S : Os} {Q : DQ} (hS : S[h]? = some (.spr c)) (hc : 1 ≤ c) (n0 : 0 < n) (n1 : n < 1073741824) (q : ∀ i : Nat, (i : Int) < n → Q (.dat (.int (i : Nat))) (S.set h (.spr (c - 1)))) :
    callS sDraw [.ref h, .dat (.int n)] S Q := by
  obtain ⟨b, rfl⟩ : ∃ b, c = b + 1 := ⟨c - 1, by omega⟩
  exact call_draw hS n0 n1 q
theorem call_pick' {h c : Nat} {p : PyData} {xs : List PyData} {S : Os} {Q : DQ} (hS : S[h]? = some (.spr c)) (hc : 1 ≤ c) (hp : itemsP p = some xs) (h0 : xs ≠ []) (h1 : xs.length ≤ 1000000) (q : ∀ x ∈ xs, Q (.dat x) (S.set h (.spr (c - 1)))) :
    callS sPick [.ref h, .dat p] S Q := by
  obtain ⟨b, rfl⟩ : ∃ b, c = b + 1 := ⟨c - 1, by omega⟩
  exact call_pick hS hp h0 h1 q
theorem lcL_draws' {te : DE} {j h : Nat} {ρ : Rh} {P : PyData → Prop} {xs : List D} {S : Os} {c : Nat} {Q : List PyData → Os → Prop}
    (hS : S[h]? = some (.spr c)) (hc : xs.length ≤ c)
    (hte : ∀ x ∈ xs, ∀ (S : Os) (b : Nat) (R : DQ), S[h]? = some (.spr (b + 1)) → (∀ p, P p → R (.dat p) (S.set h (.spr b))) → te (ρ.set j (some x)) S R)
    (q : ∀ ys : List PyData, ys.length = xs.length → (∀ y ∈ ys, P y) → Q ys (S.set h (.spr (c - xs.length)))) : lcL (.one j) dYes te ρ xs S Q := by
  obtain ⟨b, rfl⟩ : ∃ b, c = b + xs.length := ⟨c - xs.length, by omega⟩
  refine lcL_draws hte hS fun ys h1 h2 => ?_
  have := q ys h1 h2
  rwa [Nat.add_sub_cancel] at this
end Rm

set_option Elab.async false
set_option linter.all false
set_option maxRecDepth 100000
set_option maxHeartbeats 4000000
namespace PySem
open Sem (wp)
def LsvAt (h : Heap) (a : Addr) (xs : List Value) : Prop := ∃ m, h.get? a = some { cls := .type "list", dict := none, data := .seq xs.toArray m, slots := #[] }
theorem LsvAt.at {h h' : Heap} {a : Addr} {xs : List Value} (x : LsvAt h a xs) (k : ∀ o, h.get? a = some o → h'.get? a = some o) : LsvAt h' a xs := let ⟨m, e⟩ := x; ⟨m, k _ e⟩
section
variable {prog : Program} {w : World} {A : Around} {R : Result → Shared → Prop} {I : Addr} {fp wr : List Addr} {n : Nat} {P : Nat → Value → Prop} {St : Nat → Heap → Prop}
end
end PySem
namespace Rm
open PySem PySem.Spec PyProof.Rows L2
section
variable {X : Cx}
end
def listsP : List PyData → Option (List (List PyData))
  | [] => some []
  | .list ds :: r => (listsP r).map (ds :: ·)
  | _ :: _ => none
def cSumL : RCD := fun ds S Q => ∃ ps acc xss, ds = [.dat (.list ps), .dat (.list acc)] ∧ listsP ps = some xss ∧ acc.length + xss.flatten.length ≤ sizeLine ∧ Q (.dat (.list (acc ++ xss.flatten))) S
def cSumLO : RCD := fun ds S Q => ∃ ps acc xss, ds = [.dat (.list ps), .dat (.list acc)] ∧ listsP ps = some xss ∧ acc.length + xss.flatten.length ≤ sizeLine ∧ ps ≠ [] ∧ Q (.ref S.length) (S ++ [.lst (acc ++ xss.flatten)])
end Rm

set_option Elab.async false
set_option linter.all false
set_option maxRecDepth 100000
set_option maxHeartbeats 4000000
namespace Rm
open PySem PySem.Spec PyProof.Rows L2
section
variable {X : Cx} {K : PySem.W.Frag} {e : Expr} {te to ta tb : DE} {t : DA}
def dPopI (to te : DE) : DE := fun ρ S Q => to ρ S fun x S1 => ∃ i, x = .ref i ∧ (∃ ds, S1[i]? = some (.lst ds)) ∧ te ρ S1 fun y S2 => ∃ (ds : List PyData) (k : Nat) (p : PyData), S2[i]? = some (.lst ds) ∧ y = .dat (.int (k : Nat)) ∧ ds.length ≤ 1000000 ∧ ds[k]? = some p ∧ Q (.dat p) (S2.set i (.lst (ds.eraseIdx k)))
theorem DqAll.erase {G : Hp} : ∀ {ds : List PyData} {vs : List V} (n : Nat), DqAll K G vs ds → DqAll K G (vs.eraseIdx n) (ds.eraseIdx n)
  | _, _, _, .nil => .nil
  | _, _, 0, .cons _ r => r
  | _, _, n + 1, .cons q r => .cons q (r.erase n)
def cLenR : RCD := fun ds S Q => ∃ i is, ds = [.ref i] ∧ S[i]? = some (.refs is) ∧ Q (.dat (.int is.length)) S
theorem cd_lenR : CallD K (fun xs H Q => ∃ x n, xs = [x] ∧ LenV K x H n ∧ Q (.int n) H) cLenR := by
  rintro G φ S H ds vs Q Q' r dvs dn ⟨i, is, rfl, h1, q⟩
  obtain ⟨v, rfl, f, h3, rfl⟩ := pair1 dvs
  obtain ⟨h4, vs, h5, h6⟩ := r.ob i f _ h3 h1
  exact ⟨_, is.length, rfl, .inl ⟨vs, SqL.of h5, (PySem.Paired.length h6).symm⟩, dn _ _ _ _ _ _ q .refl r (.int _)⟩
def rAddO : R2D := fun x y S Q => ∃ ds es, rd S x = some (.list ds) ∧ rd S y = some (.list es) ∧ ds.length + es.length ≤ sizeLine ∧ Q (.ref S.length) (S ++ [.lst (ds ++ es)])
end
end Rm

set_option Elab.async false
set_option linter.all false
set_option maxRecDepth 100000
set_option maxHeartbeats 4000000
namespace Rm
open PySem PySem.Spec PyProof.Rows L2
def dDispL : List (Str × DE) → Rh → Os → (KD → Os → Prop) → Prop
  | [], _, S, Q => Q [] S
  | p :: r, ρ, S, Q => p.2 ρ S fun x S1 => ∃ q, x = .dat q ∧ dDispL r ρ S1 fun kvs S2 => Q ((p.1, q) :: kvs) S2
def dDisp (l : List (Str × DE)) : DE := fun ρ S Q => dDispL l ρ S fun kvs S1 => Q (.ref S1.length) (S1 ++ [dkO (mergeD [] kvs)])
section
variable {X : Cx}
end
end Rm

set_option Elab.async false
set_option linter.all false
set_option maxRecDepth 100000
set_option maxHeartbeats 4000000
namespace Rm
open PySem PySem.Spec PyProof.Rows L2
def strQ : PyData → Option Str
  | .int i => some (toString i)
  | .str z => some z
  | _ => none
def strB : PyData → Prop
  | .int i => i.natAbs.log2 < 1920
  | _ => True
theorem strQ_int {i : Int} : strQ (.int i) = some (Str.ofString (toString i)) := rfl
theorem strQ_str {z : Str} : strQ (.str z) = some z := rfl
theorem strB_int {i : Int} : strB (.int i) = (i.natAbs.log2 < 1920) := rfl
theorem strB_str {z : Str} : strB (.str z) = True := rfl
def cStr2 : RCD := fun ds S Q => ∃ p z, ds = [.dat p] ∧ strQ p = some z ∧ strB p ∧ Q (.dat (.str z)) S
def str2R : List V → Hp → VK → Prop := fun xs H Q => (∃ i : Int, xs = [.int i] ∧ i.natAbs.log2 < 1920 ∧ Q (.str (toString i)) H) ∨ ∃ a, xs = [.str a] ∧ Q (.str a) H
theorem cr_str2 {X : Cx} : CallR X (.type "str") str2R := callR_or call_str_int SkE.call_str_str
theorem cd_str2 {K : PySem.W.Frag} : CallD K str2R cStr2 := by
  rintro G φ S H ds vs Q Q' r dvs dn ⟨p, z, rfl, h1, h2, q⟩
  obtain ⟨v, rfl, dv⟩ := pair1 dvs
  cases p with
  | int i => cases h1; rw [dq_int dv]; exact .inl ⟨i, rfl, h2, dn _ _ _ _ _ _ q .refl r (.str _)⟩
  | str a => cases h1; rw [dq_str dv]; exact .inr ⟨_, rfl, dn _ _ _ _ _ _ q .refl r (.str _)⟩
  | _ => cases h1
end Rm

set_option Elab.async false
set_option linter.all false
set_option maxRecDepth 100000
set_option maxHeartbeats 4000000
namespace Rm
open PySem PySem.Spec PyProof.Rows L2 RZ
section
variable {prog : Program} {w : World} {A : Around} {E : Value → Shared → Prop} {s : Shared}
end
def iZpM (ta : DA) : DI := fun ρ S Q => ta ρ S fun ds S1 => ∃ xs ys, ds = [.dat (.list xs), .dat (.tuple ys)] ∧ Q (zipD xs ys) S1
end Rm

set_option Elab.async false
set_option linter.all false
set_option maxRecDepth 100000
set_option maxHeartbeats 4000000
namespace Rm
open PySem PySem.Spec PyProof.Rows L2
abbrev DAX := Rh → Os → (List D → Os → Prop) → XR → Prop
def xE (t : DE) : DEX := fun ρ S Q _ => t ρ S Q
def xA (t : DA) : DAX := fun ρ S Q _ => t ρ S Q
def xF (f : Fs) : FsX := fun ds S Q _ => f ds S Q
def xCons (te : DEX) (t : DAX) : DAX := fun ρ S Q xr => te ρ S (fun d S1 => t ρ S1 (fun ds S2 => Q (d :: ds) S2) xr) xr
def xTup (t : DAX) : DEX := fun ρ S Q xr => t ρ S (fun ds S1 => ∃ ps, dats ds = some ps ∧ ps.length ≤ sizeLine ∧ Q (.dat (.tuple ps)) S1) xr
def xCB (r : RCD) (t : DAX) : DEX := fun ρ S Q xr => t ρ S (fun ds S1 => r ds S1 Q) xr
def xMeth (C : Addr) (m : Str) (fs : FsX) (ta : DEX) (t : DAX) : DEX := fun ρ S Q xr => ta ρ S (fun x S1 => ∃ i fl, x = .ref i ∧ S1[i]? = some (.ins C fl) ∧ fl.lookup m = none ∧ t ρ S1 (fun ds S2 => fs (x :: ds) S2 Q xr) xr) xr
section
variable {X : Cx} {W : WX} {e a b c o : Expr} {es : List Expr} {te ta : DEX} {t : DAX} {pos apos : Pos}
end
structure CalMX (P : Program) (w : World) (K : PySem.W.Frag) (mg : Str → Option Value) (base : Heap) (k : Nat) (C m : Str) (fs : FsX) : Prop where
  ex : ∃ (fd : FuncData) (ps : List Str), FnOk P w K mg base (L2.CX P w) k (He.ma K (He.ga K C) m) fd ps (upFX K fs) ∧ Binds K fd ps []
def finMX (n : Nat) (xr : XR) : Addr → List (Str × PyData) → Rh → Os → Prop := fun C fs _ S' => ∃ m, n ≤ m ∧ m ≤ S'.length ∧ (S'.take m).all (Ob.cl m) = true ∧ xr C fs (S'.take m)
theorem DnX.finMX {K : PySem.W.Frag} {G H : Hp} {φ : List Foot} {E : XK} {xr : XR} (dn : DnX K G φ H E xr) : DnW K G φ H (wOf E) (Rm.finMX φ.length xr) := by
  rintro C fs ρ S' G' φ' σ d vs H' ⟨m, hm1, hm2, fl, q⟩ e r sl h1 h2
  obtain ⟨ψ, rfl⟩ := e.p
  have hl := r.len
  have hm : m = (φ ++ ψ.take (m - φ.length)).length := by
    rw [List.length_append] at hl
    rw [List.length_append, List.length_take]
    omega
  have e2 : φ ++ ψ = (φ ++ ψ.take (m - φ.length)) ++ ψ.drop (m - φ.length) := by rw [List.append_assoc, List.take_append_drop]
  rw [e2] at r
  have fl2 : (S'.take (φ ++ ψ.take (m - φ.length)).length).all (Ob.cl (φ ++ ψ.take (m - φ.length)).length) = true := by rw [← hm]; exact fl
  have r3 := r.take fl2
  rw [← hm] at r3
  refine dn C fs _ _ _ d vs _ q ⟨e.g, ⟨_, rfl⟩, e.fr, e.gn, fun a ma na => e.pn a ?_ na⟩ r3 h1 h2
  rw [e2, zs_app]
  exact List.mem_append_left _ ma
section
variable {P : Program} {w : World} {K : PySem.W.Frag} {mg : Str → Option Value} {base : Heap} {C m qual : Str} {st : Stmt} {N ps : List Str} {k : Nat} {fs : FsX}
theorem DfM.calX (F : DfM K C m qual st) (S : FnScope N ps (defScope st))
    (hb : ∀ (kV doc pm : Value) (an : Option Addr) (cdv ct : Value) (us : List Value), us.length = ps.length → bindArgs (PySem.W.fnOf m qual (defArgs st) (defBody st) (defScope st) .none kV doc pm an cdv ct) ⟨us, []⟩ = pure (ps.zip us))
    (len : ∀ ds S Q xr, fs ds S Q xr → ds.length = ps.length) (t : DSm)
    (hbody : ∀ (f : Addr) (cdv : Value) (A : Around) (outer : List Env) (s : Shared) (H : Hp) (E : XK), Room k (A.deeper (envOfC qual (defScope st) s.heap.objs.size f cdv)) →
      Takes (cxOf (L2.CX P w) P w K mg base N qual (defScope st) f cdv A outer s H E) (wOf E) →
      PSs (cxOf (L2.CX P w) P w K mg base N qual (defScope st) f cdv A outer s H E) (defBody st) (upS K (wOf E) t))
    (hq : ∀ ds S Q xr, fs ds S Q xr → t { nx := fun _ S' => finM S.length Q (.dat .none) S', rt := finM S.length Q, xr := finMX S.length xr } (startD N.length ds) S) : CalMX P w K mg base (k + 1) C m fs := by
  obtain ⟨fd, F⟩ := F.ex
  refine ⟨fd, ps, F.ok S (fun vs H Q E h => ?_) fun cdv A outer s H vs Q E hr hs => ⟨upS K (wOf E) t, hbody _ cdv A outer s H E hr (takes_of rfl rfl rfl rfl), ?_⟩, F.bindsN hb⟩
  · obtain ⟨G, φ, ds, S, Q', xr, r, dv, dn, dx, q⟩ := h
    rw [Paired.length dv]
    exact len ds S Q' xr q
  · obtain ⟨G, φ, ds, S, Q', xr, r, dv, dn, dx, q⟩ := hs
    have dnf := dn.finM
    have dxf := dx.finMX
    rw [r.len] at dnf dxf
    exact ⟨G, φ, _, S, { nx := fun _ S' => finM S.length Q' (.dat .none) S', rt := finM S.length Q', xr := finMX S.length xr }, r, slots_start dv, ⟨fun ρ S' G' φ' σ' H' q' e' r' _ => dnf (.dat .none) _ _ _ _ _ q' e' r' .non, dnf, fun _ _ _ _ _ _ q' => q'.elim, fun _ _ _ _ _ _ q' => q'.elim, dxf⟩, hq ds S Q' xr q⟩
end
section
variable {X : Cx} {W : WX} {C m : Str} {o e : Expr} {es : List Expr} {apos pos : Pos} {ta : DEX} {t : DAX} {k j : Nat}
end
structure IsC (K : PySem.W.Frag) (D : Addr) : Prop where
  hg : PySem.W.findIn K (.ref D) "__getattribute__" = some (some (.builtin "BaseException.__getattribute__"))
  hk : PySem.W.findIn K (.ref D) "__getattr__" = some none
  hs : PySem.W.subIn K (.ref D) (.type "BaseException") = some true
  hd : PySem.W.hasDictIn K D = true
  ha : PySem.W.findIn K (.ref D) "__class__" = some (some (.builtin "object.__class__"))
  hn : PySem.W.specialIn K (.builtin "object.__class__") "__get__" = some (some (.builtin "getset_descriptor.__get__"))
  ht : PySem.W.takesIn K (.builtin "object.__class__") = some true
  hm : PySem.W.mroIn K D (.type "object") = some true
def dIsX (a d C : Addr) (b : Bool) (te : DE) : DE := fun ρ S Q => te ρ S fun x S1 => ∃ fs, x = .exc a d C fs ∧ Q (.dat (.bool b)) S1
end Rm

set_option Elab.async false
set_option linter.all false
set_option maxRecDepth 100000
set_option maxHeartbeats 4000000
namespace Rm
open PySem PySem.Spec PyProof.Rows L2
def sPar3 (i j l : Nat) (ta : DA) : DSm := fun E ρ S => ta ρ S fun vs S1 => ∃ u v w, vs = [u, v, w] ∧ E.nx (((ρ.set i (some u)).set j (some v)).set l (some w)) S1
def dDget1 (td ty : DE) : DE := fun ρ S Q => td ρ S fun x S1 => ∃ i kvs0, x = .ref i ∧ S1[i]? = some (dkO kvs0) ∧ ty ρ S1 fun y S2 => ∃ k kvs, y = .dat (.str k) ∧ S2[i]? = some (dkO kvs) ∧ Q (.dat ((getD' kvs k).getD .none)) S2
def dDget2 (td ty tx : DE) : DE := fun ρ S Q => td ρ S fun x S1 => ∃ i kvs0, x = .ref i ∧ S1[i]? = some (dkO kvs0) ∧ ty ρ S1 fun y S2 => tx ρ S2 fun z S3 => ∃ k kvs p, y = .dat (.str k) ∧ z = .dat p ∧ S3[i]? = some (dkO kvs) ∧ Q (.dat ((getD' kvs k).getD p)) S3
def sDputD (td ty tv : DE) : DSm := fun E ρ S => tv ρ S fun z S1 => td ρ S1 fun x S2 => ty ρ S2 fun y S3 => ∃ i k kvs p, x = .ref i ∧ y = .dat (.str k) ∧ z = .dat p ∧ S3[i]? = some (dkO kvs) ∧ kvs.length < sizeLine ∧ E.nx ρ (S3.set i (dkO (putDk kvs k p)))
section
variable {X : Cx} {W : WX} {st : Stmt} {o e f i value : Expr} {td ty tx tv : DE} {apos cpos pos pos' : Pos}
theorem ds_par3 {i j l : Nat} {ta : DA} (h : PS X st (tPar3 i j l (upA X.K ta))) : PS X st (upS X.K W (sPar3 i j l ta)) := h.imp fun E σ H ⟨G, φ, ρ, S, E', r, sl, dn, q⟩ =>
  ⟨G, φ, ρ, S, _, r, sl, fun ds S1 G1 φ1 vs H1 q1 e1 r1 dv => by
    obtain ⟨u, v, w, rfl, q1⟩ := q1
    match vs, dv with
    | _, .cons h1 (.cons h2 (.cons h3 .nil)) => exact ⟨_, _, _, rfl, dn.nx _ _ _ _ _ _ q1 e1 r1 ((((sl.ext e1).set i h1).set j h2).set l h3)⟩, q⟩
end
end Rm

set_option Elab.async false
set_option linter.all false
set_option maxRecDepth 100000
set_option maxHeartbeats 4000000
namespace Rm
open PySem PySem.Spec PyProof.Rows L2
def rInTd : R2D := fun x y S Q => ∃ d ds, x = .dat d ∧ y = .dat (.tuple ds) ∧ SeqAt.shaped d = true ∧ SeqAt.shaped (.tuple ds) = true ∧ Q (.dat (.bool (ds.any fun z => PyData.eqv z d))) S
def dDnew : DE := fun _ S Q => Q (.ref S.length) (S ++ [dkO []])
def dSplitO (to te : DE) : DE := fun ρ S Q => to ρ S fun x S1 => ∃ a, x = .dat (.str a) ∧ te ρ S1 fun y S2 => ∃ b, y = .dat (.str b) ∧ (b.length == 0) = false ∧ a.length + 2 ≤ sizeLine ∧ Q (.ref S2.length) (S2 ++ [.lst ((Txt.split a b).map PyData.str)])
section
variable {X : Cx} {e : Expr} {to te : DE} {pos : Pos}
end
end Rm

set_option Elab.async false
set_option linter.all false
set_option maxRecDepth 100000
set_option maxHeartbeats 4000000
namespace Rm
open PySem PySem.Spec PyProof.Rows L2
def lstsR (S : Os) : List Nat → Option (List (List PyData))
  | [] => some []
  | i :: is => match S[i]?, lstsR S is with
    | some (.lst ds), some r => some (ds :: r)
    | _, _ => none
def cSumLR : RCD := fun ds S Q => ∃ i is acc xss, ds = [.ref i, .dat (.list acc)] ∧ S[i]? = some (.refs is) ∧ lstsR S is = some xss ∧ acc.length + xss.flatten.length ≤ sizeLine ∧ Q (.dat (.list (acc ++ xss.flatten))) S
def dLstR1 (te : DE) : DE := fun ρ S Q => te ρ S fun x S1 => ∃ j, x = .ref j ∧ Q (.ref S1.length) (S1 ++ [.refs [j]])
theorem de_lstR1 {X : Cx} {e : Expr} {te : DE} {pos : Pos} (h : PE X e (up X.K te)) (hs : starEach [e] X.env = (false, eval e X.env) :: starEach [] X.env := by rfl) : PE X (.List [e] pos) (up X.K (dLstR1 te)) :=
  (pe_lst (pa_cons h pa_nil hs)).imp fun σ H Q ⟨G, φ, ρ, S, Q', r, sl, dn, q⟩ => ⟨G, φ, ρ, S, _, r, sl, fun x S1 G1 φ1 v H1 q1 e1 r1 dv => by
    obtain ⟨j, rfl, q1⟩ := q1
    refine ⟨by show 1 ≤ sizeLine; decide, fun p hp => ?_⟩
    obtain ⟨r2, e2⟩ := r1.newO (o := .lst [v]) (ob := .refs [j]) hp ⟨rfl, [v], upd_same, .cons (DV.mono (d := .ref j) (.refl _) ⟨_, rfl⟩ dv) .nil⟩
    exact dn _ _ _ _ _ _ q1 (e1.trans e2) r2 ⟨(p, []), by rw [← r1.len]; exact new_get, rfl⟩, q⟩
end Rm

set_option Elab.async false
set_option linter.all false
set_option maxRecDepth 100000
set_option maxHeartbeats 4000000
namespace Rm
open PySem PySem.Spec PyProof.Rows L2
open NdefX
structure ExF (P : Program) (K : PySem.W.Frag) (mg : Str → Option Value) (x : Str) (st : Stmt) (ns : List Str) : Prop where
  ex : ∃ (f : Addr) (nm q : Str) (cl : List (Str × Addr)) (c : Addr) (doc pm ctv oc : Value) (od : Option Addr) (osl : Array (Option Value)), SupF P K mg (He.ga K x) f ⟨nm, q, defArgs st, defBody st, defScope st, cl, c⟩ ∧
    K.lookup f = some ⟨oc, od, .func (NF.fd ⟨nm, q, defArgs st, defBody st, defScope st, cl, c⟩ doc pm ctv), osl⟩ ∧ PySem.W.findIn K (.ref (He.ga K x)) "__init__" = some (some (.ref f)) ∧ PySem.W.typeIn K (.ref f) = some (.type "function") ∧ mg x = some (.ref (He.ga K x)) ∧
    ∀ n ∈ ns, PySem.W.findIn K (.ref (He.ga K x)) n = some none
theorem clsE_ok {K : PySem.W.Frag} {C : Addr} (h : clsE K C = true) : ∃ nm q N bs bm sn sub ab col dd k0 k1 k2 k3 k5, K.lookup C = some (excClassObj nm q C N bs bm true sn sub ab col dd k0 k1 k2 k3 k5 "ValueError.__new__") ∧ PySem.HandSPX.refsVE bm = true := by
  unfold clsE at h
  split at h
  · rename_i t dd cd sl ho
    split at h
    · rename_i C' bm k0 k1 k2 k3 n k5 hm hs
      simp only [Bool.and_eq_true, decide_eq_true_eq, Bool.not_eq_true'] at h
      obtain ⟨rfl, rfl, rfl, hdel, hdi, hr⟩ := h
      obtain ⟨nm, bs, mro, ns, qn, hd, sn, sub, ab, col, del⟩ := cd
      dsimp only at hm hdel hdi
      subst hm hdel hdi
      have hsl : sl = #[k0, k1, k2, k3, some (.builtin "ValueError.__new__"), k5] := by
        obtain ⟨l⟩ := sl
        simp only at hs
        rw [hs]
      subst hsl
      exact ⟨nm, qn, ns, bs, bm, sn, sub, ab, col, dd, k0, k1, k2, k3, k5, ho, hr⟩
    · cases h
  · cases h
structure XcF (K : PySem.W.Frag) (x : Str) : Prop where
  xf : XfC K (He.ga K x)
  ex : PySem.W.exmOne K (.ref (He.ga K x)) (.ref (He.ga K x)) = some true
theorem excE_ok {P : Program} {K : PySem.W.Frag} {mg : Str → Option Value} {x q : Str} {st : Stmt} {ns : List Str} (h : excE P.main.file K x ns = true) (e : fnE K x = fnV q st) (hm : mg x = some (.ref (He.ga K x))) (hs : mg "super" = none)
    (top : (P.main.scope.names.lookup ("super" : Str)).isSome = false) : ExF P K mg x st ns ∧ XcF K x := by
  unfold excE at h
  simp only [Bool.and_eq_true, decide_eq_true_eq] at h
  obtain ⟨h1, h2, h3, h4, h5, h6, h7, h8, h9, h10, h11, h12, h13⟩ := h
  refine ⟨?_, ⟨xfB_ok h12, h13⟩⟩
  unfold funE at h2
  unfold fnE fnV at e
  cases lk : K.lookup (He.ma K (He.ga K x) "__init__") with
  | none => rw [lk] at e; cases e
  | some o =>
    obtain ⟨oc, od, dt, osl⟩ := o
    rw [lk] at e h2
    cases dt with
    | func fd =>
      obtain ⟨n1, n2, n3, n4, n5, n6, n7, n8, n9, n10, n11, n12, n13, n14, n15⟩ := fd
      dsimp only at e h2
      simp only [Option.some.injEq, Prod.mk.injEq] at e
      obtain ⟨rfl, rfl, rfl, rfl, rfl, rfl, rfl⟩ := e
      split at h2
      · rename_i _ _ c n cc
        simp only [Bool.and_eq_true, decide_eq_true_eq] at h2
        obtain ⟨rfl, k2, k3, k4⟩ := h2
        refine ⟨_, "__init__", n2, [(("__class__" : Str), cc)], c, n10, n11, n14, oc, od, osl, ⟨⟨oc, od, n10, n11, n14, osl, lk⟩, k2, ?_, ?_, top, hs, He.eqO_ok h9, ⟨clsE_ok h1, He.eqO_ok h3, h4, h5, h6⟩, He.eqO_ok h10⟩, lk, He.eqO_ok h7, h8, hm, fun n hn => He.eqO_ok (List.all_eq_true.mp h11 n hn)⟩
        · unfold fileE at k3
          split at k3
          · rename_i ccl cdd vs ccs hc
            split at k3
            · rename_i fl tf hv
              exact ⟨ccl, cdd, vs, ccs, fl, tf, hc, hv, k3⟩
            · cases k3
          · cases k3
        · unfold cellE at k4
          split at k4
          · rename_i cl cld D csl hc
            rw [of_decide_eq_true k4] at hc
            exact ⟨cc, cl, cld, csl, rfl, hc⟩
          · cases k4
      · cases h2
    | _ => cases e
end Rm

set_option Elab.async false
set_option linter.all false
set_option maxRecDepth 100000
set_option maxHeartbeats 4000000
namespace Rm
open PySem PySem.Spec PyProof.Rows L2
theorem Rel.growN {K : PySem.W.Frag} {G H H' : Hp} {φ : List Foot} {S : Os} (r : Rel K G φ S H) (g : Same H H') :
    ∃ G', Rel K G' φ S H' ∧ Ext G φ H G' φ H' ∧ ∀ a, H a = none → G' a = H' a := by
  classical
  have gg : Same G (fun a => if H a = none then H' a else G a) := fun a o e => by
    show (if H a = none then H' a else G a) = some o
    rw [if_neg (by rw [r.sub a o e]; exact fun z => nomatch z)]
    exact e
  have kp : ∀ a, H a ≠ none → H' a = H a := fun a h => by
    cases e : H a with
    | none => exact absurd e h
    | some o => exact g a o e
  refine ⟨fun a => if H a = none then H' a else G a, ⟨fun a o e => ?_, r.len, r.nd, fun a m => ?_, fun i f o h1 h2 => ?_, fun i f o h1 h2 h3 a m => ?_⟩, ⟨gg, ⟨[], by simp⟩, fun a o _ h => g a o h, fun a h1 h2 => ?_, fun _ h1 h2 => absurd h1 h2⟩, fun a h => if_pos h⟩
  · by_cases h : H a = none
    · rw [if_pos h] at e; exact e
    · rw [if_neg h] at e; rw [kp a h]; exact r.sub a o e
  · rw [kp a (r.on a m)]; exact r.on a m
  · exact ((r.ob i f o h1 h2).mono gg ⟨[], by simp⟩).stay fun a m => kp a (r.on a (mem_zs h1 m))
  · show (if H a = none then H' a else G a) = none
    rw [if_neg (r.on a (mem_zs h1 m))]; exact r.off i f o h1 h2 h3 a m
  · by_cases h : H a = none
    · exact .inl h
    · exact absurd h1 (by have h2 : (if H a = none then H' a else G a) ≠ none := h2; rw [if_neg h] at h2; exact h2)
def dLZip (t : DA) : DE := fun ρ S Q => t ρ S fun ds S1 => ∃ xs ys, (ds = [.dat (.list xs), .dat (.list ys)] ∨ ds = [.dat (.tuple xs), .dat (.tuple ys)]) ∧ ys.length = xs.length ∧ xs.length ≤ 1000 ∧
  Q (.dat (.list ((xs.zip ys).map fun p => .tuple [p.1, p.2]))) S1
theorem zip_dq {K : PySem.W.Frag} {G H' : Hp} : ∀ {ts : List Addr} {xs ys : List V} {ds es : List PyData}, DqAll K G xs ds → DqAll K G ys es → ts.length = xs.length → ys.length = xs.length → Prs xs ys ts H' → (∀ t ∈ ts, G t = H' t) →
    DqAll K G (ts.map V.ref) ((ds.zip es).map fun p => .tuple [p.1, p.2])
  | [], [], [], _, _, .nil, .nil, _, _, _, _ => .nil
  | t :: ts, x :: xs, y :: ys, _, _, .cons a b, .cons c d, h1, h2, h3, h4 => by
    obtain ⟨x', y', e1, e2, e3⟩ := h3 0 t rfl
    cases e1
    cases e2
    refine .cons (.tup (SqT.of ((h4 t (by simp)).trans e3)) (.cons a (.cons c .nil))) (zip_dq b d (by simpa using h1) (by simpa using h2) (fun j t e => ?_) fun t ht => h4 t (List.mem_cons_of_mem _ ht))
    exact h3 (j + 1) t e
  | [], _ :: _, _, _, _, _, _, h, _, _, _ => by simp at h
  | _ :: _, [], _, _, _, _, _, h, _, _, _ => by simp at h
  | [], [], _ :: _, _, _, _, _, _, h, _, _ => by simp at h
  | _ :: _, _ :: _, [], _, _, _, _, _, h, _, _ => by simp at h
theorem de_lzip {X : Cx} {e : Expr} {t : DA} (h : PE X e (tLZip X.K (upA X.K t))) : PE X e (up X.K (dLZip t)) := h.imp fun σ H Q ⟨G, φ, ρ, S, Q', r, sl, dn, q⟩ =>
  ⟨G, φ, ρ, S, _, r, sl, fun ds S1 G1 φ1 vs H1 ⟨xs, ys, hx, hl, hn, q1⟩ e1 r1 dvs => by
    have key : ∀ (a b : Addr) (us ws : List V), vs = [.ref a, .ref b] → ((SqL X.K H1 a us ∧ SqL X.K H1 b ws) ∨ (SqT X.K H1 a us ∧ SqT X.K H1 b ws)) → DqAll X.K G1 us xs → DqAll X.K G1 ws ys → ∃ a b us ws, vs = [.ref a, .ref b] ∧ ((SqL X.K H1 a us ∧ SqL X.K H1 b ws) ∨ (SqT X.K H1 a us ∧ SqT X.K H1 b ws)) ∧ ws.length = us.length ∧ us.length ≤ 1000 ∧
        ∀ L ts Hf, Same H1 Hf → H1 L = none → (∀ t ∈ ts, H1 t = none) → Hf L = some (.lst (ts.map V.ref)) → ts.length = us.length → Prs us ws ts Hf → Q (.ref L) Hf := by
      intro a b us ws h1 h2 h3 h4
      have l1 := h3.len
      have l2 := h4.len
      refine ⟨a, b, us, ws, h1, h2, by omega, by omega, fun L ts Hf g nL nt hL hts hp => ?_⟩
      obtain ⟨G2, r2, e2, hg⟩ := r1.growN g
      refine dn _ _ _ _ _ _ q1 (e1.trans e2) r2 (.lst (by rw [hg L nL]; exact hL) ?_)
      exact zip_dq (h3.mono e2.g) (h4.mono e2.g) hts (by omega) hp fun t ht => hg t (nt t ht)
    rcases hx with rfl | rfl
    · cases dvs with
      | cons a b => cases b with
        | cons c d =>
          cases d
          cases a with
          | lst q2 q3 => cases c with
            | lst q4 q5 => exact key _ _ _ _ rfl (.inl ⟨SqL.of (r1.sub _ _ q2), SqL.of (r1.sub _ _ q4)⟩) q3 q5
    · cases dvs with
      | cons a b => cases b with
        | cons c d =>
          cases d
          cases a with
          | tup q2 q3 => cases c with
            | tup q4 q5 => exact key _ _ _ _ rfl (.inr ⟨sameT r1.sub q2, sameT r1.sub q4⟩) q3 q5, q⟩
end Rm

set_option Elab.async false
set_option linter.all false
set_option maxRecDepth 100000
set_option maxHeartbeats 4000000
namespace Rm
open PySem PySem.Spec PyProof.Rows L2
structure DfK (K : PySem.W.Frag) (mg : Str → Option Value) (x : Str) (st : Stmt) (kws : List (Str × V)) : Prop where
  ex : ∃ (f : Addr) (fd : FuncData), FunD K x x (defArgs st) (defBody st) (defScope st) [] kws f fd ∧ mg x = some (.ref f)
structure CalK (P : Program) (w : World) (K : PySem.W.Frag) (mg : Str → Option Value) (base : Heap) (k : Nat) (x : Str) (dps : List PyData) (sp : Sp) : Prop where
  ex : ∃ (f : Addr) (fd : FuncData) (ps : List Str) (ds : List Value) (dvs : List V), FnOk P w K mg base CX0 k f fd ps sp ∧ mg x = some (.ref f) ∧ PySem.W.keepIn K (.ref f) = true ∧ Binds K fd ps ds ∧ Vals dvs ds ∧ ∀ G, Paired (Dq K G) dvs dps
section
variable {P : Program} {w : World} {K : PySem.W.Frag} {mg : Str → Option Value} {base : Heap} {x : Str} {st : Stmt} {N ps : List Str} {k : Nat} {fs : Fs} {kws : List (Str × V)} {dps : List PyData}
theorem DfK.calD (F : DfK K mg x st kws) (S : FnScope N ps (defScope st)) (n : Nat) (hk : kws ≠ []) (hn : n + kws.length = ps.length)
    (hb : ∀ (D : Addr) (doc pm : Value) (an : Option Addr) (cdv ct : Value) (us ks : List Value), us.length = n → ks.length = kws.length →
      KwChain D ((kws.map (·.1)).zip ks) (bindArgs (PySem.W.fnOf x x (defArgs st) (defBody st) (defScope st) .none (.ref D) doc pm an cdv ct) ⟨us, []⟩) (ps.zip (us ++ ks)))
    (hp : ∀ G, Paired (Dq K G) (kws.map (·.2)) dps)
    (len : ∀ ds S Q, fs ds S Q → ds.length = ps.length) (t : DSm)
    (hbody : ∀ (f : Addr) (cdv : Value) (A : Around) (outer : List Env) (s : Shared) (H : Hp) (E : XK), Room k (A.deeper (envOfC x (defScope st) s.heap.objs.size f cdv)) →
      PSs (cxOf CX0 P w K mg base N x (defScope st) f cdv A outer s H E).nox (defBody st) (upS K W0 t))
    (hq : ∀ ds S Q, fs ds S Q → t { nx := fun _ S' => fin S.length Q (.dat .none) S', rt := fin S.length Q } (startD N.length ds) S) : CalK P w K mg base (k + 1) x dps (upF K fs) := by
  obtain ⟨f, fd, F, m⟩ := F.ex
  obtain ⟨ds0, hv, hbi⟩ := F.binds0 n hk hn hb
  refine ⟨f, fd, ps, ds0, _, F.ok S (fun vs H Q E h => ?_) fun cdv A outer s H vs Q E hr hs => ⟨upS K W0 t, (hbody f cdv A outer s H E hr).nox, ?_⟩, m, F.kp, hbi, hv, hp⟩
  · obtain ⟨G, φ, ds, S, Q', r, dv, dn, q⟩ := h
    rw [Paired.length dv]
    exact len ds S Q' q
  · obtain ⟨G, φ, ds, S, Q', r, dv, dn, q⟩ := hs
    have dnf := dn.fin
    rw [r.len] at dnf
    exact ⟨G, φ, _, S, { nx := fun _ S' => fin S.length Q' (.dat .none) S', rt := fin S.length Q' }, r, slots_start dv, ⟨fun ρ S' G' φ' σ' H' q' e' r' _ => dnf (.dat .none) _ _ _ _ _ q' e' r' .non, dnf, fun _ _ _ _ _ _ q' => q'.elim, fun _ _ _ _ _ _ q' => q'.elim, fun _ _ _ _ _ _ _ _ _ _ q' => q'.elim⟩, hq ds S Q' q⟩
end
section
variable {X : Cx} {x : Str} {k j : Nat} {e : Expr} {es : List Expr} {p pos : Pos} {fs : Fs} {t : DA} {dps : List PyData}
end
section
variable {X : Cx} {C : Addr} {o tg : Expr} {to : TE} {f : Str} {pos : Pos}
end
end Rm

set_option Elab.async false
set_option linter.all false
set_option maxRecDepth 100000
set_option maxHeartbeats 4000000
namespace Rm
open PySem PySem.Spec PyProof.Rows L2
section
variable {K : PySem.W.Frag}
theorem f_pow30 {S : Os} {Q : DQ} : rPow (.dat (.int 10)) (.dat (.int 30)) S Q = Q (.dat (.int 1000000000000000000000000000000)) S := propext ⟨fun ⟨i, j, e1, e2, _, q⟩ => (by cases e1; cases e2; exact q), fun q => ⟨10, 30, rfl, rfl, ⟨by decide, by decide, by decide⟩, q⟩⟩
theorem f_pow29 {S : Os} {Q : DQ} : rPow (.dat (.int 10)) (.dat (.int 29)) S Q = Q (.dat (.int 100000000000000000000000000000)) S := propext ⟨fun ⟨i, j, e1, e2, _, q⟩ => (by cases e1; cases e2; exact q), fun q => ⟨10, 29, rfl, rfl, ⟨by decide, by decide, by decide⟩, q⟩⟩
theorem f_pow15 {S : Os} {Q : DQ} : rPow (.dat (.int 10)) (.dat (.int 15)) S Q = Q (.dat (.int 1000000000000000)) S := propext ⟨fun ⟨i, j, e1, e2, _, q⟩ => (by cases e1; cases e2; exact q), fun q => ⟨10, 15, rfl, rfl, ⟨by decide, by decide, by decide⟩, q⟩⟩
end
end Rm

set_option Elab.async false
set_option linter.all false
set_option maxRecDepth 100000
set_option maxHeartbeats 4000000
namespace Rm
open PySem PySem.Spec PyProof.Rows L2
def noX (fs : FsX) : Fs := fun ds S Q => fs ds S Q fun _ _ _ => False
section
variable {P : Program} {w : World} {K : PySem.W.Frag} {mg : Str → Option Value} {base : Heap} {x C m : Str} {k : Nat} {fs : FsX}
theorem noX_up {vs : List V} {H : Hp} {Q : VK} {E : XK} (h : upF K (noX fs) vs H Q E) : upFX K fs vs H Q E0 := by
  obtain ⟨G, φ, ds, S, Q', r, dv, dn, q⟩ := h
  exact ⟨G, φ, ds, S, Q', fun _ _ _ => False, r, dv, dn, (fun C fs S' G' φ' d vs H' h => h.elim), q⟩
theorem fn_noX {f : Addr} {fd : FuncData} {ps : List Str} (F : FnOk P w K mg base (L2.CX P w) k f fd ps (upFX K fs)) : FnOk P w K mg base CX0 k f fd ps (upF K (noX fs)) := by
  refine ⟨fun vs H Q E h => F.len vs H Q _ (noX_up h), fun A outer s H args us vs Q E hr he hb hv hs => codeAny_mono (F.run A outer s H args us vs Q _ hr he hb hv (noX_up hs)) fun r s' hq => ?_⟩
  cases r with
  | error e =>
    obtain ⟨_, _, _, _, _, _, _, _, _, _, _, _, h⟩ := hq
    exact h.elim
  | ok fl => cases fl <;> exact hq
theorem CalX.cal (c : CalX P w K mg base k x fs) : Cal P w K mg base k x (upF K (noX fs)) := by
  obtain ⟨f, fd, ps, F, m, kp, b⟩ := c.ex
  exact ⟨f, fd, ps, fn_noX F, m, kp, b⟩
theorem CalMX.cal (c : CalMX P w K mg base k C m fs) : CalM P w K mg base k C m (noX fs) := by
  obtain ⟨fd, ps, F, b⟩ := c.ex
  exact ⟨fd, ps, fn_noX F, b⟩
end
end Rm

set_option Elab.async false
set_option linter.all false
set_option maxRecDepth 100000
set_option maxHeartbeats 4000000
namespace Rm
open PySem PySem.Spec PyProof.Rows L2
inductive TyP (K : PySem.W.Frag) (H : Hp) (C : Addr) : V → Value → Prop
  | ins {b : Addr} {dx : Addr} {fs : List (Str × V)} : H b = some (.ins C dx fs) → TyP K H C (.ref b) (.ref C)
  | lst {b : Addr} {xs : List V} : SqL K H b xs → TyP K H C (.ref b) (.type "list")
  | tup {b : Addr} {xs : List V} : SqT K H b xs → TyP K H C (.ref b) (.type "tuple")
  | non : TyP K H C .non (.type "NoneType")
  | int {i : Int} : TyP K H C (.int i) (.type "int")
  | str {x : Str} : TyP K H C (.str x) (.type "str")
theorem TyP.nf {K : PySem.W.Frag} {H : Hp} {C : Addr} {y : V} {tb : Value} (h : TyP K H C y tb) : PySem.W.notFirst K C tb = true := by
  cases h with
  | ins hb => simp [PySem.W.notFirst]
  | _ => rfl
end Rm

set_option Elab.async false
set_option linter.all false
set_option maxRecDepth 100000
set_option maxHeartbeats 4000000
namespace Rm
open PySem PySem.Spec PyProof.Rows L2
section
variable {X : Cx} {o e : Expr} {td te : TE} {apos cpos : Pos}
end
abbrev KX := List (Key × D)
abbrev FD := List (Key × PyData)
def fdX (l : FD) : KX := l.map fun p => (p.1, .dat p.2)
abbrev KPx (K : PySem.W.Frag) (G : Hp) (φ : List Foot) : (Key × V) → (Key × D) → Prop := fun p q => p.1 = q.1 ∧ DV K G φ p.2 q.2
def valD (kvs : KX) (k : Key) : Option D := (kvs.find? fun p => decide (p.1 = k)).map (·.2)
def keyD : D → Option Key
  | .dat (.int i) => some (.inl i)
  | .dat (.str x) => some (.inr x)
  | _ => none
def rdK (S : Os) : D → Option KX
  | .ref i => match S[i]? with
    | some (.dk kvs) => some kvs
    | _ => none
  | .dct kvs => some (fdX kvs)
  | _ => none
section
variable {K : PySem.W.Frag} {G H : Hp} {φ : List Foot} {S : Os}
theorem fd_px : ∀ {vs : List (Key × V)} {kvs : FD}, Paired (fun (p : Key × V) (q : Key × PyData) => p.1 = q.1 ∧ Dq K G p.2 q.2) vs kvs → Paired (KPx K G φ) vs (fdX kvs)
  | _, _, .nil => .nil
  | _, _, .cons h r => .cons ⟨h.1, h.2⟩ (fd_px r)
theorem Rel.rdK {x : D} {v : V} {kvs : KX} (r : Rel K G φ S H) (dv : DV K G φ v x) (e : rdK S x = some kvs) : ∃ a vs, v = .ref a ∧ H a = some (.dK vs) ∧ Paired (KPx K G φ) vs kvs := by
  cases x with
  | ref i =>
    obtain ⟨f, h1, rfl⟩ := dv
    cases hs : S[i]? with
    | none => simp only [Rm.rdK, hs] at e; cases e
    | some o =>
      simp only [Rm.rdK, hs] at e
      cases o with
      | dk ks =>
        cases e
        obtain ⟨_, vs, h2, h3⟩ := r.ob i f _ h1 hs
        exact ⟨_, vs, rfl, h2, h3⟩
      | _ => cases e
  | dct ks =>
    cases e
    obtain ⟨a, vs, rfl, h2, h3⟩ := dv
    exact ⟨a, vs, rfl, r.sub _ _ h2, fd_px h3⟩
  | _ => cases e
theorem DV.key {y : D} {u : V} {k : Key} (dv : DV K G φ u y) (e : keyD y = some k) : u = kV k := by
  unfold keyD at e
  split at e
  · cases e; exact dq_int dv
  · cases e; exact dq_str dv
  · cases e
end
section
variable {W : WX} {X : Cx} {e o i value : Expr} {td ty tv te : DE} {t : DA} {pos pos' apos cpos : Pos} {st : Stmt} {stm : List Stmt}
end
end Rm

set_option Elab.async false
set_option linter.all false
set_option maxRecDepth 100000
set_option maxHeartbeats 4000000
namespace Rm
open PySem PySem.Spec PyProof.Rows L2 LamX
structure LamA (scope : Scope) (a : Str) : Prop where
  kind : scope.kind = .function
  co : scope.isCoroutine = false
  gen : scope.isGenerator = false
  own : ∀ y ∈ scope.names, y.2 ≠ .cell ∧ y.2 ≠ .free
  loc : scope.names.lookup a = some .local
def TabH (H : Hp) (q : Str) (ps : Array Value) : Prop := ∀ (pos : Pos) (cv : Value), codeAmong pos ps.toList = some cv → ∃ c, cv = .ref c ∧ H c = some (CodeO c q)
section
variable {X : Cx} {pins : List (Addr × Obj)} {σ : L2.St} {H : Hp} {s : Shared}
end
theorem _root_.L2.SqT.extT {K : PySem.W.Frag} {H H2 : Hp} {a : Addr} {xs : List V} (h : SqT K H a xs) (hle : ∀ b o, H b = some o → (∀ ps, o ≠ .tbl ps) → H2 b = some o) : SqT K H2 a xs :=
  h.elim (fun h => .inl (h.elim (fun h => .inl (hle _ _ h fun _ z => by cases z)) fun ⟨o, h⟩ => .inr ⟨o, hle _ _ h fun _ z => by cases z⟩)) .inr
theorem _root_.L2.SqL.extT {K : PySem.W.Frag} {H H2 : Hp} {a : Addr} {xs : List V} (h : SqL K H a xs) (hle : ∀ b o, H b = some o → (∀ ps, o ≠ .tbl ps) → H2 b = some o) : SqL K H2 a xs :=
  h.elim (fun h => .inl (h.elim (fun h => .inl (hle _ _ h fun _ z => by cases z)) fun ⟨o, h⟩ => .inr ⟨o, hle _ _ h fun _ z => by cases z⟩)) .inr
section
variable {X : Cx} {e : Expr} {te : TE}
end
end Rm

set_option Elab.async false
set_option linter.all false
set_option maxRecDepth 100000
set_option maxHeartbeats 4000000
namespace Rm
open PySem PySem.Spec PyProof.Rows L2 LamX
section
variable {K : PySem.W.Frag} {G H : Hp} {φ : List Foot} {S : Os}
theorem Rel.tabNew {i : Nat} {P c : Addr} {q : Str} {pos : Pos} {ps : Array Value} (r : Rel K G φ S H) (hi : S[i]? = some (.tab P q)) (hP : H P = some (.tbl ps)) (hn : H c = none) (hT : TriplesOk ps.toList)
    (ha : ∀ (pos : Pos) (cv : Value), codeAmong pos ps.toList = some cv → ∃ c, cv = .ref c ∧ G c = some (CodeO c q)) :
    ∃ G', Rel K G' φ S (upd (upd H P (.tbl (ps ++ #[rawInt pos.line, rawInt pos.col, .ref c]))) c (CodeO c q)) ∧ Ext G φ H G' φ (upd (upd H P (.tbl (ps ++ #[rawInt pos.line, rawInt pos.col, .ref c]))) c (CodeO c q)) := by
  have li : i < φ.length := by rw [r.len]; exact (List.getElem?_eq_some_iff.mp hi).1
  obtain ⟨f, hf⟩ : ∃ f, φ[i]? = some f := ⟨_, List.getElem?_eq_getElem li⟩
  obtain ⟨ef, ps', hP', _, _⟩ := r.ob i f _ hf hi
  subst ef
  have nPc : P ≠ c := fun z => by rw [z, hn] at hP; cases hP
  obtain ⟨r1, e1⟩ := r.newD (o := CodeO c q) hn
  have gP : G P = none := r.off i _ _ hf hi (fun z => nomatch z) P (List.mem_cons_self ..)
  have eq : upd (upd H P (.tbl (ps ++ #[rawInt pos.line, rawInt pos.col, .ref c]))) c (CodeO c q) = upd (upd H c (CodeO c q)) P (.tbl (ps ++ #[rawInt pos.line, rawInt pos.col, .ref c])) := by
    funext b
    by_cases h1 : b = c
    · subst h1; rw [upd_same, upd_ne (Ne.symm nPc), upd_same]
    · by_cases h2 : b = P
      · subst h2; rw [upd_ne h1, upd_same, upd_same]
      · rw [upd_ne h1, upd_ne h2, upd_ne h2, upd_ne h1]
  have eL : (ps ++ #[rawInt pos.line, rawInt pos.col, .ref c]).toList = ps.toList ++ [rawInt pos.line, rawInt pos.col, .ref c] := by simp
  obtain ⟨r2, e2⟩ := r1.put (H' := upd (upd H c (CodeO c q)) P (.tbl (ps ++ #[rawInt pos.line, rawInt pos.col, .ref c]))) (ob' := .tab P q) hf hi (fun z => nomatch z) (fun a m => upd_ne fun z => m (by rw [z]; exact List.mem_cons_self ..))
    (fun a m => by
      have : a = P := by simpa [Foot.all] using m
      rw [this, upd_same]; exact fun z => nomatch z)
    ⟨rfl, _, upd_same, by rw [eL]; exact PySem.TriplesOk_snoc _ _ _ _ hT, fun p' cv hcv => by
      rw [eL] at hcv
      rcases among_app _ hT hcv with z | z
      · obtain ⟨c0, e3, e4⟩ := ha p' cv z
        exact ⟨c0, e3, e1.g _ _ e4⟩
      · exact ⟨c, z, upd_same⟩⟩
  have eS : S.set i (.tab P q) = S := by
    apply List.ext_getElem?
    intro j
    by_cases hj : i = j
    · subst hj; rw [hi]; exact List.getElem?_set_self (List.getElem?_eq_some_iff.mp hi).1
    · exact List.getElem?_set_ne hj
  rw [eS] at r2
  rw [eq]
  exact ⟨_, r2, e1.trans e2⟩
end
section
variable {X : Cx} {e : Expr} {te : DE} {P : Addr} {lq : Str}
end
end Rm

set_option Elab.async false
set_option linter.all false
set_option maxRecDepth 100000
set_option maxHeartbeats 4000000
namespace Rm
open PySem PySem.Spec PyProof.Rows L2
section
variable {K : PySem.W.Frag} {G H : Hp} {φ : List Foot} {S : Os}
theorem paired_all {α β : Type} {F : α → β → Prop} {p : β → Bool} (hh : ∀ a b, F a b → p b = true) : ∀ {as : List α} {bs : List β}, Paired F as bs → bs.all p = true
  | _, _, .nil => rfl
  | _, _, .cons h t => by rw [List.all_cons, Bool.and_eq_true]; exact ⟨hh _ _ h, paired_all hh t⟩
theorem foot_lt {i : Nat} {f : Foot} (h : φ[i]? = some f) : i < φ.length := (List.getElem?_eq_some_iff.mp h).1
theorem DV.closed {v : V} {d : D} (h : DV K G φ v d) : d.cl φ.length = true := by
  cases d with
  | ref i => obtain ⟨f, h1, _⟩ := h; exact decide_eq_true (foot_lt h1)
  | tup ds =>
    obtain ⟨a, vs, _, _, h3⟩ := h
    refine paired_all (fun x y q => ?_) h3
    cases y with
    | inl p => rfl
    | inr i => obtain ⟨f, h1, _⟩ := q; exact decide_eq_true (foot_lt h1)
  | _ => rfl
theorem ObR.closed {f : Foot} {o : Ob} (h : ObR K G φ f H o) : o.cl φ.length = true := by
  cases o with
  | refs is => obtain ⟨_, vs, _, h3⟩ := h; exact paired_all (fun x y q => DV.closed (d := .ref y) q) h3
  | ins C fs => obtain ⟨dx, vs, _, _, _, h3⟩ := h; exact paired_all (fun x y q => DV.closed q.2) h3
  | dk kvs => obtain ⟨_, vs, _, h3⟩ := h; exact paired_all (fun x y q => DV.closed q.2) h3
  | mix ds => obtain ⟨_, vs, _, h3⟩ := h; exact paired_all (fun x y q => DV.closed q) h3
  | dt kvs => obtain ⟨_, vs, _, h3⟩ := h; exact paired_all (fun x y q => DV.closed q.2) h3
  | _ => rfl
theorem Rel.closed (r : Rel K G φ S H) : S.all (Ob.cl S.length) = true := by
  rw [List.all_eq_true]
  intro o ho
  obtain ⟨i, hi⟩ := List.mem_iff_getElem?.mp ho
  have hl : i < φ.length := by rw [r.len]; exact (List.getElem?_eq_some_iff.mp hi).1
  have := (r.ob i _ o (List.getElem?_eq_getElem hl) hi).closed
  rw [r.len] at this
  exact this
end
section
variable {P : Program} {w : World} {K : PySem.W.Frag} {mg : Str → Option Value} {base : Heap} {x : Str} {st : Stmt} {N ps : List Str} {k : Nat} {fs : Fs}
theorem Df.calDW (F : Df K mg x st) (S : FnScope N ps (defScope st))
    (hb : ∀ (kV doc pm : Value) (an : Option Addr) (cdv ct : Value) (us : List Value), us.length = ps.length → bindArgs (PySem.W.fnOf x x (defArgs st) (defBody st) (defScope st) .none kV doc pm an cdv ct) ⟨us, []⟩ = pure (ps.zip us))
    (len : ∀ ds S Q, fs ds S Q → ds.length = ps.length) (t : DSm)
    (hbody : ∀ (f : Addr) (cdv : Value) (A : Around) (outer : List Env) (s : Shared) (H : Hp) (E : XK), Room k (A.deeper (envOfC x (defScope st) s.heap.objs.size f cdv)) →
      PSs (cxOf CX0 P w K mg base N x (defScope st) f cdv A outer s H E).nox (defBody st) (upS K W0 t))
    (hq : ∀ ds S Q, S.all (Ob.cl S.length) = true → fs ds S Q → t { nx := fun _ S' => finM S.length Q (.dat .none) S', rt := finM S.length Q } (startD N.length ds) S) : Cal P w K mg base (k + 1) x (upF K fs) := by
  refine F.cal S hb (fun vs H Q E h => ?_) fun f cdv A outer s H vs Q E hr hs => ⟨upS K W0 t, hbody f cdv A outer s H E hr, ?_⟩
  · obtain ⟨G, φ, ds, S, Q', r, dv, dn, q⟩ := h
    rw [Paired.length dv]
    exact len ds S Q' q
  · obtain ⟨G, φ, ds, S, Q', r, dv, dn, q⟩ := hs
    have dnf := dn.finM
    rw [r.len] at dnf
    exact ⟨G, φ, _, S, { nx := fun _ S' => finM S.length Q' (.dat .none) S', rt := finM S.length Q' }, r, slots_start dv, ⟨fun ρ S' G' φ' σ' H' q' e' r' _ => dnf (.dat .none) _ _ _ _ _ q' e' r' .non, dnf, fun _ _ _ _ _ _ q' => q'.elim, fun _ _ _ _ _ _ q' => q'.elim, fun _ _ _ _ _ _ _ _ _ _ q' => q'.elim⟩, hq ds S Q' r.closed q⟩
end
section
variable {K : PySem.W.Frag} {G : Hp} {φ : List Foot}
end
section
variable {X : Cx} {es : List Expr} {t : DA} {pos : Pos}
end
end Rm

set_option Elab.async false
set_option linter.all false
set_option maxRecDepth 100000
set_option maxHeartbeats 4000000
namespace Rm
open PySem PySem.Spec PyProof.Rows L2
section
variable {prog : Program} {w : World} {A : Around} {E : Value → Shared → Prop} {s : Shared} {z TI TO T i1 i2 : Addr} {f : Bool} {fp1 fp2 : List Addr} {n i : Nat} {P1 P2 : Nat → Value → Prop} {St1 St2 : Nat → Heap → Prop}
abbrev ZipRc (h : Heap) (z TI TO : Addr) (r : Value) (f : Bool) : Prop :=
  h.get? z = some { cls := .type "zip", dict := none, data := .fields #[r, .bool f, .bool false, .ref TI, .ref TO], slots := #[] }
def ZipSt (z TI TO i1 i2 : Addr) (St1 St2 : Nat → Heap → Prop) (i : Nat) (h : Heap) : Prop :=
  IsTupOf2 h TI (.ref i1) (.ref i2) ∧ St1 i h ∧ St2 i h ∧ (∃ a b, IsTupOf2 h TO a b) ∧ (IsZip h z TI TO .none ∨ ∃ (T : Addr) (f : Bool), ZipRc h z TI TO (rawInt (T : Nat)) f)
theorem ZipSt.keep {h h' : Heap} (F1 : ∀ i h h', St1 i h → (∀ b ∈ fp1, ∀ o, h.get? b = some o → h'.get? b = some o) → St1 i h') (F2 : ∀ i h h', St2 i h → (∀ b ∈ fp2, ∀ o, h.get? b = some o → h'.get? b = some o) → St2 i h')
    (st : ZipSt z TI TO i1 i2 St1 St2 i h) (k : ∀ b ∈ z :: TI :: TO :: (fp1 ++ fp2), ∀ o, h.get? b = some o → h'.get? b = some o) : ZipSt z TI TO i1 i2 St1 St2 i h' := by
  obtain ⟨hTI, s1, s2, ⟨a, b, hTO⟩, hz⟩ := st
  refine ⟨k _ (by simp) _ hTI, F1 _ _ _ s1 fun b hb => k b (by simp [hb]), F2 _ _ _ s2 fun b hb => k b (by simp [hb]), ⟨a, b, k _ (by simp) _ hTO⟩, ?_⟩
  rcases hz with hz | ⟨T, f, hz⟩
  · exact .inl (k _ (by simp) _ hz)
  · exact .inr ⟨T, f, k _ (by simp) _ hz⟩
end
end Rm

set_option Elab.async false
set_option linter.all false
set_option maxRecDepth 100000
set_option maxHeartbeats 4000000
namespace Rm
open PySem PySem.Spec PyProof.Rows L2
def SqK (K : PySem.W.Frag) (H : Hp) (a : Addr) (xs : List V) : Bool → Prop
  | true => SqL K H a xs
  | false => SqT K H a xs
def rowK (h : Heap) (a : Addr) (its : Array Value) : Bool → Prop
  | true => h.IsList a its
  | false => h.IsTuple a its
def iterK (h : Heap) (it a : Addr) (i : Nat) : Bool → Prop
  | true => h.IsListIter it a i
  | false => h.IsTupleIter it a i
theorem iterK.at {h h' : Heap} {it a : Addr} {i : Nat} {k : Bool} (x : iterK h it a i k) (e : ∀ o, h.get? it = some o → h'.get? it = some o) : iterK h' it a i k := by
  cases k
  · exact Heap.IsTupleIter.at x e
  · exact Heap.IsListIter.at x e
theorem rowK.at {h h' : Heap} {a : Addr} {its : Array Value} {k : Bool} (x : rowK h a its k) (e : ∀ o, h.get? a = some o → h'.get? a = some o) : rowK h' a its k := by
  obtain ⟨o, h1, h2⟩ : ∃ o, h.get? a = some o ∧ o.cls = .type (if k then "list" else "tuple") ∧ ∃ n, o.data = .seq its n := by cases k <;> exact x
  cases k <;> exact ⟨o, e o h1, h2⟩
theorem iterK.obj {h : Heap} {it a : Addr} {i : Nat} {k : Bool} (x : iterK h it a i k) : ∃ o, h.get? it = some o ∧ ∀ v, o.data ≠ .cell v := by
  cases k
  · obtain ⟨o, e1, _, d1⟩ := x; exact ⟨o, e1, fun v q => by rw [d1] at q; cases q⟩
  · obtain ⟨o, e1, _, d1⟩ := x; exact ⟨o, e1, fun v q => by rw [d1] at q; cases q⟩
theorem Inv.rowK {X : Cx} {pins : List (Addr × Obj)} {σ : L2.St} {H : Hp} {s : Shared} {a : Addr} {xs : List V} {k : Bool} (I : Inv X pins σ H s) (h : SqK X.K H a xs k) : ∃ its : List Value, Vals xs its ∧ rowK s.heap a its.toArray k := by
  cases k
  · obtain ⟨its, rv, p1, _⟩ := I.tuple h
    exact ⟨its, rv, p1⟩
  · obtain ⟨its, rv, p1, _⟩ := I.list h
    exact ⟨its, rv, p1.isList⟩
theorem SqK.inj {X : Cx} {pins : List (Addr × Obj)} {σ : L2.St} {H : Hp} {s : Shared} {a : Addr} {xs ys : List V} {k : Bool} (I : Inv X pins σ H s) (h : SqK X.K H a xs k) (h' : SqK X.K H a ys k) : xs = ys := by
  cases k
  · exact I.tuple_inj h h'
  · exact I.list_inj h h'
structure EzApart (e z TI TO i1 i2 a b : Addr) : Prop where
  d : ZipApart z TI TO i1 i2 a b
  f : e ∉ [z, TI, TO, i1, a, i2, b]
theorem rowK.lt {h : Heap} {a : Addr} {its : Array Value} {k : Bool} (x : rowK h a its k) : a < h.objs.size := by
  cases k
  · obtain ⟨o, e, _⟩ := x; exact Heap.lt_size e
  · obtain ⟨o, e, _⟩ := x; exact Heap.lt_size e
end Rm

set_option Elab.async false
set_option linter.all false
set_option maxRecDepth 100000
set_option maxHeartbeats 4000000
namespace Rm
open PySem PySem.Spec PyProof.Rows L2
structure DfC (K : PySem.W.Frag) (mg : Str → Option Value) (x : Str) (st : Stmt) (c : Addr) : Prop where
  ex : ∃ (f : Addr) (fd : FuncData), FunD K x x (defArgs st) (defBody st) (defScope st) [] [] f fd ∧ mg x = some (.ref f) ∧ fd.code = .ref c
theorem mkDfC {K : PySem.W.Frag} {mg : Str → Option Value} {x : Str} {st : Stmt} (h : ∃ fd, FunD K x x (defArgs st) (defBody st) (defScope st) [] [] (He.fAd K (x, none)) fd) (hm : mg x = some (.ref (He.fAd K (x, none)))) : DfC K mg x st (He.codeOf K (x, none)) := by
  obtain ⟨fd, F⟩ := h
  refine ⟨_, fd, F, hm, ?_⟩
  obtain ⟨oc, od, dV, kV, doc, pm, an, cdv, ct, osl, rfl, lk, hcd, _, _⟩ := F.ex
  obtain ⟨c, rfl⟩ := He.codeIn_ref hcd
  rw [He.codeOf_eq lk rfl]
section
variable {P : Program} {w : World} {K : PySem.W.Frag} {mg : Str → Option Value} {base : Heap} {x : Str} {st : Stmt} {N ps : List Str} {k : Nat} {fs : Fs} {c : Addr}
theorem DfC.ok {CX : CXT} {sp : Sp} (F : DfC K mg x st c) (S : FnScope N ps (defScope st)) (len : ∀ vs H Q E, sp vs H Q E → vs.length = ps.length)
    (hbody : ∀ (f : Addr) (A : Around) (outer : List Env) (s : Shared) (H : Hp) (vs : List V) (Q : VK) (E : XK), Room k (A.deeper (envOfC x (defScope st) s.heap.objs.size f (.ref c))) → sp vs H Q E →
      ∃ t, PSs (cxOf CX P w K mg base N x (defScope st) f (.ref c) A outer s H E) (defBody st) t ∧ t { nx := fun _ H' => Q .non H', rt := Q } (start N vs) H) :
    ∃ (f : Addr) (fd : FuncData), FunD K x x (defArgs st) (defBody st) (defScope st) [] [] f fd ∧ mg x = some (.ref f) ∧ FnOk P w K mg base CX (k + 1) f fd ps sp := by
  obtain ⟨f, fd, F, m, hc⟩ := F.ex
  refine ⟨f, fd, F, m, ?_⟩
  obtain ⟨oc, od, dV, kV, doc, pm, an, cdv, ct, osl, rfl, lk, hcd, _, _⟩ := F.ex
  have hc' : cdv = .ref c := hc
  subst hc'
  exact fn_of lk hcd S len fun A outer s H vs Q E hr hsp => hbody f A outer s H vs Q E hr hsp
theorem DfC.calDW (F : DfC K mg x st c) (S : FnScope N ps (defScope st))
    (hb : ∀ (kV doc pm : Value) (an : Option Addr) (cdv ct : Value) (us : List Value), us.length = ps.length → bindArgs (PySem.W.fnOf x x (defArgs st) (defBody st) (defScope st) .none kV doc pm an cdv ct) ⟨us, []⟩ = pure (ps.zip us))
    (len : ∀ ds S Q, fs ds S Q → ds.length = ps.length) (t : DSm)
    (hbody : ∀ (f : Addr) (A : Around) (outer : List Env) (s : Shared) (H : Hp) (E : XK), Room k (A.deeper (envOfC x (defScope st) s.heap.objs.size f (.ref c))) →
      PSs (cxOf CX0 P w K mg base N x (defScope st) f (.ref c) A outer s H E).nox (defBody st) (upS K W0 t))
    (hq : ∀ ds S Q, S.all (Ob.cl S.length) = true → fs ds S Q → t { nx := fun _ S' => finM S.length Q (.dat .none) S', rt := finM S.length Q } (startD N.length ds) S) : Cal P w K mg base (k + 1) x (upF K fs) := by
  obtain ⟨f, fd, F', m, ok⟩ := F.ok (P := P) (w := w) (base := base) (CX := CX0) (k := k) (sp := upF K fs) S (fun vs H Q E h => by
    obtain ⟨G, φ, ds, S, Q', r, dv, dn, q⟩ := h
    rw [Paired.length dv]
    exact len ds S Q' q) fun f A outer s H vs Q E hr hs => ⟨upS K W0 t, (hbody f A outer s H E hr).nox, by
    obtain ⟨G, φ, ds, S, Q', r, dv, dn, q⟩ := hs
    have dnf := dn.finM
    rw [r.len] at dnf
    exact ⟨G, φ, _, S, { nx := fun _ S' => finM S.length Q' (.dat .none) S', rt := finM S.length Q' }, r, slots_start dv, ⟨fun ρ S' G' φ' σ' H' q' e' r' _ => dnf (.dat .none) _ _ _ _ _ q' e' r' .non, dnf, fun _ _ _ _ _ _ q' => q'.elim, fun _ _ _ _ _ _ q' => q'.elim, fun _ _ _ _ _ _ _ _ _ _ q' => q'.elim⟩, hq ds S Q' r.closed q⟩⟩
  exact ⟨f, fd, ps, ok, m, F'.kp, F'.bindsN hb⟩
end
end Rm
namespace Rm
open PySem PySem.Spec PyProof.Rows L2
end Rm

set_option Elab.async false
set_option linter.all false
set_option maxRecDepth 100000
set_option maxHeartbeats 4000000
namespace Rm
open PySem PySem.Spec PyProof.Rows L2 LamX
section
variable {X : Cx} {e : Expr} {te : DE} {P : Addr} {lq : Str}
end
def spLawT (K : PySem.W.Frag) (cs : List (Addr × Addr)) : Sp := fun vs H Q _ => ∃ (a : Addr) (ns : List Int), vs = [.ref a] ∧ SqL K H a (ns.map V.int) ∧ ns.length ≤ 63 ∧ (∀ p ∈ cs, H p.2 = some (.tbl #[])) ∧ ∀ H', Q (.bl true) H'
theorem zs_tabs (l : List (Addr × Str)) : zs (l.map fun p => ((p.1, []) : Foot)) = l.map (·.1) := by
  induction l with
  | nil => rfl
  | cons p l ih =>
    show [p.1] ++ zs (l.map fun p => ((p.1, []) : Foot)) = _
    rw [ih]
    rfl
theorem rel_springT {K : PySem.W.Frag} {st sl : Addr} {H : Hp} (hk : Sk st sl 0 H) (l : List (Addr × Str)) (hn : (l.map (·.1)).Nodup) (ht : ∀ p ∈ l, H p.1 = some (.tbl #[])) : Rel K (fun _ => none) ((st, [sl]) :: l.map fun p => (p.1, [])) (.spr 1000000 :: l.map fun p => .tab p.1 p.2) H := by
  have r0 := rel_spring (K := K) hk
  have n1 : ∀ p ∈ l, p.1 ≠ st ∧ p.1 ≠ sl := fun p hp => by
    obtain ⟨ne, r, m, ns, g1, g2, q⟩ := hk
    have h := ht p hp
    exact ⟨fun z => (by rw [z, g1] at h; cases h), fun z => (by rw [z, g2] at h; cases h)⟩
  have zz : zs ((st, [sl]) :: l.map fun p => ((p.1, []) : Foot)) = st :: sl :: l.map (·.1) := by
    show [st, sl] ++ zs (l.map fun p => ((p.1, []) : Foot)) = _
    rw [zs_tabs]
    rfl
  refine ⟨fun b o e => (by cases e), by simp, ?_, fun a ha => ?_, fun i f o hf ho => ?_, fun i f o hf ho _ a ha => rfl⟩
  · rw [zz]
    have := r0.nd
    have e2 : zs [((st, [sl]) : Foot)] = [st, sl] := rfl
    rw [e2] at this
    refine List.nodup_cons.mpr ⟨fun h => ?_, List.nodup_cons.mpr ⟨fun h => ?_, hn⟩⟩
    · rcases List.mem_cons.mp h with h | h
      · rw [h] at this; simp at this
      · obtain ⟨p, hp, e⟩ := List.mem_map.mp h
        exact (n1 p hp).1 e
    · obtain ⟨p, hp, e⟩ := List.mem_map.mp h
      exact (n1 p hp).2 e
  · rw [zz] at ha
    rcases List.mem_cons.mp ha with rfl | ha
    · exact r0.on _ (by show a ∈ [a, sl]; simp)
    · rcases List.mem_cons.mp ha with rfl | ha
      · exact r0.on _ (by show a ∈ [st, a]; simp)
      · obtain ⟨p, hp, rfl⟩ := List.mem_map.mp ha
        rw [ht p hp]
        exact fun z => nomatch z
  · cases i with
    | zero => exact (r0.ob 0 f o (by simpa using hf) (by simpa using ho)).mono (.refl _) ⟨l.map fun p => (p.1, []), rfl⟩
    | succ i =>
      simp only [List.getElem?_cons_succ, List.getElem?_map] at hf ho
      cases h : l[i]? with
      | none => rw [h] at hf; cases hf
      | some p =>
        rw [h] at hf ho
        cases hf
        cases ho
        exact ⟨rfl, #[], ht p (List.mem_of_getElem? h), by unfold TriplesOk; simp, fun pos cv z => by simp [codeAmong] at z⟩
theorem law_inT {K : PySem.W.Frag} {st sl : Addr} {H : Hp} {t : DSm} {E : Ends} {σ : L2.St} {n : Nat} (l : List (Addr × Str)) (hn : (l.map (·.1)).Nodup) (ht : ∀ p ∈ l, H p.1 = some (.tbl #[])) (hk : Sk st sl 0 H) (hl : σ.length = n + 2) (h1 : σ[1]? = some (some (.ref st))) (hQ : ∀ H', E.rt (.bl true) H')
    (h : t { nx := fun _ _ => False, rt := fun d _ => d = .dat (.bool true) } (none :: some (.ref 0) :: List.replicate n none) (.spr 1000000 :: l.map fun p => .tab p.1 p.2)) : upS K W0 t E σ H := by
  refine ⟨fun _ => none, _, _, _, { nx := fun _ _ => False, rt := fun d _ => d = .dat (.bool true) }, rel_springT hk l hn ht, ⟨by simp [hl], fun i d hd => ?_⟩, ⟨fun _ _ _ _ _ _ q => q.elim, fun d S' G' φ' v H' q _ _ dv => ?_, fun _ _ _ _ _ _ q => q.elim, fun _ _ _ _ _ _ q => q.elim, fun _ _ _ _ _ _ _ _ _ _ q => q.elim⟩, h⟩
  · match i, hd with
    | 0, hd => simp at hd
    | 1, hd =>
      simp at hd
      subst hd
      exact ⟨_, h1, _, rfl, rfl⟩
    | i + 2, hd =>
      simp only [List.getElem?_cons_succ, List.getElem?_replicate] at hd
      split at hd <;> cases hd
  · subst q
    rw [dq_bl dv]
    exact hQ _
end Rm

set_option Elab.async false
set_option linter.all false
set_option maxRecDepth 100000
set_option maxHeartbeats 4000000
namespace Rm
open PySem PySem.Spec PyProof.Rows L2
def dgLst (n : Nat) (t : DGts) : DGt := fun d ρ S Q => ∃ ps, rd S d = some (.list ps) ∧ ps.length = n ∧ t (ps.map .dat) ρ S Q
theorem dg_lst {X : Cx} {es : List Expr} {k : Nat} {gs : DGts} {n : Nat} {pos : Pos} (hc : X.calm = true) (h : PGs X es (upGs X.K gs))
    (hn : (assignEach es X.env).length = n := by rfl) (hst : (assignEach es X.env).findIdx? (·.1) = none := by rfl) : PG X (.Tuple es k pos) (upG X.K (dgLst n gs)) := (pg_lst hc h hn hst).imp fun v σ H Q ⟨G, φ, ρ, S, d, Q', r, sl, dv, dn, ps, e, hl, q⟩ => by
  obtain ⟨a, vs, rfl, h4, h5⟩ := r.rd dv e
  exact ⟨a, vs, rfl, SqL.of h4, by rw [h5.len]; exact hl, G, φ, ρ, S, _, Q', r, sl, paired_dat h5, dn, q⟩
end Rm

set_option Elab.async false
set_option linter.all false
set_option maxRecDepth 100000
set_option maxHeartbeats 4000000
namespace Rm
open PySem PySem.Spec PyProof.Rows L2
section
variable {X : Cx} {pins : List (Addr × Obj)} {σ : L2.St} {H : Hp} {s : Shared}
theorem inv_track {a : Addr} {cls : Value} {d : Option Addr} {oe : Obj} {vs : Array Value} (I : Inv X pins σ H s) (ha : s.heap.get? a = some oe) (hz : Zc cls d oe) (hd : oe.data = .fields vs) (hn : H a = none) (h0 : X.s_0.heap.get? a = none) (hL : a ≠ X.env.locals)
    (hp : ∀ p ∈ X.pn ++ pins, p.1 ≠ a) : Inv X pins σ (upd H a (ExK cls d a)) s := by
  have cellNe : ∀ {x c}, X.env.cells.lookup x = some c → c ≠ a := fun {x c} e z => by
    subst z
    obtain ⟨v, o, ho, hcd⟩ := I.cell x c e
    rw [ha] at ho
    cases ho
    rw [hd] at hcd
    cases hcd
  have sm : ∀ b u, H b = some u → b ≠ a := fun b u e z => by rw [z, hn] at e; cases e
  have b0 := I.base
  refine ⟨I.ok, I.os, I.bare, ⟨b0.keep, b0.slot, fun b o e n x => ?_, b0.there, fun b xs e => ?_, fun b o u e => ?_, fun b ps e => ?_⟩, I.loc, I.cell, ?_, fun x c e => ?_, fun p hpp => ?_, fun b u e => ?_, I.len⟩
  · rw [upd_ne fun z => by rw [z, h0] at e; cases e]; exact b0.free b o e n x
  · have q := b0.tups b xs e; rw [upd_ne (sm _ _ q)]; exact q
  · have q := b0.frzs b o u e; rw [upd_ne (sm _ _ q)]; exact q
  · obtain ⟨m, q⟩ := b0.tbls b ps e; exact ⟨m, by rw [upd_ne (sm _ _ q)]; exact q⟩
  · rw [upd_ne (Ne.symm hL)]; exact I.free
  · rw [upd_ne (cellNe e)]; exact I.freeC x c e
  · obtain ⟨p1, p2, p3⟩ := I.pin p hpp
    exact ⟨p1, by rw [upd_ne (hp p hpp)]; exact p2, p3⟩
  · by_cases hb : b = a
    · subst hb
      rw [upd_same] at e
      cases e
      exact ⟨⟨oe, vs, ha, hz, hd⟩, ⟨oe, ha⟩, fun _ _ ⟨o, v, q, r⟩ k => ⟨o, v, k o q, r⟩⟩
    · rw [upd_ne hb] at e
      exact (I.hok b u e).stay (fun c v _ q => q) (fun c q => by rw [upd_ne (sm _ _ q)]; exact q) fun c xs q => by rw [upd_ne (sm _ _ q)]; exact q
end
def wKeep (K : PySem.W.Frag) (c : Value) (n i : Nat) (tS : Addr → Value → Option Addr → TS) (D : Ends) : WX := fun cl dx τ G =>
  PySem.W.exmOne K cl c = some true ∧ (τ.length = n → ∀ b, G b = none → tS b cl dx { nx := fun τ2 G2 => G2 b = none → D.nx (τ2.set i none) (upd G2 b (ExK cl dx b)), rt := fun _ _ => False, bk := fun _ _ => False, ct := fun _ _ => False } (τ.set i (some (.ref b))) G)
section
variable {X : Cx} {y m : Str} {c : Value} {i : Nat} {bd st : List Stmt} {s₀ : Stmt} {q1 q2 q3 : Pos} {tb : WX → TS} {tS : Addr → Value → Option Addr → TS}
theorem ps_tryK (hst : X.stack = X.env :: X.outer) (hfm : X.env.frame = some X.env.locals) (hnd : X.N.Nodup) (him : X.N[i]? = some m) (hlo : X.env.kindOf m = some .local) (hcl : Names X y c) (hex : X.ex = [])
    (hbody : ∀ (W : WX) (pn : List (Addr × Obj)) (xe : Value → Shared → Prop), Takes (X.tr pn xe) W → PSs (X.tr pn xe) bd (tb W))
    (hsuite : ∀ (b : Addr) (ob : Obj) (cl : Value) (dx : Option Addr) (pn : List (Addr × Obj)), Zc cl dx ob → (∃ ws, ob.data = .fields ws) → PSs (X.suite b ((b, ob) :: pn)) (s₀ :: st) (tS b cl dx)) :
    PS X (.Try bd [.ExceptHandler (some (.Name y q1)) (some m) (s₀ :: st) q2] [] [] q3) (fun D τ G => tb (wKeep X.K c X.N.length i tS D) D τ G) := by
  refine ⟨fun pins s τ G D J0 hin => ?_⟩
  have good := J0.ok
  have frm : X.A.frames = some (X.env :: X.outer) := by rw [good.frames, hst]
  refine wpAny_Try_except ?_
  let caught : Value → Shared → Prop := fun u z => wpAny (model X.prog X.w) X.A (noteFrame u X.env) (fun _ z2 => wpAny (model X.prog X.w) X.A (setFlight u none) (fun _ z3 => wpAny (model X.prog X.w) X.A (handleBy u X.env [.ExceptHandler (some (.Name y q1)) (some m) (s₀ :: st) q2]) (SP X pins D) X.xe z3) X.xe z2) X.xe z
  have run := (hbody (wKeep X.K c X.N.length i tS D) (X.pn ++ pins) caught (fun u z xx => ?_)).run [] s τ G D (J0.toTry _) hin
  · refine wpAny_mono run (fun fl z hz => ?_) fun _ _ hz => hz
    cases fl with
    | next => obtain ⟨τ1, G1, J1, w1⟩ := hz; exact wpAny_execs_nil ⟨τ1, G1, J1.ofTry good, w1⟩
    | brk => obtain ⟨τ1, G1, J1, w1⟩ := hz; exact ⟨τ1, G1, J1.ofTry good, w1⟩
    | cont => obtain ⟨τ1, G1, J1, w1⟩ := hz; exact ⟨τ1, G1, J1.ofTry good, w1⟩
    | ret v => obtain ⟨x1, τ1, G1, J1, r1, w1⟩ := hz; exact ⟨x1, τ1, G1, J1.ofTry good, r1, w1⟩
  · obtain ⟨b, B, zI, _, τ1, G1, cl, dx, rfl, J1, new, upS, sk, nb, eos, bare, yes, go⟩ := xx
    have J2 : Inv X pins τ1 G1 zI := J1.ofTry good
    rw [hst] at sk
    show wpAny (model X.prog X.w) X.A (noteFrame (.ref b) X.env) _ _ _
    refine Sky.land Zc.steady frm hfm sk fun h1 f1 u1 => ?_
    have J3 : Inv X pins τ1 G1 { z with heap := h1 } := J2.landed new f1.1 (upS.trans u1) eos bare
    obtain ⟨o1, w1, g1, z1, d1⟩ := f1.there
    have out : b ∉ frs (X.env :: X.outer) := fun hm => by
      obtain ⟨_, o', e', hnf⟩ := f1.2.2.1.mem hm
      rw [g1] at e'
      cases e'
      exact hnf _ d1
    have bL : b ≠ X.env.locals := fun e => out (List.mem_filterMap.mpr ⟨X.env, List.mem_cons_self, by rw [hfm, e]⟩)
    have bF : b ∉ X.fs := fun hm => by
      obtain ⟨ev, h2, h3⟩ := List.mem_filterMap.mp hm
      exact out (List.mem_filterMap.mpr ⟨ev, List.mem_cons_of_mem _ h2, h3⟩)
    have nI : zI.heap.get? b = none := by
      cases e : zI.heap.get? b with
      | none => rfl
      | some o =>
        have := new b o e (by rw [hst]; exact out)
        rw [f1.2.1] at this
        cases this
    have n0 : X.s_0.heap.get? b = none := by
      cases e : X.s_0.heap.get? b with
      | none => rfl
      | some o =>
        obtain ⟨o', e'⟩ := J2.base.there b o e (by rw [hex]; exact fun h => nomatch h)
        rw [nI] at e'
        cases e'
    have np : ∀ p ∈ X.pn ++ pins, p.1 ≠ b := fun p hp e => by
      have := (J2.pin p hp).1
      rw [e, nI] at this
      cases this
    have S1 := J3.suite g1 d1 nb bL bF
    refine wpAny_handleBy_cons (codeAny_handlers_test ?_) (by intro h; cases h)
    have look : PySem.W.Looks (model X.prog X.w) h1 (typeOf (.ref b)) cl := fun _ _ _ _ k h => wpAny_typeOf_ref (k _ _ g1) (by rw [z1.1]; exact h)
    have one := PySem.W.exm_one (M := model X.prog X.w) J3.kIn look yes
    have name : ∀ {R R' : Value → Shared → Prop}, R c { z with heap := h1 } → wpAny (model X.prog X.w) (X.A.mark (some (.ref b))) (eval (.Name y q1) X.env) R R' { z with heap := h1 } := fun {R R'} h => by
      obtain ⟨n1, n2, n3 | ⟨n3, n4, n5⟩⟩ := hcl
      · exact ld_glob (X := X.suite b ((b, o1) :: (X.pn ++ pins))) S1 n1 n3 h n2
      · exact ld_blt (X := X.suite b ((b, o1) :: (X.pn ++ pins))) S1 n1 n3 n4 h n5 n2
    refine name (one.here ?_)
    refine codeAny_handlers_suite_as (HandSPX.lands_againZ f1 fun h2 f2 u2 => ?_)
    have J4 : Inv X pins τ1 G1 { z with heap := h2 } := J2.landed new f2.1 ((upS.trans u1).trans u2) eos bare
    obtain ⟨o2, w2, g2, z2, d2⟩ := f2.there
    have S2 := J4.suite g2 d2 nb bL bF
    refine store_ok (X := X.suite b ((b, o2) :: (X.pn ++ pins))) (v := .ref b) S2 hnd him (.inl hlo) rfl (fun z5 S5 => ?_) (.inr hlo)
    refine wpAny_mono ((hsuite b o2 cl dx (X.pn ++ pins) z2 ⟨_, d2⟩).run [] z5 _ G1 _ S5 (go J1.len b nb)) (fun fl z6 hz => ?_) fun _ _ hz => hz.elim
    cases fl with
    | next =>
      obtain ⟨τ6, G6, S6, w6⟩ := hz
      obtain ⟨p1, p2, _⟩ := S6.pin (b, o2) (List.mem_append_left _ (List.mem_cons_self ..))
      have J6 := inv_track (S6.unsuite good) p1 z2 d2 p2 n0 bL np
      exact gone_ok J6 hnd him hlo fun z7 J7 => ⟨_, _, J7, w6 p2⟩
    | brk => obtain ⟨_, _, _, w6⟩ := hz; exact w6.elim
    | cont => obtain ⟨_, _, _, w6⟩ := hz; exact w6.elim
    | ret v => obtain ⟨_, _, _, _, _, w6⟩ := hz; exact w6.elim
end
end Rm

set_option Elab.async false
set_option linter.all false
set_option maxRecDepth 100000
set_option maxHeartbeats 4000000
namespace Rm
open PySem PySem.Spec PyProof.Rows L2 LamX
def MadeL (H : Hp) (P : Addr) (q : Str) (ps : Array Value) (H1 : Hp) : Prop := H1 = H ∨ ∃ (pos : Pos) (c : Addr), H c = none ∧ H1 = upd (upd H P (.tbl (ps ++ #[rawInt pos.line, rawInt pos.col, .ref c]))) c (CodeO c q)
section
variable {X : Cx} {pins : List (Addr × Obj)} {σ : L2.St} {H : Hp} {s : Shared}
theorem lam_makeE {c P : Addr} {ps : Array Value} {params : Arguments} {body : Expr} {scope : Scope} {pos : Pos} {E : Value → Shared → Prop} {Q : Value → Shared → Prop} (I : Inv X pins σ H s) (B : TabB X.base X.mg c P) (hcode : X.env.code = .ref c)
    (hP : H P = some (.tbl ps)) (ht : TriplesOk ps.toList) (ha : TabH H (X.env.qual ++ "<lambda>") ps) (hdef : defaultsOf params X.env = ([], [])) (L : LamS X.env.scope scope)
    (k : ∀ (f c' : Addr) (pm ctv : Value) (H1 : Hp) (z : Shared), Inv X pins σ H1 z → MadeL H P (X.env.qual ++ "<lambda>") ps H1 →
      z.heap.get? f = some (PySem.W.kla_obj "<lambda>" (X.env.qual ++ "<lambda>") params body scope (cloFrom X.env.cells scope.names []) pm c' ctv) → H1 f = none → f ∉ frs X.stack → H1 c' = some (CodeO c' (X.env.qual ++ "<lambda>")) → Q (.ref f) z) :
    wpAny (model X.prog X.w) X.A (eval (.Lambda params body scope pos) X.env) Q E s := by
  have bP : s.heap.BuiltinsAt X.mg P := B.bm.keeps I.bk
  have oP : s.heap.get? P = some { cls := .none, data := .fields ps } := I.hok P _ hP
  have cl : closureFor scope X.env = pure (cloFrom X.env.cells scope.names []) := closure_ok (L.has I.ok)
  have notF : ∀ f, s.heap.objs.size ≤ f → f ∉ frs X.stack := fun f hf hm => by
    rcases List.mem_cons.mp (I.stkSub _ hm) with e | e
    · have w : X.env.locals < s.heap.objs.size := I.lt
      exact Nat.lt_irrefl _ (Nat.lt_of_lt_of_le w (e ▸ hf))
    · exact I.nofs hf e
  refine PySem.W.kla_eval hdef ?_
  match hc : codeAmong pos ps.toList with
  | some cv =>
    obtain ⟨c', rfl, hco⟩ := ha pos cv hc
    refine PySem.W.kla_makeFunctionHit (mg := X.mg) (c := c) (P := P) (ps := ps) cl I.ok.glob (I.mod.glob.keeps I.bk) hcode (B.code.keeps I.bk) oP ht hc bP fun ctv h' tk hx hsz => ?_
    exact k h'.objs.size c' _ ctv H _ (I.kept (t' := tk) fun b o e => Heap.get?_push_of_some _ (hx b o e)) (.inl rfl) (Heap.get?_push_size _ rfl) (I.hok.fresh hsz) (notF _ hsz) hco
  | none =>
    refine PySem.W.kla_makeFunction (mg := X.mg) (c := c) (P := P) (ps := ps) cl I.ok.glob (I.mod.glob.keeps I.bk) hcode (B.code.keeps I.bk) oP ht hc B.gP bP fun c' ctv h' tk hx hge hlt hrec htb => ?_
    obtain ⟨_, oc, vs, t, e2, hoc, hd, hv⟩ := hrec
    cases e2
    have hsz : s.heap.objs.size ≤ h'.objs.size := by omega
    have nC : H c' = none := I.hok.fresh hge
    have J := inv_table (t' := tk) (more := #[rawInt pos.line, rawInt pos.col, .ref c']) (h' := h'.push (PySem.W.kla_obj "<lambda>" (X.env.qual ++ "<lambda>") params body scope (cloFrom X.env.cells scope.names []) ((X.mg "__name__").getD .none) c' ctv)) I hP (fun b o hb e => Heap.get?_push_of_some _ (hx b o hb e)) (Heap.get?_push_of_some _ htb) hge ⟨oc, vs, t, Heap.get?_push_of_some _ hoc, hd, hv⟩
    refine k h'.objs.size c' _ ctv _ _ J (.inr ⟨pos, c', nC, rfl⟩) (Heap.get?_push_size _ rfl) ?_ (notF _ hsz) upd_same
    have n1 : h'.objs.size ≠ c' := by omega
    have n2 : h'.objs.size ≠ P := Nat.ne_of_gt (Nat.lt_of_lt_of_le (Heap.lt_size oP) hsz)
    rw [upd_ne n1, upd_ne n2]
    exact I.hok.fresh hsz
end
def tLamE (P : Addr) (q : Str) (TT : (XK → Hp → VK → Prop) → Hp → VK → Prop) (t : XK → TE) : TE := fun σ H Q => ∃ ps, H P = some (.tbl ps) ∧ TriplesOk ps.toList ∧ TabH H q ps ∧ ∀ H1, MadeL H P q ps H1 → TT (fun E H' Q' => t E σ H' Q') H1 Q
section
variable {X : Cx}
theorem pe_lamE {TT : (XK → Hp → VK → Prop) → Hp → VK → Prop} {x a : Str} {g c P : Addr} {k : Nat} {pg : Arguments} {bg : List Stmt} {sg : Scope} {dV kV doc pm cdv ct oc : Value} {an od : Option Addr} {osl : Array (Option Value)} {Ng : List Str}
    {params : Arguments} {body : Expr} {scope : Scope} {t : XK → TE} {p lpos pos : Pos} (hg : Gl X x) (hm : X.mg x = some (.ref g)) (hk : PySem.W.keepIn X.K (.ref g) = true)
    (lk : X.K.lookup g = some ⟨oc, od, .func (PySem.W.fnOf x x pg bg sg dV kV doc pm an cdv ct), osl⟩) (hcg : PySem.W.codeIn X.K cdv x = true) (hb : L2.Binds X.K (PySem.W.fnOf x x pg bg sg dV kV doc pm an cdv ct) [a] []) (Sg : FnScope Ng [a] sg) (hNg : Ng[0]? = some a) (hva : Vis sg a)
    (hG : GivesTo X Ng x sg g cdv bg a (X.env.qual ++ "<lambda>") TT)
    (TB : TabB X.base X.mg c P) (hcode : X.env.code = .ref c) (hr : Room (k + 2) X.A) (L : LamS X.env.scope scope) (hdef : defaultsOf params X.env = ([], []))
    (hbind : ∀ (q : Str) (cl : List (Str × Addr)) (pm cv ctv : Value), bindArgs (PySem.W.kla_fn "<lambda>" q params body scope cl pm cv ctv) ⟨[], []⟩ = pure [])
    (hbody : ∀ (A : Around) (outer : List Env) (s : Shared) (H : Hp) (E : XK) (f c' : Addr), Room k (A.deeper (lamEnv X scope s.heap.objs.size f c')) → PE (lamCx X A outer s H E scope f c') body (t E))
    (hdb : (x == ("__debug__" : Str)) = false := by decide) (hd : (a == ("__debug__" : Str)) = false := by decide) (hcd : (a == ("__classdict__" : Str)) = false := by decide) :
    PE X (.Call (.Name x p) [.Lambda params body scope lpos] [] pos) (tLamE P (X.env.qual ++ "<lambda>") TT t) := by
  refine ⟨fun pins s σ H Q I ⟨ps, hP, hT, hTb, h⟩ => ?_⟩
  refine wpAny_Call_Name_kw (ld_glob I hg hm ?_ hdb)
  refine PySem.W.callWith_K (h₀ := X.base) I.ok.mod.kin hk ?_ (by rfl) (by rfl)
  show wpAny _ _ (spliced ((false, eval (.Lambda params body scope lpos) X.env) :: backTo pos (starEach [] X.env))) _ _ s
  refine Calls.spliced_cons (lam_makeE I TB hcode hP hT hTb hdef L fun f c' pm' ctv H1 z J mk hf hfn hfr hco => Calls.spliced_nil ⟨J.kIn, ?_⟩)
  have rc : codeAny (model X.prog X.w) X.A (.call (.ref g) ⟨[.ref f], []⟩) (CR C8.CX0 X.stack X.prog X.w H1 z Q C8.E0) z := by
    refine run_ofS (N := Ng) (ps := [a]) (us := [.ref f]) (vs := [.ref f]) lk hcg Sg hr J.env0 (hb z [.ref f] J.kIn rfl) (.cons rfl .nil) rfl fun room => ?_
    obtain ⟨t1, h1, w1⟩ := hG f c' z H1 Q (fun E H' Q' => t E σ H' Q') (fun W pn xe E p1 p2 tk hW => pe_act (i := 0) J L hf hfn hfr (hbind _ _ _ _ _) tk hW room (fun A outer s H r2 => hbody A outer s H E f c' r2) hNg hva hd hcd) hco (h H1 mk)
    exact ⟨t1, h1.nox, w1⟩
  refine wpAny_call (codeAny_mono rc fun r z2 hz => ?_)
  rcases r with e | fl
  · exact (show False from hz).elim
  · cases fl with
    | ret u => exact J.after hz
    | next => exact hz.elim
    | brk => exact hz.elim
    | cont => exact hz.elim
end
end Rm

set_option Elab.async false
set_option linter.all false
set_option maxRecDepth 100000
set_option maxHeartbeats 4000000
namespace Rm
open PySem PySem.Spec PyProof.Rows L2 LamX
def TTried (K : PySem.W.Frag) (CM : Addr) : (XK → Hp → VK → Prop) → Hp → VK → Prop := fun tl H Q => ∀ p0, H p0 = none →
  tl (fun cls d H' => PySem.W.exmOne K cls (.ref CM) = some true ∧ ∀ b p, H' b = none → H' p = none → p ≠ b → Q (.ref p) (upd (upd H' p (.tup [.str "raised", .ref b])) b (ExK cls d b)))
    (upd H p0 (.tup [.str "odd", .non])) (fun v H' => ∀ p, H' p = none → Q (.ref p) (upd H' p (.tup [.str "told", v])))
section
variable {X : Cx} {Ng : List Str} {sg : Scope} {x a fn en y q : Str} {g CM : Addr} {cdg : Value} {j1 j2 j3 j4 k1 k2 k3 : Nat} {p1 p2 p3 p4 p5 p6 p7 p8 p9 p10 p11 p12 p13 p14 p15 p16 p17 p18 p19 p20 p21 p22 p23 : Pos}
theorem tried_gives (hN : Ng = [a, fn, en]) (hnd : Ng.Nodup) (ha : Vis sg a) (hf : sg.names.lookup fn = some .local) (he : sg.names.lookup en = some .local) (hy : sg.names.lookup y = some .globalImplicit) (hm : X.mg y = some (.ref CM)) (hdy : (y == ("__debug__" : Str)) = false)
    (hkind : sg.kind = .function)
    (hda : (a == ("__debug__" : Str)) = false ∧ (a == ("__classdict__" : Str)) = false) (hdf : (fn == ("__debug__" : Str)) = false ∧ (fn == ("__classdict__" : Str)) = false) (hde : (en == ("__debug__" : Str)) = false ∧ (en == ("__classdict__" : Str)) = false) :
    GivesTo X Ng x sg g cdg [.Assign [.Name fn p1] (.Tuple [.Constant (.str "odd") j1 p2, .Constant .none j2 p3] k1 p4) p5,
      .Try [.Assign [.Name fn p6] (.Tuple [.Constant (.str "told") j3 p7, .Call (.Name a p8) [] [] p9] k2 p10) p11] [.ExceptHandler (some (.Name y p12)) (some en) [.Assign [.Name fn p13] (.Tuple [.Constant (.str "raised") j4 p14, .Name en p15] k3 p16) p17] p18] [] [] p19,
      .Return (some (.Name fn p20)) p21] a q (TTried X.K CM) := by
  intro f c' s H Q tl act hc h
  subst hN
  have hgl : Gl (cxOf C8.CX0 X.prog X.w X.K X.mg X.base [a, fn, en] x sg g cdg X.A X.stack s H C8.E0).nox y := hy
  have nf : (cxOf C8.CX0 X.prog X.w X.K X.mg X.base [a, fn, en] x sg g cdg X.A X.stack s H C8.E0).nox.N[1]? = some fn := rfl
  refine ⟨_, pss_cons (ps_set (i := 1) hnd nf (.inl hf) (pe_tup (pa_cons pe_str (pa_cons pe_non pa_nil)))) (pss_cons (ps_tryK (X := (cxOf C8.CX0 X.prog X.w X.K X.mg X.base [a, fn, en] x sg g cdg X.A X.stack s H C8.E0).nox) (c := .ref CM) (i := 2)
      (tb := fun W D σ H => ∃ Ech : XK, (∀ cls d σ' H', Ech cls d H' → W cls d σ' H') ∧ σ[0]? = some (some (.ref f)) ∧ H c' = some (CodeO c' q) ∧ tl Ech H (fun v H1 => ∀ p, H1 p = none → D.nx (σ.set 1 (some (.ref p))) (upd H1 p (.tup [.str "told", v]))))
      (tS := fun b cl dx => tAsg (tTup (tCons (tC (.str "raised")) (tCons (tVar 2) tNil))) (gName 1))
      rfl rfl hnd rfl he ⟨hgl, hdy, .inl hm⟩ rfl (fun W pn xe tk => ?_) (fun b ob cl dx pn hz hd => pss_one (ps_set (i := 1) hnd nf (.inl hf) (pe_tup (pa_cons pe_str (pa_cons (pe_var (i := 2) rfl (.inl he) hde.1 hde.2) pa_nil))))))
      (pss_one (ps_ret (pe_var (i := 1) nf (.inl hf) hdf.1 hdf.2)))), ?_⟩
  · refine ⟨fun pins s' σ H' D I h' => ?_⟩
    obtain ⟨Ech, hW, h1, h2, h3⟩ := h'
    have told : PSs ((cxOf C8.CX0 X.prog X.w X.K X.mg X.base [a, fn, en] x sg g cdg X.A X.stack s H C8.E0).tr pn xe) [.Assign [.Name fn p6] (.Tuple [.Constant (.str "told") j3 p7, .Call (.Name a p8) [] [] p9] k2 p10) p11] _ := pss_one (ps_set (i := 1) hnd rfl (.inl hf) (pe_tup (pa_cons pe_str (pa_cons (act W pn xe Ech p8 p9 tk hW) pa_nil))))
    refine told.run pins s' σ H' D I ⟨h1, h2, cast (congrArg (tl Ech H') (funext fun v => funext fun H1 => ?_)) h3⟩
    simp [sizeLine, gName, tNil]
  · have hcp : ∀ p0, H p0 = none → upd H p0 (.tup [.str "odd", .non]) c' = some (CodeO c' q) := fun p0 hp => by rw [upd_ne (fun z => by rw [z, hp] at hc; cases hc)]; exact hc
    refine ⟨by decide, fun p0 hp0 => ⟨_, fun cls d σ' H' hx => ⟨hx.1, fun hl b hb => ⟨.ref b, ?_, by simp [sizeLine], fun p hp hg => ?_⟩⟩, rfl, hcp p0 hp0, cast (congrArg (tl _ _) (funext fun v => funext fun H1 => ?_)) (h p0 hp0)⟩⟩
    · have hl3 : σ'.length = 3 := hl
      exact List.getElem?_set_self (by omega)
    · have hl3 : σ'.length = 3 := hl
      refine ⟨.ref p, ?_, hx.2 b p hb hp fun z => ?_⟩
      · rw [List.getElem?_set_ne (by decide)]
        exact List.getElem?_set_self (by rw [List.length_set]; omega)
      · subst z
        rw [upd_same] at hg
        cases hg
    · simp [tRet, tVar, L2.start]
end
end Rm

set_option Elab.async false
set_option linter.all false
set_option maxRecDepth 100000
set_option maxHeartbeats 4000000
namespace Rm
open PySem PySem.Spec PyProof.Rows L2 LamX
def toldD : D → Option D
  | .dat p => some (.dat (.tuple [.str "told", p]))
  | .ref i => some (.tup [.inl (.str "told"), .inr i])
  | _ => none
theorem toldD_dat (p : PyData) : toldD (.dat p) = some (.dat (.tuple [.str "told", p])) := rfl
theorem toldD_ref (i : Nat) : toldD (.ref i) = some (.tup [.inl (.str "told"), .inr i]) := rfl
def dTried (K : PySem.W.Frag) (P : Addr) (q : Str) (CM : Addr) (t : DEX) : DE := fun ρ S Q => (∃ i : Nat, S[i]? = some (Ob.tab P q)) ∧ t ρ S (fun d S1 => ∃ x, toldD d = some x ∧ Q x S1) fun C fs S1 => PySem.W.exmOne K (.ref C) (.ref CM) = some true ∧ Q (.tupK "raised" C fs) S1
section
variable {X : Cx} {e : Expr} {P CM : Addr} {q : Str} {t : DEX}
theorem de_tried (h : PE X e (tLamE P q (TTried X.K CM) fun E => upX X.K (fun cls d _ H' => E cls d H') t)) : PE X e (up X.K (dTried X.K P q CM t)) := h.imp fun σ H Q ⟨G, φ, ρ, S, Q', r, sl, dn, hi, q1⟩ => by
  obtain ⟨i, hi⟩ := hi
  have li : i < φ.length := by rw [r.len]; exact (List.getElem?_eq_some_iff.mp hi).1
  obtain ⟨f, hf⟩ : ∃ f, φ[i]? = some f := ⟨_, List.getElem?_eq_getElem li⟩
  obtain ⟨ef, ps, hP, hT, ha⟩ := r.ob i f _ hf hi
  have main : ∀ (H1 : Hp) (G1 : Hp), Rel X.K G1 φ S H1 → Ext G φ H G1 φ H1 → TTried X.K CM (fun E H' Q' => upX X.K (fun cls d _ H' => E cls d H') t σ H' Q') H1 Q := fun H1 G1 r1 e1 p0 hp0 => by
    obtain ⟨r2, e2⟩ := r1.newD (o := .tup [.str "odd", .non]) hp0
    refine ⟨_, φ, ρ, S, _, _, r2, sl.ext (e1.trans e2), fun d S' G' φ' v H' q2 e3 r3 dv p hp => ?_, fun C fs S' G' φ' d vs H' q2 e3 r3 h1 h2 => ?_, q1⟩
    · obtain ⟨x, hx, q2⟩ := q2
      obtain ⟨r4, e4⟩ := r3.newD (o := .tup [.str "told", v]) hp
      refine dn _ _ _ _ _ _ q2 (((e1.trans e2).trans e3).trans e4) r4 ?_
      cases d with
      | dat pd => cases hx; exact .tup (SqT.of upd_same) (.cons (.str _) (.cons (Dq.mono e4.g dv) .nil))
      | ref j =>
        cases hx
        obtain ⟨g, g1, g2⟩ := dv
        exact ⟨p, _, rfl, SqT.of upd_same, .cons (Dq.str _) (.cons ⟨g, g1, g2⟩ .nil)⟩
      | _ => cases hx
    · refine ⟨q2.1, fun b p hb hp hne => ?_⟩
      obtain ⟨r4, e4⟩ := r3.newD (o := .tup [.str "raised", .ref b]) hp
      have hb' : upd H' p (.tup [.str "raised", .ref b]) b = none := by rw [upd_ne (Ne.symm hne)]; exact hb
      obtain ⟨r5, e5⟩ := r4.newD (o := ExK (.ref C) (some d) b) hb'
      refine dn _ _ _ _ _ _ q2.2 (((e1.trans e2).trans e3).trans (e4.trans e5)) r5 ⟨p, .ref b, rfl, SqT.of (by rw [upd_ne hne]; exact upd_same), b, d, vs, rfl, upd_same, (e4.trans e5).g _ _ h1, L2.Paired.mapP h2 fun _ _ z => ⟨z.1, Dq.mono (e4.trans e5).g z.2⟩⟩
  refine ⟨ps, hP, hT, fun pos cv z => ?_, fun H1 mk => ?_⟩
  · obtain ⟨c, e3, e4⟩ := ha pos cv z
    exact ⟨c, e3, r.sub _ _ e4⟩
  · rcases mk with rfl | ⟨pos, c, nc, rfl⟩
    · exact main _ G r .refl
    · obtain ⟨G1, r1, e1⟩ := r.tabNew (pos := pos) hi hP nc hT ha
      exact main _ G1 r1 e1
theorem takes_lam {A : Around} {outer : List Env} {s : Shared} {H : Hp} {E : XK} {scope : Scope} {f c' : Addr} : Takes (lamCx X A outer s H E scope f c') (fun cls d _ H => E cls d H) := takes_of rfl rfl rfl rfl
theorem pe_triedD {Ng : List Str} {x a : Str} {st : Stmt} {c : Addr} {k : Nat} {params : Arguments} {body : Expr} {scope : Scope} {p lpos pos : Pos} (F : Df X.K X.mg x st) (hg : Gl X x) (hb : ∀ (kV doc pm : Value) (an : Option Addr) (cdv ct : Value) (us : List Value), us.length = [a].length → bindArgs (PySem.W.fnOf x x (defArgs st) (defBody st) (defScope st) .none kV doc pm an cdv ct) ⟨us, []⟩ = pure ([a].zip us))
    (Sg : FnScope Ng [a] (defScope st)) (hNg : Ng[0]? = some a) (hva : Vis (defScope st) a) (hG : ∀ g cdv, GivesTo X Ng x (defScope st) g cdv (defBody st) a q (TTried X.K CM)) (hq : X.env.qual ++ "<lambda>" = q)
    (TB : TabB X.base X.mg c P) (hcode : X.env.code = .ref c) (hr : Room (k + 2) X.A) (L : LamS X.env.scope scope) (hdef : defaultsOf params X.env = ([], []))
    (hbind : ∀ (q : Str) (cl : List (Str × Addr)) (pm cv ctv : Value), bindArgs (PySem.W.kla_fn "<lambda>" q params body scope cl pm cv ctv) ⟨[], []⟩ = pure [])
    (hbody : ∀ (A : Around) (outer : List Env) (s : Shared) (H : Hp) (E : XK) (f c' : Addr), Room k (A.deeper (lamEnv X scope s.heap.objs.size f c')) → Takes (lamCx X A outer s H E scope f c') (fun cls d _ H => E cls d H) → PE (lamCx X A outer s H E scope f c') body (upX X.K (fun cls d _ H' => E cls d H') t))
    (hdb : (x == ("__debug__" : Str)) = false := by decide) (hd : (a == ("__debug__" : Str)) = false := by decide) (hcd : (a == ("__classdict__" : Str)) = false := by decide) :
    PE X (.Call (.Name x p) [.Lambda params body scope lpos] [] pos) (up X.K (dTried X.K P q CM t)) := by
  subst hq
  obtain ⟨g, fd, FD, hm⟩ := F.ex
  have hB := FD.bindsN hb
  obtain ⟨oc, od, dV, kV, doc, pm, an, cdv, ct, osl, rfl, lk, hcd', _, _⟩ := FD.ex
  exact de_tried (pe_lamE hg hm FD.kp lk hcd' hB Sg hNg hva (hG _ _) TB hcode hr L hdef hbind (fun A outer s H E f c' r => hbody A outer s H E f c' r takes_lam) hdb hd hcd)
end
section
variable {K : PySem.W.Frag} {X : Cx} {pins : List (Addr × Obj)} {σ : L2.St} {H : Hp} {s : Shared}
theorem kit_kept {C a dd : Addr} {fs : List (Str × V)} (T : IsC X.K C) (I : Inv X pins σ H s) (ea : H a = some (ExK (.ref C) (some dd) a)) (ed : H dd = some (.xd fs)) :
    ∃ P : Heap → Prop, PySem.W.KitX X.K (.ref a) (.ref C) P ∧ P s.heap := by
  obtain ⟨⟨oe, vs, ha, hz, hd⟩, _, _⟩ := I.hok a _ ea
  have hx : ObjOk X.prog X.w H s.heap dd (.xd fs) := I.hok dd _ ed
  obtain ⟨mA, hns, hr⟩ := hx
  obtain ⟨od, ho, hl⟩ := lookIn_ns hns
  have J : PySem.W.InstAt s.heap a oe C (some od) := ⟨ha, hz.1, by unfold PySem.W.notCls; rw [hd] <;> rfl, by rw [hz.2]; exact ho⟩
  obtain ⟨cd, hcd, _⟩ := PySem.W.any_some T.hd
  exact ⟨_, PySem.W.kitx_exc (by rw [hcd]; rfl) T.hg T.hk T.hs T.ha T.hn T.ht T.hm, J⟩
end
def rIsK (K : PySem.W.Frag) (C : Addr) : List V → Hp → VK → Prop := fun xs H Q => ∃ (a dd : Addr) (fs : List (Str × V)) (c : V) (cv : Value) (b : Bool), xs = [.ref a, c] ∧ H a = some (ExK (.ref C) (some dd) a) ∧ H dd = some (.xd fs) ∧ ClsV c cv ∧ PySem.W.kitOne K (.ref C) cv = some b ∧ Q (.bl b) H
def rIsKT (K : PySem.W.Frag) (C : Addr) : List V → Hp → VK → Prop := fun xs H Q => ∃ (a dd tp : Addr) (fs : List (Str × V)) (cs : List V) (us : List Value) (b : Bool), xs = [.ref a, .ref tp] ∧ H a = some (ExK (.ref C) (some dd) a) ∧ H dd = some (.xd fs) ∧ H tp = some (.tup cs) ∧ Paired ClsV cs us ∧ PySem.W.kitAny K (.ref C) us = some b ∧ Q (.bl b) H
section
variable {X : Cx} {C : Addr}
theorem call_isK (T : IsC X.K C) : CallR X (.builtin "isinstance") (rIsK X.K C) := by
  intro pins s σ H xs us Q I r h
  obtain ⟨a, dd, fs, c, cv, b, rfl, ea, ed, hc, e, q⟩ := h
  obtain ⟨u1, u2, rfl, r1, r2⟩ := vals2 r
  have e2 := hc.eq r2
  subst e2
  cases (show u1 = Value.ref a from r1)
  obtain ⟨P, Z, p⟩ := kit_kept T I ea ed
  exact PySem.W.kia_one Z I.kIn p e (fun z => nomatch z) fun tk => ⟨.bl b, H, I.tok tk, rfl, q⟩
theorem call_isKT (T : IsC X.K C) : CallR X (.builtin "isinstance") (rIsKT X.K C) := by
  intro pins s σ H xs us Q I r h
  obtain ⟨a, dd, tp, fs, cs, ws, b, rfl, ea, ed, hT, k, e, q⟩ := h
  obtain ⟨u1, u2, rfl, r1, r2⟩ := vals2 r
  cases (show u1 = Value.ref a from r1)
  cases (show u2 = Value.ref tp from r2)
  obtain ⟨P, Z, p⟩ := kit_kept T I ea ed
  obtain ⟨_, its, rv, o, h1, h2, n, h3⟩ := (show ObjOk X.prog X.w H s.heap tp (.tup cs) from I.hok tp _ hT)
  have e3 := ClsV.all k rv
  subst e3
  obtain ⟨oc, od, dt, sl⟩ := o
  simp only at h2 h3
  subst h2 h3
  exact PySem.W.kia_tup Z I.kIn p h1 e (fun z => nomatch z) fun tk => ⟨.bl b, H, I.tok tk, rfl, q⟩
end
def dIsK (C : Addr) (b : Bool) (te : DE) : DE := fun ρ S Q => te ρ S fun x S1 => ∃ fs, x = .exk C fs ∧ Q (.dat (.bool b)) S1
section
variable {X : Cx} {C : Addr} {c c2 : V} {cv cv2 : Value} {b : Bool} {e ec ec2 : Expr} {te : DE} {p pos tpos : Pos} {kt : Nat}
theorem de_isK (T : IsC X.K C) (hc : ClsV c cv) (hk : PySem.W.kitOne X.K (.ref C) cv = some b) (hg : Gl X "isinstance") (hm : X.mg "isinstance" = none) (he : PE X e (up X.K te)) (hB : PE X ec (tC c))
    (hst : starEach [e, ec] X.env = (false, eval e X.env) :: starEach [ec] X.env := by rfl) (hpl : (backTo pos (starEach [ec] X.env)).any (·.1) = false := by rfl) (hs1 : starEach [ec] X.env = (false, eval ec X.env) :: starEach [] X.env := by rfl) :
    PE X (.Call (.Name "isinstance" p) [e, ec] [] pos) (up X.K (dIsK C b te)) := by
  refine (pe_callB (call_isK T) hg hm (by decide +kernel) (pa_cons he (pa_cons hB pa_nil hs1) hst) (by decide) (by decide) hst hpl).imp fun σ H Q ⟨G, φ, ρ, S, Q', r, sl, dn, q⟩ => ?_
  refine ⟨G, φ, ρ, S, _, r, sl, fun y S1 G1 φ1 v H1 q1 e1 r1 dv => ?_, q⟩
  obtain ⟨fs, rfl, q1⟩ := q1
  obtain ⟨a, d, vs, rfl, h1, h2, h3⟩ := dv
  exact ⟨a, d, vs, c, cv, b, rfl, r1.sub _ _ h1, r1.sub _ _ h2, hc, hk, dn _ _ _ _ _ _ q1 e1 r1 (.bl _)⟩
theorem de_isKT (T : IsC X.K C) (hc : ClsV c cv) (hc2 : ClsV c2 cv2) (hk : PySem.W.kitAny X.K (.ref C) [cv, cv2] = some b) (hg : Gl X "isinstance") (hm : X.mg "isinstance" = none) (he : PE X e (up X.K te)) (hB : PE X ec (tC c)) (hB2 : PE X ec2 (tC c2))
    (hst : starEach [e, .Tuple [ec, ec2] kt tpos] X.env = (false, eval e X.env) :: starEach [.Tuple [ec, ec2] kt tpos] X.env := by rfl) (hpl : (backTo pos (starEach [.Tuple [ec, ec2] kt tpos] X.env)).any (·.1) = false := by rfl)
    (hs1 : starEach [ec, ec2] X.env = (false, eval ec X.env) :: starEach [ec2] X.env := by rfl) (hs2 : starEach [ec2] X.env = (false, eval ec2 X.env) :: starEach [] X.env := by rfl) :
    PE X (.Call (.Name "isinstance" p) [e, .Tuple [ec, ec2] kt tpos] [] pos) (up X.K (dIsK C b te)) := by
  refine (pe_callB (call_isKT T) hg hm (by decide +kernel) (pa_cons he (pa_cons (pe_tup (pa_cons hB (pa_cons hB2 pa_nil hs2) hs1)) pa_nil) hst) (by decide) (by decide) hst hpl).imp fun σ H Q ⟨G, φ, ρ, S, Q', r, sl, dn, q⟩ => ?_
  refine ⟨G, φ, ρ, S, _, r, sl, fun y S1 G1 φ1 v H1 q1 e1 r1 dv => ?_, q⟩
  obtain ⟨fs, rfl, q1⟩ := q1
  obtain ⟨a, d, vs, rfl, h1, h2, h3⟩ := dv
  refine ⟨by simp [sizeLine], fun tp htp => ?_⟩
  obtain ⟨r2, e2⟩ := r1.newD (o := .tup [c, c2]) htp
  exact ⟨a, d, tp, vs, _, _, b, rfl, r2.sub _ _ (e2.g _ _ h1), r2.sub _ _ (e2.g _ _ h2), upd_same, .cons hc (.cons hc2 .nil), hk, dn _ _ _ _ _ _ q1 (e1.trans e2) r2 (.bl _)⟩
end
def tXk (C : Addr) (f : Str) (te : TE) : TE := fun σ H Q => te σ H fun x H1 => ∃ (a dd : Addr) (fs : List (Str × V)) (v : V), x = .ref a ∧ H1 a = some (ExK (.ref C) (some dd) a) ∧ H1 dd = some (.xd fs) ∧ fs.lookup f = some v ∧ Q v H1
theorem pe_xk {X : Cx} {C : Addr} {e : Expr} {te : TE} {pos : Pos} {n : Str} (T : XfC X.K C) (hno : PySem.W.findIn X.K (.ref C) n = some none) (he : PE X e te) (hb : attributeBase e n X.env (eval e X.env) = eval e X.env := by rfl) : PE X (.Attribute e n pos) (tXk C n te) := by
  refine ⟨fun pins s σ H Q I h => ?_⟩
  refine attr_of hb (thn (he.run pins s σ H _ I h) fun u s1 ⟨x, H1, I1, rx, a, dd, fs, v, ex, ea, ed, l, q⟩ => ?_)
  subst ex
  obtain rfl : u = Value.ref a := rx
  obtain ⟨⟨oe, vs, ha, hz, hd⟩, _, _⟩ := I1.hok a _ ea
  have hx : ObjOk X.prog X.w H1 s1.heap dd (.xd fs) := I1.hok dd _ ed
  obtain ⟨mA, hns, hr⟩ := hx
  obtain ⟨od, ho, hl⟩ := lookIn_ns hns
  obtain ⟨u, hu, ru⟩ := RelO.some_of (v := v) (o := mA n) (by rw [← l]; exact hr n)
  have J : PySem.W.InstAt s1.heap a oe C (some od) := ⟨ha, hz.1, by unfold PySem.W.notCls; rw [hd] <;> rfl, by rw [hz.2]; exact ho⟩
  exact HandSPX.exc_get I1.kIn J T.ga T.gg T.exC (PySem.W.findObj_own T.hdC hno rfl (by rw [hl, hu])) (handed_of ru) ⟨v, H1, I1.tok _, ru, q⟩
def dXk (C : Addr) (f : Str) (te : DE) : DE := fun ρ S Q => te ρ S fun x S1 => ∃ fs p, x = .exk C fs ∧ fs.lookup f = some p ∧ Q (.dat p) S1
theorem de_xk {X : Cx} {C : Addr} {f : Str} {e : Expr} {te : DE} {pos : Pos} (T : XfC X.K C) (hno : PySem.W.findIn X.K (.ref C) f = some none) (he : PE X e (up X.K te)) (hb : attributeBase e f X.env (eval e X.env) = eval e X.env := by rfl) : PE X (.Attribute e f pos) (up X.K (dXk C f te)) :=
  (pe_xk T hno he hb).imp fun σ H Q ⟨G, φ, ρ, S, Q', r, sl, dn, q⟩ => ⟨G, φ, ρ, S, _, r, sl, fun x S1 G1 φ1 v H1 q1 e1 r1 dv => by
    obtain ⟨fs, p, rfl, hl, q1⟩ := q1
    obtain ⟨a, d, vs, rfl, h1, h2, h3⟩ := dv
    obtain ⟨u, hu, hq⟩ := lookup_pairs h3 hl
    exact ⟨a, d, vs, u, rfl, r1.sub _ _ h1, r1.sub _ _ h2, hu, dn _ _ _ _ _ _ q1 e1 r1 hq⟩, q⟩
def itmK (w : Str) (C : Addr) (fs : List (Str × PyData)) : Int → Option D
  | 0 => some (.dat (.str w))
  | 1 => some (.exk C fs)
  | _ => none
theorem itmK_0 (w : Str) (C : Addr) (fs : List (Str × PyData)) : itmK w C fs 0 = some (.dat (.str w)) := rfl
theorem itmK_1 (w : Str) (C : Addr) (fs : List (Str × PyData)) : itmK w C fs 1 = some (.exk C fs) := rfl
def rIxK : R2D := fun x y S Q => ∃ w C fs i d, x = .tupK w C fs ∧ y = .dat (.int i) ∧ itmK w C fs i = some d ∧ Q d S
section
variable {K : PySem.W.Frag} {G H : Hp} {φ : List Foot} {S : Os}
end
end Rm

set_option Elab.async false
set_option linter.all false
set_option maxRecDepth 100000
set_option maxHeartbeats 4000000
namespace Rm
open PySem PySem.Spec PyProof.Rows L2 LamX
section
variable {X : Cx} {C : Addr} {c c2 c3 : V} {cv cv2 cv3 : Value} {b : Bool} {e ec ec2 ec3 : Expr} {te : DE} {p pos tpos : Pos} {kt : Nat}
end
def tupX : D → Option (List D)
  | .dat (.tuple ps) => some (ps.map .dat)
  | .tupK w C fs => some [.dat (.str w), .exk C fs]
  | _ => none
theorem tupX_dat (ps : List PyData) : tupX (.dat (.tuple ps)) = some (ps.map .dat) := rfl
theorem tupX_K (w : Str) (C : Addr) (fs : List (Str × PyData)) : tupX (.tupK w C fs) = some [.dat (.str w), .exk C fs] := rfl
def dgTupK (n : Nat) (t : DGts) : DGt := fun d ρ S Q => ∃ xs, tupX d = some xs ∧ xs.length = n ∧ t xs ρ S Q
theorem dg_tupK {X : Cx} {es : List Expr} {k : Nat} {gs : DGts} {n : Nat} {pos : Pos} (hc : X.calm = true) (h : PGs X es (upGs X.K gs))
    (hn : (assignEach es X.env).length = n := by rfl) (hst : (assignEach es X.env).findIdx? (·.1) = none := by rfl) : PG X (.Tuple es k pos) (upG X.K (dgTupK n gs)) := (pg_tup hc h hn hst).imp fun v σ H Q ⟨G, φ, ρ, S, d, Q', r, sl, dv, dn, xs, e, hl, q⟩ => by
  cases d with
  | dat p =>
    cases p with
    | tuple ps =>
      cases e
      cases dv with
      | tup q1 q2 => exact ⟨_, _, rfl, sameT r.sub q1, by rw [q2.len]; simpa using hl, G, φ, ρ, S, _, Q', r, sl, paired_dat q2, dn, q⟩
    | _ => cases e
  | tupK w C fs =>
    cases e
    obtain ⟨a, u, rfl, h1, h2⟩ := dv
    exact ⟨_, _, rfl, sameT r.sub h1, hl, G, φ, ρ, S, _, Q', r, sl, .cons (show DV X.K G φ (.str w) (.dat (.str w)) from Dq.str w) (.cons (show DV X.K G φ u (.exk C fs) from h2) .nil), dn, q⟩
  | _ => cases e
end Rm

set_option Elab.async false
set_option linter.all false
set_option maxRecDepth 100000
set_option maxHeartbeats 4000000
namespace Rm
open PySem PySem.Spec PyProof.Rows L2
theorem callS_up {K : PySem.W.Frag} {G H : Hp} {φ : List Foot} {S : Os} {fs : Fs} {ds : List D} {vs : List V} {Q : VK} {Q' : DQ} {E : XK} (r : Rel K G φ S H) (dv : Paired (DV K G φ) vs ds) (dn : Dn K G φ H Q Q') (q : callS fs ds S Q') : upF K fs vs H Q E := by
  obtain ⟨b, q1⟩ := q
  refine ⟨G, _, _, _, _, r.sel (hs_nodup _) b, un_dv r b (fun d h => h) dv, fun d Sc G2 φ2 v H2 q2 e2 r2 dv2 => ?_, q1⟩
  obtain ⟨fl, q2⟩ := q2
  obtain ⟨ψ, rfl⟩ := e2.p
  rcases q2 with ⟨hl, ⟨p, rfl⟩, q2⟩ | ⟨o, ho, hl, rfl, q2⟩
  · obtain ⟨r3, e3⟩ := r.back (hs_nodup _) b fl (by omega) e2 r2
    have z : ψ = [] := by
      have := r2.len
      simp at this
      exact List.length_eq_zero_iff.mp (by omega)
    subst z
    have d0 : Sc.drop (hsOf ds).length = [] := List.drop_eq_nil_of_le (by omega)
    rw [d0, List.append_nil, List.append_nil] at r3
    rw [List.append_nil] at e3
    exact dn _ _ _ _ _ _ q2 e3 r3 dv2
  · obtain ⟨r3, e3⟩ := r.back (hs_nodup _) b fl (by omega) e2 r2
    rw [ho] at r3
    refine dn _ _ _ _ _ _ q2 e3 r3 ?_
    obtain ⟨f, h1, rfl⟩ := dv2
    refine ⟨f, ?_, rfl⟩
    rw [List.getElem?_append_right (by simp)] at h1
    rw [← r.len, List.getElem?_append_right (Nat.le_refl _)]
    simpa using h1
theorem PSTimp {X : Cx} {st : Stmt} {t t' : TS} (h : PST X st t) (i : ∀ E σ H, t' E σ H → t E σ H) : PST X st t' := fun pins s σ H D h0 I q => h pins s σ H D h0 I (i D σ H q)
def sWords (i j : Nat) (fs : Fs) : DSm := fun E ρ S => ∃ a : Str, ρ[j]? = some (some (.dat (.str a))) ∧ a.length ≤ 5000 ∧ callS fs [.dat (.list ((Txt.split (Txt.replace (Txt.replace a "(" "( ") ")" " )") " ").map PyData.str))] S fun d S' => E.nx (ρ.set i (some d)) S'
theorem dqS71 {K : PySem.W.Frag} {G : Hp} : ∀ (ws : List Str), DqAll K G (ws.map V.str) (ws.map PyData.str)
  | [] => .nil
  | w :: ws => .cons (.str w) (dqS71 ws)
theorem words_up {K : PySem.W.Frag} {W : WX} {fs : Fs} {i j : Nat} (E : Ends) (σ : L2.St) (H : Hp) (h : upS K W (sWords i j fs) E σ H) :
    tAsg (tCall (upF K fs) [] E0 (tCons (tM1 (fun x xs H Q => ∃ a b, x = .str a ∧ xs = [.str b] ∧ (b.length == 0) = false ∧ a.length + 2 ≤ sizeLine ∧ rNewStrs (Txt.split a b) H Q) (CwR.tReplC (CwR.tReplC (tVar j) "(" "( ") ")" " )") (tC (.str " "))) tNil)) (gName i) E σ H := by
  obtain ⟨G, φ, ρ, S, E', r, sl, dn, a, ha, hl, q⟩ := h
  obtain ⟨v, hv, dv⟩ := sl.get j _ ha
  have ev : v = .str a := dq_str dv
  subst ev
  have z1 : ("( " : Str).length = 2 := by decide +kernel
  have z2 : (" )" : Str).length = 2 := by decide +kernel
  have r1 := TK.replace_len a "(" "( "
  rw [z1] at r1
  have r2 := TK.replace_len (Txt.replace a "(" "( ") ")" " )"
  rw [z2] at r2
  have hz : ((" " : Str).length == 0) = false := by decide +kernel
  refine ⟨.str a, hv, a, rfl, by rw [z1]; omega, Txt.replace a "(" "( ", rfl, by rw [z2]; omega, ⟨_, rfl⟩, _, _, rfl, rfl, hz, Nat.le_trans (m := 1000000) (by omega) (by decide), ?_⟩
  intro p hp
  obtain ⟨r3, e3⟩ := r.newD (o := .lst ((Txt.split (Txt.replace (Txt.replace a "(" "( ") ")" " )") " ").map V.str)) hp
  show upF K fs [.ref p] _ _ E0
  refine callS_up (ds := [.dat (.list _)]) r3 (.cons (show DV K _ φ (.ref p) (.dat (.list _)) from .lst upd_same ?_) .nil) (fun d S' G' φ' u H' q' e' r' du => dn.nx _ _ _ _ _ _ q' (e3.trans e') r' ((sl.ext (e3.trans e')).set i du)) q
  exact dqS71 _
theorem Df.calXT {P : Program} {w : World} {K : PySem.W.Frag} {mg : Str → Option Value} {base : Heap} {x : Str} {st : Stmt} {N ps : List Str} {k : Nat} {fs : FsX} (F : Df K mg x st) (S : FnScope N ps (defScope st)) (hnc : ∀ y ∈ (defScope st).names, y.2 ≠ .cell) (hps : 1 ≤ ps.length)
    (hb : ∀ (kV doc pm : Value) (an : Option Addr) (cdv ct : Value) (us : List Value), us.length = ps.length → bindArgs (PySem.W.fnOf x x (defArgs st) (defBody st) (defScope st) .none kV doc pm an cdv ct) ⟨us, []⟩ = pure (ps.zip us))
    (len : ∀ ds S Q xr, fs ds S Q xr → ds.length = ps.length) (t : DSm)
    (hbody : ∀ (f : Addr) (cdv : Value) (A : Around) (outer : List Env) (s : Shared) (H : Hp) (E : XK), Room k (A.deeper (envOfC x (defScope st) s.heap.objs.size f cdv)) →
      Takes (cxOf (L2.CX P w) P w K mg base N x (defScope st) f cdv A outer s H E) (wOf E) →
      PSsT (cxOf (L2.CX P w) P w K mg base N x (defScope st) f cdv A outer s H E) (defBody st) (upS K (wOf E) t))
    (hq : ∀ ds S Q xr, fs ds S Q xr → t { nx := fun _ S' => fin S.length Q (.dat .none) S', rt := fin S.length Q, xr := finX S.length xr } (startD N.length ds) S) : CalX P w K mg base (k + 1) x fs := by
  obtain ⟨f, fd, F, m⟩ := F.ex
  obtain ⟨oc, od, dV, kV, doc, pm, an, cdv, ct, osl, rfl, lk, hcd, q1, q2⟩ := _root_.id F.ex
  refine ⟨f, _, ps, fn_ofT lk hcd S hnc hps (fun vs H Q E h => ?_) fun A outer s H vs Q E hr hs => ⟨upS K (wOf E) t, hbody f cdv A outer s H E hr (takes_of rfl rfl rfl rfl), ?_⟩, m, F.kp, F.bindsN hb⟩
  · obtain ⟨G, φ, ds, S, Q', xr, r, dv, dn, dx, q⟩ := h
    rw [Paired.length dv]
    exact len ds S Q' xr q
  · obtain ⟨G, φ, ds, S, Q', xr, r, dv, dn, dx, q⟩ := hs
    have dnf := dn.fin
    have dxf := dx.fin
    rw [r.len] at dnf dxf
    exact ⟨G, φ, _, S, { nx := fun _ S' => fin S.length Q' (.dat .none) S', rt := fin S.length Q', xr := finX S.length xr }, r, slots_start dv, ⟨fun ρ S' G' φ' σ' H' q' e' r' _ => dnf (.dat .none) _ _ _ _ _ q' e' r' .non, dnf, fun _ _ _ _ _ _ q' => q'.elim, fun _ _ _ _ _ _ q' => q'.elim, dxf⟩, hq ds S Q' xr q⟩
theorem dsst_cons {X : Cx} {W : WX} {st : Stmt} {rest : List Stmt} {t u : DSm} (h1 : PST X st (upS X.K W t)) (h2 : PSs X rest (upS X.K W u)) : PSsT X (st :: rest) (upS X.K W (sSeq t u)) := fun pins s σ H D h0 I ⟨G, φ, ρ, S, E', r, sl, dn, q⟩ =>
  (psst_cons h1 (PSsT.of h2)) pins s σ H D h0 I ⟨G, φ, ρ, S, { E' with nx := u E' }, r, sl, ⟨fun ρ1 S1 G1 φ1 σ1 H1 q1 e1 r1 s1 => ⟨G1, φ1, ρ1, S1, E', r1, s1, dn.ext e1, q1⟩, dn.rt, dn.bk, dn.ct, dn.xr⟩, q⟩
def cSortI : RCD := fun ds S Q => ∃ ns : List Int, ds = [.dat (.list (ns.map PyData.int))] ∧ ns.length < 64 ∧ ∀ ms : List Int, ms.Perm ns → ms.Pairwise (· ≤ ·) → Q (.dat (.list (ms.map PyData.int))) S
theorem dqI71 {K : PySem.W.Frag} {G : Hp} : ∀ (ns : List Int), DqAll K G (ns.map V.int) (ns.map PyData.int)
  | [] => .nil
  | n :: ns => .cons (.int n) (dqI71 ns)
theorem dqI71_inv {K : PySem.W.Frag} {G : Hp} : ∀ {ns : List Int} {vs : List V}, DqAll K G vs (ns.map PyData.int) → vs = ns.map V.int
  | [], _, h => by cases h; rfl
  | n :: ns, _, h => by
    cases h with
    | cons h r => rw [dq_int h, dqI71_inv r]; rfl
theorem cd_sortI {K : PySem.W.Frag} : CallD K (rSorted K) cSortI := by
  rintro G φ S H ds vs Q Q' r dvs dn ⟨ns, rfl, h1, q⟩
  obtain ⟨v, rfl, dv⟩ := pair1 dvs
  cases dv with
  | lst a b =>
    have e := dqI71_inv b
    subst e
    refine ⟨_, ns, rfl, SqL.of (r.sub _ _ a), h1, fun ms p hm hs hp => ?_⟩
    obtain ⟨r2, e2⟩ := r.newD (o := .lst (ms.map V.int)) hp
    exact dn _ _ _ _ _ _ (q ms hm hs) e2 r2 (.lst upd_same (dqI71 ms))
end Rm

set_option Elab.async false
set_option linter.all false
set_option maxRecDepth 100000
set_option maxHeartbeats 4000000
namespace Rm
open PySem PySem.Spec PyProof.Rows L2
abbrev f_frozen_N : List Str := ["thing", "part"]
abbrev f_frozen_P : List Str := ["thing"]
theorem f_frozen_sc : FnScope f_frozen_N f_frozen_P (defScope f_frozen_s) := ⟨rfl, rfl, rfl, by decide +kernel, rfl, by decide +kernel, by decide +kernel⟩
abbrev f_is_row_N : List Str := ["thing"]
abbrev f_is_row_P : List Str := ["thing"]
theorem f_is_row_sc : FnScope f_is_row_N f_is_row_P (defScope f_is_row_s) := ⟨rfl, rfl, rfl, by decide +kernel, rfl, by decide +kernel, by decide +kernel⟩
abbrev f_is_integer_N : List Str := ["thing"]
abbrev f_is_integer_P : List Str := ["thing"]
theorem f_is_integer_sc : FnScope f_is_integer_N f_is_integer_P (defScope f_is_integer_s) := ⟨rfl, rfl, rfl, by decide +kernel, rfl, by decide +kernel, by decide +kernel⟩
abbrev f_is_small_N : List Str := ["thing"]
abbrev f_is_small_P : List Str := ["thing"]
theorem f_is_small_sc : FnScope f_is_small_N f_is_small_P (defScope f_is_small_s) := ⟨rfl, rfl, rfl, by decide +kernel, rfl, by decide +kernel, by decide +kernel⟩
abbrev f_is_name_N : List Str := ["thing", "letter"]
abbrev f_is_name_P : List Str := ["thing"]
theorem f_is_name_sc : FnScope f_is_name_N f_is_name_P (defScope f_is_name_s) := ⟨rfl, rfl, rfl, by decide +kernel, rfl, by decide +kernel, by decide +kernel⟩
abbrev f_is_written_integer_N : List Str := ["word", "digits", "digit"]
abbrev f_is_written_integer_P : List Str := ["word"]
theorem f_is_written_integer_sc : FnScope f_is_written_integer_N f_is_written_integer_P (defScope f_is_written_integer_s) := ⟨rfl, rfl, rfl, by decide +kernel, rfl, by decide +kernel, by decide +kernel⟩
abbrev f_head_of_N : List Str := ["value"]
abbrev f_head_of_P : List Str := ["value"]
theorem f_head_of_sc : FnScope f_head_of_N f_head_of_P (defScope f_head_of_s) := ⟨rfl, rfl, rfl, by decide +kernel, rfl, by decide +kernel, by decide +kernel⟩
abbrev f_parts_of_N : List Str := ["value"]
abbrev f_parts_of_P : List Str := ["value"]
theorem f_parts_of_sc : FnScope f_parts_of_N f_parts_of_P (defScope f_parts_of_s) := ⟨rfl, rfl, rfl, by decide +kernel, rfl, by decide +kernel, by decide +kernel⟩
abbrev f_is_value_N : List Str := ["thing", "part"]
abbrev f_is_value_P : List Str := ["thing"]
theorem f_is_value_sc : FnScope f_is_value_N f_is_value_P (defScope f_is_value_s) := ⟨rfl, rfl, rfl, by decide +kernel, rfl, by decide +kernel, by decide +kernel⟩
abbrev f_value_text_N : List Str := ["value", "part"]
abbrev f_value_text_P : List Str := ["value"]
theorem f_value_text_sc : FnScope f_value_text_N f_value_text_P (defScope f_value_text_s) := ⟨rfl, rfl, rfl, by decide +kernel, rfl, by decide +kernel, by decide +kernel⟩
abbrev f_grouped_N : List Str := ["words", "stack", "word", "group"]
abbrev f_grouped_P : List Str := ["words"]
theorem f_grouped_sc : FnScope f_grouped_N f_grouped_P (defScope f_grouped_s) := ⟨rfl, rfl, rfl, by decide +kernel, rfl, by decide +kernel, by decide +kernel⟩
abbrev f_read_value_N : List Str := ["text", "found"]
abbrev f_read_value_P : List Str := ["text"]
theorem f_read_value_sc : FnScope f_read_value_N f_read_value_P (defScope f_read_value_s) := ⟨rfl, rfl, rfl, by decide +kernel, rfl, by decide +kernel, by decide +kernel⟩
abbrev f_law_draw_N : List Str := ["_law_stream", "_law_many", "_law_digit", "_law_mixed"]
abbrev f_law_draw_P : List Str := ["_law_stream", "_law_many"]
theorem f_law_draw_sc : FnScope f_law_draw_N f_law_draw_P (defScope f_law_draw_s) := ⟨rfl, rfl, rfl, by decide +kernel, rfl, by decide +kernel, by decide +kernel⟩
abbrev f_law_start_N : List Str := ["_law_script"]
abbrev f_law_start_P : List Str := ["_law_script"]
theorem f_law_start_sc : FnScope f_law_start_N f_law_start_P (defScope f_law_start_s) := ⟨rfl, rfl, rfl, by decide +kernel, rfl, by decide +kernel, by decide +kernel⟩
abbrev f_law_pick_N : List Str := ["_law_stream", "_law_some"]
abbrev f_law_pick_P : List Str := ["_law_stream", "_law_some"]
theorem f_law_pick_sc : FnScope f_law_pick_N f_law_pick_P (defScope f_law_pick_s) := ⟨rfl, rfl, rfl, by decide +kernel, rfl, by decide +kernel, by decide +kernel⟩
abbrev f_law_reserved_N : List Str := ["_law_some"]
abbrev f_law_reserved_P : List Str := []
theorem f_law_reserved_sc : FnScope f_law_reserved_N f_law_reserved_P (defScope f_law_reserved_s) := ⟨rfl, rfl, rfl, by decide +kernel, rfl, by decide +kernel, by decide +kernel⟩
abbrev f_law_is_name_N : List Str := ["_law_thing", "_law_letter"]
abbrev f_law_is_name_P : List Str := ["_law_thing"]
theorem f_law_is_name_sc : FnScope f_law_is_name_N f_law_is_name_P (defScope f_law_is_name_s) := ⟨rfl, rfl, rfl, by decide +kernel, rfl, by decide +kernel, by decide +kernel⟩
abbrev f_law_fresh_N : List Str := ["_law_stream", "_law_taken", "_law_letters", "_law_size", "_law_name", "_law_k", "_law_spare", "_law_one", "_law_other"]
abbrev f_law_fresh_P : List Str := ["_law_stream", "_law_taken"]
theorem f_law_fresh_sc : FnScope f_law_fresh_N f_law_fresh_P (defScope f_law_fresh_s) := ⟨rfl, rfl, rfl, by decide +kernel, rfl, by decide +kernel, by decide +kernel⟩
abbrev f_law_number_N : List Str := ["_law_stream", "_law_way"]
abbrev f_law_number_P : List Str := ["_law_stream"]
theorem f_law_number_sc : FnScope f_law_number_N f_law_number_P (defScope f_law_number_s) := ⟨rfl, rfl, rfl, by decide +kernel, rfl, by decide +kernel, by decide +kernel⟩
abbrev f_law_same_N : List Str := ["_law_found", "_law_due", "_law_pairs", "_law_one", "_law_other"]
abbrev f_law_same_P : List Str := ["_law_found", "_law_due"]
theorem f_law_same_sc : FnScope f_law_same_N f_law_same_P (defScope f_law_same_s) := ⟨rfl, rfl, rfl, by decide +kernel, rfl, by decide +kernel, by decide +kernel⟩
abbrev f_law_tried_N : List Str := ["_law_deed", "_law_found", "e"]
abbrev f_law_tried_P : List Str := ["_law_deed"]
theorem f_law_tried_sc : FnScope f_law_tried_N f_law_tried_P (defScope f_law_tried_s) := ⟨rfl, rfl, rfl, by decide +kernel, rfl, by decide +kernel, by decide +kernel⟩
abbrev f_law_text_N : List Str := ["_law_stream", "_law_deep", "_law_words", "_law_k"]
abbrev f_law_text_P : List Str := ["_law_stream", "_law_deep"]
theorem f_law_text_sc : FnScope f_law_text_N f_law_text_P (defScope f_law_text_s) := ⟨rfl, rfl, rfl, by decide +kernel, rfl, by decide +kernel, by decide +kernel⟩
abbrev f_law_bent_N : List Str := ["_law_stream", "_law_text_here", "_law_at", "_law_other", "_law_sign", "_law_a", "_law_b", "_law_c", "_law_some", "_law_low", "_law_high"]
abbrev f_law_bent_P : List Str := ["_law_stream", "_law_text_here"]
theorem f_law_bent_sc : FnScope f_law_bent_N f_law_bent_P (defScope f_law_bent_s) := ⟨rfl, rfl, rfl, by decide +kernel, rfl, by decide +kernel, by decide +kernel⟩
abbrev f_law_is_number_N : List Str := ["_law_word", "_law_digits", "_law_one"]
abbrev f_law_is_number_P : List Str := ["_law_word"]
theorem f_law_is_number_sc : FnScope f_law_is_number_N f_law_is_number_P (defScope f_law_is_number_s) := ⟨rfl, rfl, rfl, by decide +kernel, rfl, by decide +kernel, by decide +kernel⟩
abbrev f_law_read_N : List Str := ["_law_text_here", "_law_at", "_law_end", "_law_found", "_law_start_here", "_law_part"]
abbrev f_law_read_P : List Str := ["_law_text_here", "_law_at"]
theorem f_law_read_sc : FnScope f_law_read_N f_law_read_P (defScope f_law_read_s) := ⟨rfl, rfl, rfl, by decide +kernel, rfl, by decide +kernel, by decide +kernel⟩
abbrev f_law_N : List Str := ["_law_script", "_law_stream", "_law_turn", "_law_text_here", "_law_k", "_law_due", "_law_word", "_law_found"]
abbrev f_law_P : List Str := ["_law_script"]
theorem f_law_sc : FnScope f_law_N f_law_P (defScope f_law_s) := ⟨rfl, rfl, rfl, by decide +kernel, rfl, by decide +kernel, by decide +kernel⟩

structure Tx (K : PySem.W.Frag) (mg : Str → Option Value) : Prop where
  n_zip : mg "zip" = none
  n_isinstance : mg "isinstance" = none
  n_tuple : mg "tuple" = none
  n_list : mg "list" = none
  n_int : mg "int" = none
  n_str : mg "str" = none
  n_len : mg "len" = none
  n_all : mg "all" = none
  n_any : mg "any" = none
  n_range : mg "range" = none
  n_abs : mg "abs" = none
  n_sorted : mg "sorted" = none
  n_sum : mg "sum" = none
  n_bool : mg "bool" = none
  n_super : mg "super" = none
  n_ValueError : mg "ValueError" = none
  gLONGEST_NAME : ∃ u, mg "LONGEST_NAME" = some u ∧ RelV (.int 8) u
  gMOST_DIGITS : ∃ u, mg "MOST_DIGITS" = some u ∧ RelV (.int 30) u
  gMOST_WORDS : ∃ u, mg "MOST_WORDS" = some u ∧ RelV (.int 7) u
  gLETTERS : ∃ u, mg "LETTERS" = some u ∧ RelV (.str letters) u
  gDIGITS : ∃ u, mg "DIGITS" = some u ∧ RelV (.str digs) u
  gRESERVED : ∃ a, mg "RESERVED" = some (.ref a) ∧ ∀ H, SqT K H a (resv.map V.str)
  law : DfC K mg "law" f_law_s (He.codeOf K ("law", none))
  frozen : Df K mg "frozen" f_frozen_s
  is_row : Df K mg "is_row" f_is_row_s
  is_integer : Df K mg "is_integer" f_is_integer_s
  is_small : Df K mg "is_small" f_is_small_s
  is_name : Df K mg "is_name" f_is_name_s
  is_written_integer : Df K mg "is_written_integer" f_is_written_integer_s
  head_of : Df K mg "head_of" f_head_of_s
  parts_of : Df K mg "parts_of" f_parts_of_s
  is_value : Df K mg "is_value" f_is_value_s
  value_text : Df K mg "value_text" f_value_text_s
  grouped : Df K mg "grouped" f_grouped_s
  read_value : Df K mg "read_value" f_read_value_s
  draw : Df K mg "_law_draw" f_law_draw_s
  lstart : Df K mg "_law_start" f_law_start_s
  pick : Df K mg "_law_pick" f_law_pick_s
  reserved : Df K mg "_law_reserved" f_law_reserved_s
  lis_name : Df K mg "_law_is_name" f_law_is_name_s
  fresh : Df K mg "_law_fresh" f_law_fresh_s
  number : Df K mg "_law_number" f_law_number_s
  same : Df K mg "_law_same" f_law_same_s
  tried : Df K mg "_law_tried" f_law_tried_s
  text : Df K mg "_law_text" f_law_text_s
  bent : Df K mg "_law_bent" f_law_bent_s
  is_number : Df K mg "_law_is_number" f_law_is_number_s
  read : Df K mg "_law_read" f_law_read_s

end Rm

set_option Elab.async false
set_option linter.all false
set_option maxRecDepth 100000
set_option maxHeartbeats 4000000
set_option hygiene false
local macro_rules | `(tactic| walk_at "rm_rd") => `(tactic| (try simp only [↓sSeq, ↓sNext, ↓sDrop, ↓sRet, ↓sRetN, ↓sIf, ↓sAsg, ↓sAug, ↓sPar, ↓sFrz, ↓sBreak, ↓sCont, ↓sFor, ↓dgName, ↓dgTup, ↓dgCons, ↓dgNil, ↓dgSub, ↓dVar, ↓dC, ↓dNil, ↓dCons, ↓dTup, ↓dLst, ↓dLstO, ↓dats, ↓dOp, ↓dUn, ↓dCB, ↓dT, ↓dAnd, ↓dOr, ↓dNot, ↓dAndV, ↓dOrV, ↓dNotV, ↓dIf, ↓dChain, ↓rAdd, ↓rInts, ↓rSub, ↓rMod, ↓rFdiv, ↓rMul, ↓rNeg, ↓rEqB, ↓rLt, ↓rLe, ↓rGt, ↓rGe, ↓rIsN, ↓rInB, ↓rIxD, ↓dSl, ↓dPart, ↓dNoPart, ↓cLen, ↓cInt, ↓cStr, ↓cAbs, ↓cMin, ↓cMax, ↓cAll, ↓cAny, ↓cSum, ↓cList, ↓cListO, ↓cTuple, ↓dIsi, ↓dSplit, ↓dJoin, ↓dAppend, ↓dPop, ↓dExtend, ↓dCall, ↓callS_Pf, ↓iRow, ↓iRan1, ↓iRan2, ↓iEnu, ↓iZp, ↓iZpM, ↓sPar3, ↓dDget1, ↓dDget2, ↓sDputD, ↓dDnew, ↓dSplitO, ↓rInTd, ↓dLstR1, ↓cSumLR, ↓xE, ↓xA, ↓xF, ↓xCons, ↓xTup, ↓xCB, ↓xMeth, ↓dIsX, ↓sAsgX, ↓sDropX, ↓sRetX, ↓sTry, ↓dCallX, ↓dXf, startD, List.map_cons, List.map_nil, List.cons_append, List.nil_append, List.length_cons, List.length_nil, List.replicate, List.set_cons_zero, List.set_cons_succ, List.getElem?_cons_zero, List.getElem?_cons_succ, List.getElem?_nil, Option.map_some, Option.some.injEq, D.dat.injEq, D.ref.injEq, PyData.int.injEq, PyData.bool.injEq, PyData.str.injEq, PyData.list.injEq, PyData.tuple.injEq, exists_and_left, exists_eq_left, exists_eq_left', exists_eq, exists_const, if_true, if_false, Bool.not_true, Bool.not_false, Bool.false_eq_true, ↓reduceIte, List.cons.injEq, and_true, true_and, List.take_nil, List.take_zero, List.all_nil, List.length_map, Nat.le_refl, Nat.zero_le, Nat.reduceSub, Nat.reduceAdd, Nat.sub_self, ge_iff_le, Nat.lt_irrefl, reduceCtorEq, false_and, and_false, or_false, false_or, or_true, true_or, rd_dat, ↓dLenSet, ↓dDisp, ↓dDispL, ↓cStr2, strQ_int, strQ_str, strB_int, strB_str, ↓dPopI, ↓cLenR, ↓rAddO, ↓cSumL, ↓cSumLO, ↓dAppendR, ↓dPopR, ↓rIxR, ↓dLstR, ↓cDict, ↓dDin, ↓dDget, Ob.ins.injEq, Ob.lst.injEq, Ob.spr.injEq, Ob.dk.injEq, Ob.refs.injEq, ↓dFld, ↓sFldD, ↓dMeth, ↓dMake, ↓dCallW, ↓dLc, rowP_str, ↓wipeD, Tg.own, Tg.put, ↓setsD, exists_false, rd_ref, isN_int, isN_str, isN_bl, isN_non, isN_lst, isN_tup, isN_ref, flatP_int, flatP_str, flatP_bl, flatP_non, lenP_str, lenP_lst, lenP_tup, rowP_lst, rowP_tup, itP_lst, itP_tup, itP_str, ixB_str, ixB_lst, ixB_tup, slP_lst, slP_tup, slP_str, atP_lst, atP_tup, addP_int, addP_str, addP_lst, addP_tup, addB_int, addB_str, addB_lst, addB_tup, fin0, eqOk_ss, eqOk_ii, eqv_ss, eqv_ii, atI_0, atI_1, atI_2, atI_3, atI_4, atI_5, atI_6, atI_7, cutP_f1, cutP_f2, cutP_f3, cutP_f4, cutP_f5, cutP_t1, cutP_t2, cutP_t3, cutP_t4, cutP_t5, atI_last', and_assoc, List.drop_succ_cons, List.drop_zero, List.take_succ_cons, f_pow30, f_pow29, f_pow15]))
local macro_rules | `(tactic| walk_at "rm_rd2") => `(tactic| (simp only [↓sSeq, ↓sNext, ↓sDrop, ↓sRet, ↓sRetN, ↓sIf, ↓sAsg, ↓sAug, ↓sPar, ↓sFrz, ↓sBreak, ↓sCont, ↓sFor, ↓dgName, ↓dgTup, ↓dgCons, ↓dgNil, ↓dgSub, ↓dVar, ↓dC, ↓dNil, ↓dCons, ↓dTup, ↓dLst, ↓dLstO, ↓dats, ↓dOp, ↓dUn, ↓dCB, ↓dT, ↓dAnd, ↓dOr, ↓dNot, ↓dAndV, ↓dOrV, ↓dNotV, ↓dIf, ↓dChain, ↓rAdd, ↓rInts, ↓rSub, ↓rMod, ↓rFdiv, ↓rMul, ↓rNeg, ↓rEqB, ↓rLt, ↓rLe, ↓rGt, ↓rGe, ↓rIsN, ↓rInB, ↓rIxD, ↓dSl, ↓dPart, ↓dNoPart, ↓cLen, ↓cInt, ↓cStr, ↓cAbs, ↓cMin, ↓cMax, ↓cAll, ↓cAny, ↓cSum, ↓cList, ↓cListO, ↓cTuple, ↓dIsi, ↓dSplit, ↓dJoin, ↓dAppend, ↓dPop, ↓dExtend, ↓dCall, ↓callS_Pf, ↓iRow, ↓iRan1, ↓iRan2, ↓iEnu, ↓iZp, ↓iZpM, ↓sPar3, ↓dDget1, ↓dDget2, ↓sDputD, ↓dDnew, ↓dSplitO, ↓rInTd, ↓dLstR1, ↓cSumLR, ↓xE, ↓xA, ↓xF, ↓xCons, ↓xTup, ↓xCB, ↓xMeth, ↓dIsX, ↓sAsgX, ↓sDropX, ↓sRetX, ↓sTry, ↓dCallX, ↓dXf, startD, List.map_cons, List.map_nil, List.cons_append, List.nil_append, List.length_cons, List.length_nil, List.replicate, List.set_cons_zero, List.set_cons_succ, List.getElem?_cons_zero, List.getElem?_cons_succ, List.getElem?_nil, Option.map_some, Option.some.injEq, D.dat.injEq, D.ref.injEq, PyData.int.injEq, PyData.bool.injEq, PyData.str.injEq, PyData.list.injEq, PyData.tuple.injEq, exists_and_left, exists_eq_left, exists_eq_left', exists_eq, exists_const, if_true, if_false, Bool.not_true, Bool.not_false, Bool.false_eq_true, ↓reduceIte, List.cons.injEq, and_true, true_and, List.take_nil, List.take_zero, List.all_nil, List.length_map, Nat.le_refl, Nat.zero_le, Nat.reduceSub, Nat.reduceAdd, Nat.sub_self, ge_iff_le, Nat.lt_irrefl, reduceCtorEq, false_and, and_false, or_false, false_or, or_true, true_or, rd_dat, ↓dLenSet, ↓dDisp, ↓dDispL, ↓cStr2, strQ_int, strQ_str, strB_int, strB_str, ↓dPopI, ↓cLenR, ↓rAddO, ↓cSumL, ↓cSumLO, ↓dAppendR, ↓dPopR, ↓rIxR, ↓dLstR, ↓cDict, ↓dDin, ↓dDget, Ob.ins.injEq, Ob.lst.injEq, Ob.spr.injEq, Ob.dk.injEq, Ob.refs.injEq, ↓dFld, ↓sFldD, ↓dMeth, ↓dMake, ↓dCallW, ↓dLc, rowP_str, ↓wipeD, Tg.own, Tg.put, ↓setsD, exists_false, rd_ref, isN_int, isN_str, isN_bl, isN_non, isN_lst, isN_tup, isN_ref, flatP_int, flatP_str, flatP_bl, flatP_non, lenP_str, lenP_lst, lenP_tup, rowP_lst, rowP_tup, itP_lst, itP_tup, itP_str, ixB_str, ixB_lst, ixB_tup, slP_lst, slP_tup, slP_str, atP_lst, atP_tup, addP_int, addP_str, addP_lst, addP_tup, addB_int, addB_str, addB_lst, addB_tup, fin0, eqOk_ss, eqOk_ii, eqv_ss, eqv_ii, atI_0, atI_1, atI_2, atI_3, atI_4, atI_5, atI_6, atI_7, cutP_f1, cutP_f2, cutP_f3, cutP_f4, cutP_f5, cutP_t1, cutP_t2, cutP_t3, cutP_t4, cutP_t5, atI_last', and_assoc, List.drop_succ_cons, List.drop_zero, List.take_succ_cons, f_pow30, f_pow29, f_pow15, fin1_s, fin2_sl]))
local macro_rules | `(tactic| walk_at "rm_stp") => `(tactic| ((repeat (first | simp only [↓sSeq, ↓sNext, ↓sDrop, ↓sRet, ↓sRetN, ↓sIf, ↓sAsg, ↓sAug, ↓sPar, ↓sFrz, ↓sBreak, ↓sCont, ↓sFor, ↓dgName, ↓dgTup, ↓dgCons, ↓dgNil, ↓dgSub, ↓dVar, ↓dC, ↓dNil, ↓dCons, ↓dTup, ↓dLst, ↓dLstO, ↓dats, ↓dOp, ↓dUn, ↓dCB, ↓dT, ↓dAnd, ↓dOr, ↓dNot, ↓dAndV, ↓dOrV, ↓dNotV, ↓dIf, ↓dChain, ↓rAdd, ↓rInts, ↓rSub, ↓rMod, ↓rFdiv, ↓rMul, ↓rNeg, ↓rEqB, ↓rLt, ↓rLe, ↓rGt, ↓rGe, ↓rIsN, ↓rInB, ↓rIxD, ↓dSl, ↓dPart, ↓dNoPart, ↓cLen, ↓cInt, ↓cStr, ↓cAbs, ↓cMin, ↓cMax, ↓cAll, ↓cAny, ↓cSum, ↓cList, ↓cListO, ↓cTuple, ↓dIsi, ↓dSplit, ↓dJoin, ↓dAppend, ↓dPop, ↓dExtend, ↓dCall, ↓callS_Pf, ↓iRow, ↓iRan1, ↓iRan2, ↓iEnu, ↓iZp, ↓iZpM, ↓sPar3, ↓dDget1, ↓dDget2, ↓sDputD, ↓dDnew, ↓dSplitO, ↓rInTd, ↓dLstR1, ↓cSumLR, ↓xE, ↓xA, ↓xF, ↓xCons, ↓xTup, ↓xCB, ↓xMeth, ↓dIsX, ↓sAsgX, ↓sDropX, ↓sRetX, ↓sTry, ↓dCallX, ↓dXf, startD, List.map_cons, List.map_nil, List.cons_append, List.nil_append, List.length_cons, List.length_nil, List.replicate, List.set_cons_zero, List.set_cons_succ, List.getElem?_cons_zero, List.getElem?_cons_succ, List.getElem?_nil, Option.map_some, Option.some.injEq, D.dat.injEq, D.ref.injEq, PyData.int.injEq, PyData.bool.injEq, PyData.str.injEq, PyData.list.injEq, PyData.tuple.injEq, exists_and_left, exists_eq_left, exists_eq_left', exists_eq, exists_const, if_true, if_false, Bool.not_true, Bool.not_false, Bool.false_eq_true, ↓reduceIte, List.cons.injEq, and_true, true_and, List.take_nil, List.take_zero, List.all_nil, List.length_map, Nat.le_refl, Nat.zero_le, Nat.reduceSub, Nat.reduceAdd, Nat.sub_self, ge_iff_le, Nat.lt_irrefl, reduceCtorEq, false_and, and_false, or_false, false_or, or_true, true_or, rd_dat, ↓dLenSet, ↓dDisp, ↓dDispL, ↓cStr2, strQ_int, strQ_str, strB_int, strB_str, ↓dPopI, ↓cLenR, ↓rAddO, ↓cSumL, ↓cSumLO, ↓dAppendR, ↓dPopR, ↓rIxR, ↓dLstR, ↓cDict, ↓dDin, ↓dDget, Ob.ins.injEq, Ob.lst.injEq, Ob.spr.injEq, Ob.dk.injEq, Ob.refs.injEq, ↓dFld, ↓sFldD, ↓dMeth, ↓dMake, ↓dCallW, ↓dLc, rowP_str, ↓wipeD, Tg.own, Tg.put, ↓setsD, exists_false, rd_ref, isN_int, isN_str, isN_bl, isN_non, isN_lst, isN_tup, isN_ref, flatP_int, flatP_str, flatP_bl, flatP_non, lenP_str, lenP_lst, lenP_tup, rowP_lst, rowP_tup, itP_lst, itP_tup, itP_str, ixB_str, ixB_lst, ixB_tup, slP_lst, slP_tup, slP_str, atP_lst, atP_tup, addP_int, addP_str, addP_lst, addP_tup, addB_int, addB_str, addB_lst, addB_tup, fin0, eqOk_ss, eqOk_ii, eqv_ss, eqv_ii, atI_0, atI_1, atI_2, atI_3, atI_4, atI_5, atI_6, atI_7, cutP_f1, cutP_f2, cutP_f3, cutP_f4, cutP_f5, cutP_t1, cutP_t2, cutP_t3, cutP_t4, cutP_t5, atI_last', and_assoc, List.drop_succ_cons, List.drop_zero, List.take_succ_cons, f_pow30, f_pow29, f_pow15, fin1_s, fin2_sl] | ((with_reducible refine Exists.intro ?w (And.intro ?h ?_)); case h => exact rfl) | ((with_reducible refine And.intro ?h ?_); case h => exact ⟨_, rfl⟩) | ((with_reducible refine And.intro ?h ?_); case h => first | exact trivial | exact rfl | decide | omega | (exact eqOk_flat rfl rfl) | (refine Nat.le_trans (m := 1000000) ?_ (by decide); (try simp only [List.length_append, List.length_cons, List.length_nil, List.length_map]); omega) | (refine Nat.lt_of_le_of_lt (m := 1000000) ?_ (by decide); (try simp only [List.length_append, List.length_cons, List.length_nil, List.length_map]); omega))))))
namespace Rm
open PySem PySem.Spec PyProof.Rows L2
section
variable {P : Program} {w : World} {K : PySem.W.Frag} {mg : Str → Option Value} {base : Heap}
def sIsName : Fs := Pf (fun p : PyData => ∀ z, p = .str z → z.length ≤ 1000) (fun p => [p]) fun p => .bool (isNm p)
theorem cal_is_name (T : Tx K mg) : Cal P w K mg base 1 "is_name" (upF K (sIsName)) := by
  refine T.is_name.calD f_is_name_sc (fun _ _ _ _ _ _ us hl => match us, hl with | [_], _ => rfl) (fun ds S Q h => by obtain ⟨_, a, rfl, _⟩ := h; rfl) _ (fun f cdv A outer s H E hr => (dss_cons (ds_if (PW.pt (dw_or (dt_not (dt_val (de_isi (n := "str") (pe_callB call_isi rfl T.n_isinstance (by decide +kernel) (pa_cons (de_var (pv 0)) (pa_cons (pe_bltn (v := .ty "str") (u := .type "str") rfl T.n_str (by decide +kernel) rfl) pa_nil))) (by simp)))) (dw_or (dt_not (dt_chain op_le od_le op_le od_le de_int (de_callB call_len cd_len rfl T.n_len (by decide +kernel) (da_cons (de_var (pv 0)) da_nil)) (de_gint T.gLONGEST_NAME))) (dw_or1 (dt_cmp opr_in od_in1 (de_var (pv 0)) (de_gtup T.gRESERVED) (by rfl)))))) (dss_one (ds_ret de_bl)) dss_nil)
      (dss_one (ds_ret (de_callB (cr_all rfl) cd_all rfl T.n_all (by decide +kernel) (da_cons (de_lc (g := .one 1) (pe_lc (own := [("letter", 1)]) rfl f_is_name_sc.nd (di_row (de_var (pv 0))) (blkOk_by (own := [("letter", 1)]) (N := f_is_name_N) (sc := defScope f_is_name_s) (by decide +kernel)) (fun _ _ _ _ _ => (pg_name (i := 1) f_is_name_sc.nd rfl (Or.inl rfl))) (fun _ _ _ _ _ => dts_nil) (fun _ _ _ _ _ => (de_cmp opr_in od_in1 (de_var (pv 1)) (de_gstr T.gLETTERS) (by rfl))))) da_nil)))))) fun ds S Q h => ?_
  obtain ⟨rfl, p, rfl, hp, q⟩ := h
  cases p with
  | str z =>
    have hz := hp z rfl
    have hz' : z.length ≤ sizeLine := small hz
    simp only [isNm] at q
    walk_at "rm_rd"
    simp only [isT_str, List.any_cons, Bool.true_or, hz', inP_str, flatP_strs, dLc, ↓sSeq, ↓sNext, ↓sDrop, ↓sRet, ↓sRetN, ↓sIf, ↓sAsg, ↓sAug, ↓sPar, ↓sFrz, ↓sBreak, ↓sCont, ↓sFor, ↓dgName, ↓dgTup, ↓dgCons, ↓dgNil, ↓dgSub, ↓dVar, ↓dC, ↓dNil, ↓dCons, ↓dTup, ↓dLst, ↓dLstO, ↓dats, ↓dOp, ↓dUn, ↓dCB, ↓dT, ↓dAnd, ↓dOr, ↓dNot, ↓dAndV, ↓dOrV, ↓dNotV, ↓dIf, ↓dChain, ↓rAdd, ↓rInts, ↓rSub, ↓rMod, ↓rFdiv, ↓rMul, ↓rNeg, ↓rEqB, ↓rLt, ↓rLe, ↓rGt, ↓rGe, ↓rIsN, ↓rInB, ↓rIxD, ↓dSl, ↓dPart, ↓dNoPart, ↓cLen, ↓cInt, ↓cStr, ↓cAbs, ↓cMin, ↓cMax, ↓cAll, ↓cAny, ↓cSum, ↓cList, ↓cListO, ↓cTuple, ↓dIsi, ↓dSplit, ↓dJoin, ↓dAppend, ↓dPop, ↓dExtend, ↓dCall, ↓callS_Pf, ↓iRow, ↓iRan1, ↓iRan2, ↓iEnu, ↓iZp, ↓iZpM, ↓sPar3, ↓dDget1, ↓dDget2, ↓sDputD, ↓dDnew, ↓dSplitO, ↓rInTd, ↓dLstR1, ↓cSumLR, ↓xE, ↓xA, ↓xF, ↓xCons, ↓xTup, ↓xCB, ↓xMeth, ↓dIsX, ↓sAsgX, ↓sDropX, ↓sRetX, ↓sTry, ↓dCallX, ↓dXf, startD, List.map_cons, List.map_nil, List.cons_append, List.nil_append, List.length_cons, List.length_nil, List.replicate, List.set_cons_zero, List.set_cons_succ, List.getElem?_cons_zero, List.getElem?_cons_succ, List.getElem?_nil, Option.map_some, Option.some.injEq, D.dat.injEq, D.ref.injEq, PyData.int.injEq, PyData.bool.injEq, PyData.str.injEq, PyData.list.injEq, PyData.tuple.injEq, exists_and_left, exists_eq_left, exists_eq_left', exists_eq, exists_const, if_true, if_false, Bool.not_true, Bool.not_false, Bool.false_eq_true, ↓reduceIte, List.cons.injEq, and_true, true_and, List.take_nil, List.take_zero, List.all_nil, List.length_map, Nat.le_refl, Nat.zero_le, Nat.reduceSub, Nat.reduceAdd, Nat.sub_self, ge_iff_le, Nat.lt_irrefl, reduceCtorEq, false_and, and_false, or_false, false_or, or_true, true_or, rd_dat, ↓dLenSet, ↓dDisp, ↓dDispL, ↓cStr2, strQ_int, strQ_str, strB_int, strB_str, ↓dPopI, ↓cLenR, ↓rAddO, ↓cSumL, ↓cSumLO, ↓dAppendR, ↓dPopR, ↓rIxR, ↓dLstR, ↓cDict, ↓dDin, ↓dDget, Ob.ins.injEq, Ob.lst.injEq, Ob.spr.injEq, Ob.dk.injEq, Ob.refs.injEq, ↓dFld, ↓sFldD, ↓dMeth, ↓dMake, ↓dCallW, ↓dLc, rowP_str, ↓wipeD, Tg.own, Tg.put, ↓setsD, exists_false, rd_ref, isN_int, isN_str, isN_bl, isN_non, isN_lst, isN_tup, isN_ref, flatP_int, flatP_str, flatP_bl, flatP_non, lenP_str, lenP_lst, lenP_tup, rowP_lst, rowP_tup, itP_lst, itP_tup, itP_str, ixB_str, ixB_lst, ixB_tup, slP_lst, slP_tup, slP_str, atP_lst, atP_tup, addP_int, addP_str, addP_lst, addP_tup, addB_int, addB_str, addB_lst, addB_tup, fin0, eqOk_ss, eqOk_ii, eqv_ss, eqv_ii, atI_0, atI_1, atI_2, atI_3, atI_4, atI_5, atI_6, atI_7, cutP_f1, cutP_f2, cutP_f3, cutP_f4, cutP_f5, cutP_t1, cutP_t2, cutP_t3, cutP_t4, cutP_t5, atI_last', and_assoc, List.drop_succ_cons, List.drop_zero, List.take_succ_cons, f_pow30, f_pow29, f_pow15]
    have e1 : decide ((1 : Int) ≤ ↑z.length) = decide (1 ≤ z.length) := by congr 1; simp; omega
    have e2 : decide ((z.length : Int) ≤ 8) = decide (z.length ≤ 8) := by congr 1; simp; omega
    rw [e1, e2]
    unfold nm at q
    by_cases h1 : 1 ≤ z.length
    · rw [decide_eq_true h1] at q ⊢
      by_cases h2 : z.length ≤ 8
      · rw [decide_eq_true h2] at q ⊢
        by_cases h3 : resv.contains z = true
        · rw [h3] at q ⊢
          simpa using q
        · rw [Bool.not_eq_true] at h3
          rw [h3] at q ⊢
          simp only [Bool.not_false, Bool.true_and, Bool.not_true, if_true, Bool.false_eq_true, if_false] at q ⊢
          refine ⟨by rw [sgnD_len]; omega, ?_⟩
          unfold sgnD
          refine lcL_sgn (f := fun c => .bool (decide (c ∈ letters.cps.toList))) (fun c hc R hR => ?_) ?_
          · walk_at "rm_rd"
            simpa using hR
          · refine ⟨z.cps.toList.map fun c => decide (c ∈ letters.cps.toList), by simp, ?_⟩
            rw [List.all_map]
            exact q
      · rw [decide_eq_false h2] at q ⊢
        simpa using q
    · rw [decide_eq_false h1] at q ⊢
      simpa using q
  | none => walk_at "rm_rd"; simpa [isT, isTn, tyN, isNm] using q
  | bool b => walk_at "rm_rd"; simpa [isT, isTn, tyN, isNm] using q
  | int i => walk_at "rm_rd"; simpa [isT, isTn, tyN, isNm] using q
  | list ds => walk_at "rm_rd"; simpa [isT, isTn, tyN, isNm] using q
  | tuple ds => walk_at "rm_rd"; simpa [isT, isTn, tyN, isNm] using q
  | dict ds => walk_at "rm_rd"; simpa [isT, isTn, tyN, isNm] using q
end
end Rm

set_option Elab.async false
set_option linter.all false
set_option maxRecDepth 100000
set_option maxHeartbeats 4000000
namespace Rm
open PySem PySem.Spec PyProof.Rows L2
def isVr (f : PyData → Bool) : List PyData → Bool
  | .str t :: r => decide (r.length ≤ 6) && (if t = "close" then (match r with
    | g :: ps => isNm g && ps.all f
    | [] => false) else isNm (.str t) && r.all f)
  | _ => false
def isVb : Nat → PyData → Bool
  | n + 1, .tuple ds => isVr (isVb n) ds
  | n + 1, .list ds => isVr (isVb n) ds
  | _ + 1, .int i => decide (i.natAbs < 10 ^ 30)
  | _, _ => false
theorem isVr_str {f : PyData → Bool} {ds : List PyData} (h : isVr f ds = true) : ∃ t r, ds = .str t :: r := by
  match ds with
  | .str t :: r => exact ⟨t, r, rfl⟩
  | [] => cases h
  | .none :: r => cases h
  | .bool _ :: r => cases h
  | .int _ :: r => cases h
  | .list _ :: r => cases h
  | .tuple _ :: r => cases h
  | .dict _ :: r => cases h
theorem isNm_ex {p : PyData} (h : isNm p = true) : ∃ x, p = .str x ∧ nm x = true := by
  cases p with
  | str x => exact ⟨x, rfl, h⟩
  | _ => cases h
theorem isVr_cases {f : PyData → Bool} {ds : List PyData} (h : isVr f ds = true) : (∃ t r, ds = .str t :: r ∧ t ≠ "close" ∧ nm t = true ∧ r.length ≤ 6 ∧ ∀ d ∈ r, f d = true) ∨ ∃ g ps, ds = .str "close" :: .str g :: ps ∧ nm g = true ∧ ps.length ≤ 5 ∧ ∀ d ∈ ps, f d = true := by
  obtain ⟨t, r, rfl⟩ := isVr_str h
  simp only [isVr, Bool.and_eq_true, decide_eq_true_eq] at h
  obtain ⟨h1, h2⟩ := h
  by_cases ht : t = "close"
  · rw [if_pos ht] at h2
    subst ht
    cases r with
    | nil => cases h2
    | cons g ps =>
      simp only [Bool.and_eq_true, List.all_eq_true] at h2
      obtain ⟨x, rfl, hx⟩ := isNm_ex h2.1
      exact .inr ⟨x, ps, rfl, hx, by simpa using h1, h2.2⟩
  · rw [if_neg ht] at h2
    simp only [Bool.and_eq_true, List.all_eq_true] at h2
    exact .inl ⟨t, r, rfl, ht, h2.1, h1, h2.2⟩
end Rm

set_option Elab.async false
set_option linter.all false
set_option maxRecDepth 100000
set_option maxHeartbeats 4000000
namespace Rm
open PySem PySem.Spec PyProof.Rows L2
theorem val_snoc (l : List Nat) (c : Nat) : NumText.digitsVal (l ++ [c]) = NumText.digitsVal l * 10 + (c - 48) := by
  unfold NumText.digitsVal
  rw [List.foldl_append]
  rfl
theorem numL_back : ∀ (k : Nat) (l : List Nat), l.length = k + 1 → NumText.AllDigits l → (k = 0 ∨ l.head? ≠ some 48) → TL.numL (NumText.digitsVal l) = l
  | 0, l, hl, had, _ => by
    match l, hl with
    | [c], _ =>
      have := had c (by simp)
      rw [show NumText.digitsVal [c] = c - 48 from by simp [NumText.digitsVal], TL.numL_lt (by omega)]
      rw [show 48 + (c - 48) = c by omega]
  | k + 1, l, hl, had, hh => by
    rcases List.eq_nil_or_concat l with rfl | ⟨l', c, rfl⟩
    · simp at hl
    · rw [List.concat_eq_append] at *
      have hl' : l'.length = k + 1 := by simpa using hl
      have hh' : (l' ++ [c]).head? ≠ some 48 := hh.resolve_left (by omega)
      have hh2 : l'.head? ≠ some 48 := by
        cases l' with
        | nil => simp at hl'
        | cons a r => simpa using hh'
      have hc := had c (by simp)
      have ih := numL_back k l' hl' (fun d hd => had d (by simp [hd])) (.inr hh2)
      have pos : 1 ≤ NumText.digitsVal l' := by
        rcases Nat.eq_zero_or_pos (NumText.digitsVal l') with e | e
        · rw [e, TL.numL_lt (by decide)] at ih
          rw [← ih] at hh2
          exact absurd rfl hh2
        · exact e
      rw [val_snoc, TL.numL_step (by omega), show (NumText.digitsVal l' * 10 + (c - 48)) / 10 = NumText.digitsVal l' by omega, show (NumText.digitsVal l' * 10 + (c - 48)) % 10 = c - 48 by omega, ih, show 48 + (c - 48) = c by omega]
theorem val_pos {l : List Nat} (had : NumText.AllDigits l) (hne : l ≠ []) (hh : l.head? ≠ some 48) : 1 ≤ NumText.digitsVal l := by
  obtain ⟨k, hk⟩ : ∃ k, l.length = k + 1 := ⟨l.length - 1, by have := List.length_pos_iff.mpr hne; omega⟩
  have e := numL_back k l hk had (.inr hh)
  rcases Nat.eq_zero_or_pos (NumText.digitsVal l) with z | z
  · rw [z, TL.numL_lt (by decide)] at e
    rw [← e] at hh
    exact absurd rfl hh
  · exact z
theorem val_lt : ∀ (k : Nat) (l : List Nat), l.length = k → NumText.AllDigits l → NumText.digitsVal l < 10 ^ k
  | 0, l, hl, _ => by rw [List.length_eq_zero_iff.mp hl]; decide
  | k + 1, l, hl, had => by
    rcases List.eq_nil_or_concat l with rfl | ⟨l', c, rfl⟩
    · simp at hl
    · rw [List.concat_eq_append] at *
      have hc := had c (by simp)
      have ih := val_lt k l' (by simpa using hl) fun d hd => had d (by simp [hd])
      rw [val_snoc, Nat.pow_succ]
      omega
theorem wi_back {x : Str} (h : wi x = true) : sg (intOf x) = tl x ∧ (intOf x).natAbs < 10 ^ 30 := by
  unfold wi at h
  simp only [Bool.and_eq_true, decide_eq_true_eq, List.all_eq_true, Bool.or_eq_true] at h
  obtain ⟨⟨⟨h1, h2⟩, h3⟩, h4⟩ := h
  have hd : ∀ c ∈ digs.cps.toList, 48 ≤ c ∧ c ≤ 57 := by decide +kernel
  have had : NumText.AllDigits (tl (dgt x)) := fun c hc => hd c (h3 c hc)
  rw [int_len] at h1 h2
  have hne : tl (dgt x) ≠ [] := fun e => by rw [e] at h1; simp at h1
  have bound : NumText.digitsVal (tl (dgt x)) < 10 ^ 30 := Nat.lt_of_lt_of_le (val_lt _ _ rfl had) (Nat.pow_le_pow_right (by decide) h2)
  rw [tl_dgt] at had hne h2 h4 bound
  unfold intOf
  by_cases h : (tl x).take 1 = [45]
  · rw [if_pos h] at had hne h2 h4 bound
    obtain ⟨c, r, e⟩ : ∃ c r, tl x = c :: r := List.exists_cons_of_ne_nil fun e => by rw [e] at h; simp at h
    rw [e] at h had hne h2 h4 bound
    simp only [List.take_succ_cons, List.take_zero, List.cons.injEq, and_true] at h
    subst h
    simp only [List.drop_succ_cons, List.drop_zero] at had hne h2 h4 bound
    have hl : x.length ≤ 31 := by
      rw [int_len, e]
      simp at h2 ⊢
      omega
    rw [PySem.intText_neg (cs := r) e had hne (by omega)]
    have hh : r.head? ≠ some 48 := by
      rcases h4 with h4 | h4
      · have : x = "0" := by simpa using h4
        rw [this] at e
        have z : tl ("0" : Str) = [48] := by decide +kernel
        rw [z] at e
        cases e
      · simpa using h4
    have pos := val_pos had hne hh
    obtain ⟨k, hk⟩ : ∃ k, r.length = k + 1 := ⟨r.length - 1, by have := List.length_pos_iff.mpr hne; omega⟩
    simp only [Option.getD_some]
    refine ⟨?_, by omega⟩
    unfold sg
    rw [if_pos (by omega), Int.natAbs_neg, Int.natAbs_natCast, numL_back k r hk had (.inr hh), e]
  · rw [if_neg h] at had hne h2 h4 bound
    have hl : x.length ≤ 31 := by rw [int_len]; omega
    rw [PySem.intText_digits had hne (by omega)]
    obtain ⟨k, hk⟩ : ∃ k, (tl x).length = k + 1 := ⟨(tl x).length - 1, by have := List.length_pos_iff.mpr hne; omega⟩
    have hh : k = 0 ∨ (tl x).head? ≠ some 48 := by
      rcases h4 with h4 | h4
      · have : x = "0" := by simpa using h4
        rw [this] at hk
        have z : tl ("0" : Str) = [48] := by decide +kernel
        rw [z] at hk
        left
        simpa using hk.symm
      · right
        simpa using h4
    simp only [Option.getD_some]
    refine ⟨?_, by rw [Int.natAbs_natCast]; exact bound⟩
    unfold sg
    rw [if_neg (by omega), Int.natAbs_natCast, numL_back k (tl x) hk had hh]
def mkS (l : List Nat) : Str := ⟨l.toArray⟩
theorem mkS_tl (x : Str) : mkS (tl x) = x := by
  cases x
  simp [mkS, tl]
def sepc (c : Nat) : Bool := c == 32 || c == 40 || c == 41
def wd (s : List Nat) : List Nat := s.takeWhile fun c => !sepc c
def wr (s : List Nat) : List Nat := s.dropWhile fun c => !sepc c
theorem wd_wr (s : List Nat) : wd s ++ wr s = s := List.takeWhile_append_dropWhile ..
def atSep (r : List Nat) : Prop := r = [] ∨ ∃ c r', r = c :: r' ∧ sepc c = true
theorem wd_app {w r : List Nat} (h : pln w) (hr : atSep r) : wd (w ++ r) = w ∧ wr (w ++ r) = r := by
  induction w with
  | nil =>
    rcases hr with rfl | ⟨c, r', rfl, hc⟩
    · exact ⟨rfl, rfl⟩
    · simp [wd, wr, hc]
  | cons a w ih =>
    have ha : sepc a = false := by
      obtain ⟨h1, h2, h3⟩ := h a (by simp)
      simp [sepc, h1, h2, h3]
    obtain ⟨i1, i2⟩ := ih fun c hc => h c (by simp [hc])
    unfold wd wr at *
    rw [List.cons_append, List.takeWhile_cons, List.dropWhile_cons]
    simp only [ha, Bool.not_false, if_true]
    exact ⟨by rw [i1], i2⟩
def prt (f : List Nat → Option (PyData × List Nat)) : Nat → List PyData → List Nat → Option (PyData × List Nat)
  | k + 1, fd, 32 :: r => match f r with
    | some (v, r') => if fd.length = 7 then none else prt f k (fd ++ [v]) r'
    | none => none
  | _, fd, 41 :: r => some (.tuple fd, r)
  | _, _, _ => none
def lrd : Nat → List Nat → Option (PyData × List Nat)
  | 0, _ => none
  | n + 1, 40 :: s => if mkS (wd s) = "close" ∧ (wr s).head? = some 32 then
      (if nm (mkS (wd ((wr s).drop 1))) = true then prt (lrd n) 8 [.str (mkS (wd s)), .str (mkS (wd ((wr s).drop 1)))] (wr ((wr s).drop 1)) else none)
    else if nm (mkS (wd s)) = true then prt (lrd n) 8 [.str (mkS (wd s))] (wr s) else none
  | _ + 1, s => if wi (mkS (wd s)) = true then some (.int (intOf (mkS (wd s))), wr s) else none
theorem lrd_40 {n : Nat} {s : List Nat} : lrd (n + 1) (40 :: s) = if mkS (wd s) = "close" ∧ (wr s).head? = some 32 then
      (if nm (mkS (wd ((wr s).drop 1))) = true then prt (lrd n) 8 [.str (mkS (wd s)), .str (mkS (wd ((wr s).drop 1)))] (wr ((wr s).drop 1)) else none)
    else if nm (mkS (wd s)) = true then prt (lrd n) 8 [.str (mkS (wd s))] (wr s) else none := rfl
def jw (n : Nat) (ds : List PyData) : List Nat := TL.joinL [32] (ds.map fun d => tl (wordOf (txt n) d))
theorem jw_snoc {n : Nat} {ds : List PyData} {d : PyData} (h : ds ≠ []) : jw n (ds ++ [d]) = jw n ds ++ ([32] ++ tl (wordOf (txt n) d)) := by
  unfold jw
  rw [List.map_append, joinL_app (by simpa using h) (by simp)]
  rfl
theorem txt_tl {n : Nat} {ds : List PyData} : tl (txt (n + 1) (.tuple ds)) = 40 :: (jw n ds ++ [41]) := by
  show tl (rowT (txt n) ds) = _
  unfold rowT jw
  rw [tl_app, tl_app, tl_join, List.map_map]
  rfl
theorem prt_ok {n : Nat} (ih : ∀ s v r, lrd n s = some (v, r) → vt n v ∧ s = tl (txt n v) ++ r) : ∀ (k : Nat) (hd : List Str) (es : List PyData) (s : List Nat) (v : PyData) (r : List Nat), hdOk hd → (hd.map PyData.str ++ es).length ≤ 7 → (∀ e ∈ es, vt n e) →
    prt (lrd n) k (hd.map PyData.str ++ es) s = some (v, r) → vt (n + 1) v ∧ 40 :: (jw n (hd.map PyData.str ++ es) ++ s) = tl (txt (n + 1) v) ++ r := by
  intro k
  induction k with
  | zero =>
    intro hd es s v r hh hl he h
    unfold prt at h
    split at h
    · rename_i e; cases e
    · cases h
      exact ⟨⟨hd, es, rfl, hh, hl, he⟩, by rw [txt_tl]; simp⟩
    · cases h
  | succ k ihk =>
    intro hd es s v r hh hl he h
    unfold prt at h
    split at h
    · rename_i e
      cases e
      rename_i r0
      split at h
      · rename_i v1 r1 hv
        obtain ⟨a1, a2⟩ := ih _ _ _ hv
        split at h
        · cases h
        · rename_i h7
          rw [List.append_assoc] at h
          have hl2 : (hd.map PyData.str ++ (es ++ [v1])).length ≤ 7 := by
            rw [← List.append_assoc, List.length_append]
            simp only [List.length_cons, List.length_nil]
            omega
          obtain ⟨b1, b2⟩ := ihk hd (es ++ [v1]) r1 v r hh hl2 (fun e hm => by
            rcases List.mem_append.mp hm with hm | hm
            · exact he e hm
            · rw [List.mem_singleton.mp hm]; exact a1) h
          refine ⟨b1, ?_⟩
          rw [← b2, ← List.append_assoc (hd.map PyData.str), jw_snoc (by
            intro z
            have := hd_ne hh
            cases hd with
            | nil => exact this rfl
            | cons _ _ => cases z), vt_nostr' a1, a2]
          simp
      · cases h
    · cases h
      exact ⟨⟨hd, es, rfl, hh, hl, he⟩, by rw [txt_tl]; simp⟩
    · cases h
theorem lrd_ok : ∀ (n : Nat) (s : List Nat) (v : PyData) (r : List Nat), lrd n s = some (v, r) → vt n v ∧ s = tl (txt n v) ++ r
  | 0, s, v, r, h => by cases h
  | n + 1, s, v, r, h => by
    unfold lrd at h
    split at h
    · rename_i e; cases e
    · rename_i n0 s0 e1
      cases e1
      split at h
      · rename_i hc
        split at h
        · rename_i hn
          obtain ⟨r2, e2⟩ : ∃ r2, wr s0 = 32 :: r2 := by
            cases hw : wr s0 with
            | nil => rw [hw] at hc; cases hc.2
            | cons a t =>
              rw [hw] at hc
              have := hc.2
              simp only [List.head?_cons, Option.some.injEq] at this
              exact ⟨t, by rw [this]⟩
          rw [e2, List.drop_succ_cons, List.drop_zero] at h hn
          have := prt_ok (lrd_ok n) 8 ["close", mkS (wd r2)] [] (wr r2) v r (.inr ⟨_, rfl, hn⟩) (by simp) (fun e he => by cases he) (by rw [hc.1] at h; exact h)
          refine ⟨this.1, ?_⟩
          rw [← this.2]
          have z1 : wd s0 = tl ("close" : Str) := by rw [← hc.1]; rfl
          have z2 := wd_wr s0
          rw [e2, z1] at z2
          rw [← z2]
          have z3 := wd_wr r2
          show 40 :: (tl ("close" : Str) ++ 32 :: r2) = 40 :: ((tl ("close" : Str) ++ ([32] ++ wd r2)) ++ wr r2)
          conv => lhs; rw [← z3]
          simp
        · cases h
      · split at h
        · rename_i hn
          have := prt_ok (lrd_ok n) 8 [mkS (wd s0)] [] (wr s0) v r (.inl ⟨_, rfl, hn⟩) (by simp) (fun e he => by cases he) h
          refine ⟨this.1, ?_⟩
          rw [← this.2]
          show 40 :: s0 = 40 :: (wd s0 ++ wr s0)
          rw [wd_wr]
        · cases h
    · rename_i s1 _ _ _ _ _
      split at h
      · rename_i hw
        cases h
        obtain ⟨a, b⟩ := wi_back hw
        refine ⟨by cases n <;> exact b, ?_⟩
        have : tl (txt (n + 1) (.int (intOf (mkS (wd s1))))) = wd s1 := by
          show tl (Str.ofString (toString (intOf (mkS (wd s1))))) = _
          rw [tl_int, a]
          rfl
        rw [this, wd_wr]
      · cases h
theorem jw_cons {n : Nat} {d : PyData} {ds : List PyData} : jw n (d :: ds) = tl (wordOf (txt n) d) ++ ds.flatMap fun e => 32 :: tl (wordOf (txt n) e) := by
  unfold jw
  induction ds generalizing d with
  | nil => simp [TL.joinL]
  | cons e r ih =>
    show tl (wordOf (txt n) d) ++ ([32] ++ TL.joinL [32] ((e :: r).map fun d => tl (wordOf (txt n) d))) = _
    rw [ih]
    simp
theorem prt_txt {n m : Nat} {f : List Nat → Option (PyData × List Nat)} {r : List Nat} : ∀ (es fd : List PyData) (k : Nat), (∀ e ∈ es, vt n e) → (∀ e ∈ es, ∀ r, atSep r → f (tl (txt n e) ++ r) = some (e, r)) → es.length < k → fd.length + es.length ≤ 7 →
    prt f k fd (es.flatMap (fun e => 32 :: tl (wordOf (txt n) e)) ++ 41 :: r) = some (.tuple (fd ++ es), r)
  | [], fd, k, _, _, hk, _ => by
    obtain ⟨k, rfl⟩ : ∃ j, k = j + 1 := ⟨k - 1, by omega⟩
    simp [prt]
  | e :: es, fd, k, hv, hf, hk, hl => by
    obtain ⟨k, rfl⟩ : ∃ j, k = j + 1 := ⟨k - 1, by omega⟩
    simp only [List.length_cons] at hk hl
    rw [List.flatMap_cons, List.append_assoc, List.cons_append, vt_nostr' (hv e (by simp))]
    have sep : atSep (es.flatMap (fun e => 32 :: tl (wordOf (txt n) e)) ++ 41 :: r) := by
      cases es with
      | nil => exact .inr ⟨41, r, rfl, rfl⟩
      | cons a b => exact .inr ⟨32, _, rfl, rfl⟩
    have ih := prt_txt (n := n) (m := m) (f := f) (r := r) es (fd ++ [e]) k (fun x hx => hv x (by simp [hx])) (fun x hx => hf x (by simp [hx])) (by omega) (by rw [List.length_append]; simp; omega)
    unfold prt
    simp only [hf e (by simp) _ sep]
    rw [if_neg (by omega), ih, List.append_assoc]
    rfl
theorem lrd_txt : ∀ (n : Nat) (v : PyData), vt n v → ∀ r, atSep r → lrd (n + 1) (tl (txt n v) ++ r) = some (v, r) := by
  have int : ∀ (n : Nat) (i : Int), i.natAbs < 10 ^ 30 → ∀ r, atSep r → lrd (n + 1) (tl (txt n (.int i)) ++ r) = some (.int i, r) := fun n i hi r hr => by
    have e : tl (txt n (.int i)) = sg i := by
      cases n <;> exact tl_int i
    rw [e]
    obtain ⟨a, b⟩ := wd_app (sg_pln i) hr
    have hm : mkS (sg i) = Str.ofString (toString i) := by rw [← tl_int i, mkS_tl]
    have n40 : ∀ s, sg i ++ r ≠ 40 :: s := fun s z => by
      obtain ⟨c, t, ec⟩ := List.exists_cons_of_ne_nil (sg_ne i)
      rw [ec, List.cons_append, List.cons.injEq] at z
      exact (sg_pln i c (by rw [ec]; simp)).1 z.1
    unfold lrd
    split
    · rename_i e2; cases e2
    · rename_i n0 s0 e1 e2
      exact absurd e2 (n40 s0)
    · rw [a, b, hm, if_pos (wi_int hi)]
      unfold intOf
      rw [int_back hi]
      rfl
  intro n
  induction n with
  | zero =>
    intro v hv r hr
    cases v with
    | int i => exact int 0 i hv r hr
    | _ => cases hv
  | succ n ih =>
    intro v hv r hr
    cases v with
    | int i => exact int (n + 1) i hv r hr
    | tuple ds =>
      obtain ⟨hd, es, rfl, hh, hl, he⟩ := hv
      rw [txt_tl]
      have parts := fun (fd : List PyData) (hf : fd.length + es.length ≤ 7) (h6 : 1 ≤ fd.length) => prt_txt (n := n) (m := n) (f := lrd (n + 1)) (r := r) es fd 8 he (fun e hm r hr => ih e (he e hm) r hr) (by omega) hf
      have sep : atSep (es.flatMap (fun e => 32 :: tl (wordOf (txt n) e)) ++ 41 :: r) := by
        cases es with
        | nil => exact .inr ⟨41, r, rfl, rfl⟩
        | cons a b => exact .inr ⟨32, _, rfl, rfl⟩
      rcases hh with ⟨t, rfl, ht⟩ | ⟨f, rfl, hf⟩
      · obtain ⟨a, b⟩ := wd_app (letters_pln (nm_facts ht).1) sep
        have e1 : 40 :: (jw n (([t] : List Str).map PyData.str ++ es) ++ [41]) ++ r = 40 :: (tl t ++ (es.flatMap (fun e => 32 :: tl (wordOf (txt n) e)) ++ 41 :: r)) := by
          rw [List.map_cons, List.map_nil, List.singleton_append, jw_cons]
          simp [wordOf]
        rw [e1, lrd_40, a, b, mkS_tl, if_neg (fun z => by rw [z.1] at ht; exact absurd ht (by decide +kernel)), if_pos ht]
        exact parts [.str t] (by simpa [Nat.add_comm] using hl) (by simp)
      · have hs : atSep (32 :: (tl f ++ (es.flatMap (fun e => 32 :: tl (wordOf (txt n) e)) ++ 41 :: r))) := .inr ⟨32, _, rfl, rfl⟩
        have pc : pln (tl ("close" : Str)) := letters_pln (by decide +kernel)
        obtain ⟨a, b⟩ := wd_app pc hs
        obtain ⟨a2, b2⟩ := wd_app (letters_pln (nm_facts hf).1) sep
        have e1 : 40 :: (jw n ((["close", f] : List Str).map PyData.str ++ es) ++ [41]) ++ r = 40 :: (tl ("close" : Str) ++ 32 :: (tl f ++ (es.flatMap (fun e => 32 :: tl (wordOf (txt n) e)) ++ 41 :: r))) := by
          rw [show ((["close", f] : List Str).map PyData.str ++ es) = .str "close" :: .str f :: es from rfl, jw_cons, List.flatMap_cons]
          simp [wordOf]
        rw [e1, lrd_40, a, b, mkS_tl, if_pos ⟨rfl, rfl⟩, List.drop_succ_cons, List.drop_zero, a2, b2, mkS_tl, if_pos hf]
        exact parts [.str "close", .str f] (by simp at hl ⊢; omega) (by simp)
    | _ => cases hv
end Rm

set_option Elab.async false
set_option linter.all false
set_option maxRecDepth 100000
set_option maxHeartbeats 4000000
namespace Rm
open PySem PySem.Spec PyProof.Rows L2
inductive Tps : PyData → Prop
  | int (i : Int) : Tps (.int i)
  | str (x : Str) : Tps (.str x)
  | tup {ds : List PyData} : (∀ d ∈ ds, Tps d) → Tps (.tuple ds)
theorem item_tps (w : Str) : Tps (item w) := by
  unfold item
  split
  · exact .int _
  · exact .str _
theorem gst_tps {st st' : List (List PyData)} {w : Str} (h : gst st w = some st') (hs : ∀ g ∈ st, ∀ d ∈ g, Tps d) : ∀ g ∈ st', ∀ d ∈ g, Tps d := by
  unfold gst at h
  split at h
  · cases h
    intro g hg
    rcases List.mem_cons.mp hg with rfl | hg
    · intro d hd; cases hd
    · exact hs g hg
  split at h
  · match st, h with
    | g :: k :: r, h =>
      cases h
      intro g' hg
      rcases List.mem_cons.mp hg with rfl | hg
      · intro d hd
        rcases List.mem_append.mp hd with hd | hd
        · exact hs k (by simp) d hd
        · rw [List.mem_singleton.mp hd]; exact .tup (hs g (by simp))
      · exact hs g' (by simp [hg])
  · match st, h with
    | g :: r, h =>
      cases h
      intro g' hg
      rcases List.mem_cons.mp hg with rfl | hg
      · intro d hd
        rcases List.mem_append.mp hd with hd | hd
        · exact hs g (by simp) d hd
        · rw [List.mem_singleton.mp hd]; exact item_tps w
      · exact hs g' (by simp [hg])
theorem gfold_tps : ∀ {ws : List Str} {st st' : List (List PyData)}, gfold ws st = some st' → (∀ g ∈ st, ∀ d ∈ g, Tps d) → ∀ g ∈ st', ∀ d ∈ g, Tps d
  | [], st, st', h, hs => by cases h; exact hs
  | w :: r, st, st', h, hs => by
    unfold gfold at h
    cases e : gst st w with
    | none => rw [e] at h; cases h
    | some s1 => rw [e] at h; exact gfold_tps h (gst_tps e hs)
theorem vt_of : ∀ (n : Nat) (v : PyData), isVb n v = true → Tps v → vt n v
  | 0, v, h, _ => by cases v <;> cases h
  | n + 1, v, h, ht => by
    cases v with
    | int i =>
      have z : i.natAbs < 10 ^ 30 := of_decide_eq_true h
      exact z
    | tuple ds =>
      cases ht with
      | tup hs =>
        have h' : isVr (isVb n) ds = true := h
        rcases isVr_cases h' with ⟨t, r, rfl, _, hn, hl, hv⟩ | ⟨g, ps, rfl, hg, hl, hv⟩
        · exact ⟨[t], r, rfl, .inl ⟨t, rfl, hn⟩, by simp; omega, fun e he => vt_of n e (hv e he) (hs e (by simp [he]))⟩
        · exact ⟨["close", g], ps, rfl, .inr ⟨g, rfl, hg⟩, by simp; omega, fun e he => vt_of n e (hv e he) (hs e (by simp [he]))⟩
    | list ds => cases ht
    | _ => cases h
theorem isVb_vt : ∀ (n : Nat) (v : PyData), vt n v → isVb (n + 1) v = true
  | n, .int i, h => by
    have : i.natAbs < 10 ^ 30 := by cases n <;> exact h
    exact decide_eq_true this
  | n + 1, .tuple ds, h => by
    obtain ⟨hd, es, rfl, hh, hl, he⟩ := h
    have hs : es.all (isVb (n + 1)) = true := List.all_eq_true.mpr fun e hm => isVb_vt n e (he e hm)
    show isVr (isVb (n + 1)) _ = true
    rcases hh with ⟨t, rfl, ht⟩ | ⟨f, rfl, hf⟩
    · have hne : t ≠ "close" := fun z => by rw [z] at ht; exact absurd ht (by decide +kernel)
      simp only [List.map_cons, List.map_nil, List.cons_append, List.nil_append, List.length_cons] at hl ⊢
      simp only [isVr, if_neg hne, isNm, ht, hs, Bool.and_true]
      exact decide_eq_true (by omega)
    · simp only [List.map_cons, List.map_nil, List.cons_append, List.nil_append, List.length_cons] at hl ⊢
      simp only [isVr, if_true, isNm, hf, hs, Bool.and_true, List.length_cons]
      exact decide_eq_true (by omega)
  | 0, .tuple _, h => by cases h
  | _, .none, h => by cases ‹Nat› <;> cases h
  | _, .bool _, h => by cases ‹Nat› <;> cases h
  | _, .str _, h => by cases ‹Nat› <;> cases h
  | _, .list _, h => by cases ‹Nat› <;> cases h
  | _, .dict _, h => by cases ‹Nat› <;> cases h
theorem txt_up : ∀ (n : Nat) (d : PyData), vt n d → txt (n + 1) d = txt n d
  | n, .int i, _ => by cases n <;> rfl
  | n + 1, .tuple ds, h => by
    obtain ⟨hd, es, rfl, _, _, he⟩ := h
    show rowT (txt (n + 1)) _ = rowT (txt n) _
    unfold rowT
    have e : (hd.map PyData.str ++ es).map (wordOf (txt (n + 1))) = (hd.map PyData.str ++ es).map (wordOf (txt n)) := List.map_congr_left fun d hm => by
      rcases List.mem_append.mp hm with hm | hm
      · obtain ⟨x, _, rfl⟩ := List.mem_map.mp hm
        rfl
      · rw [vt_nostr' (he d hm), vt_nostr' (he d hm), txt_up n d (he d hm)]
    rw [e]
  | 0, .tuple _, h => by cases h
  | _, .none, h => by cases ‹Nat› <;> cases h
  | _, .bool _, h => by cases ‹Nat› <;> cases h
  | _, .str _, h => by cases ‹Nat› <;> cases h
  | _, .list _, h => by cases ‹Nat› <;> cases h
  | _, .dict _, h => by cases ‹Nat› <;> cases h
def readP (n : Nat) (x : Str) : Option PyData := match gfold (wordsOf x) [[]] with
  | some [[v]] => if isVb n v = true ∧ txt n v = x then some v else none
  | _ => none
theorem readP_some {n : Nat} {x : Str} {v : PyData} (h : readP n x = some v) : vt n v ∧ txt n v = x := by
  unfold readP at h
  split at h
  · rename_i u e
    split at h
    · rename_i hc
      cases h
      exact ⟨vt_of n v hc.1 (gfold_tps e (fun g hg d hd => by rw [List.mem_singleton.mp hg] at hd; cases hd) [v] (by simp) v (by simp)), hc.2⟩
    · cases h
  · cases h
theorem lrd_readP {n : Nat} {x : Str} {v : PyData} (h : lrd (n + 1) (tl x) = some (v, [])) : readP (n + 2) x = some v := by
  obtain ⟨a, b⟩ := lrd_ok (n + 1) _ _ _ h
  rw [List.append_nil] at b
  have ex : txt (n + 1) v = x := by rw [← mkS_tl x, b, mkS_tl]
  have ev := txt_up (n + 1) v a
  unfold readP
  rw [← ex, words_txt a, gfold_vt a [] []]
  simp only [List.nil_append]
  rw [if_pos ⟨isVb_vt (n + 1) v a, ev⟩]
end Rm

set_option Elab.async false
set_option linter.all false
set_option maxRecDepth 100000
set_option maxHeartbeats 4000000
local macro_rules | `(tactic| walk_at "rm_rd") => `(tactic| (try simp only [↓sSeq, ↓sNext, ↓sDrop, ↓sRet, ↓sRetN, ↓sIf, ↓sAsg, ↓sAug, ↓sPar, ↓sFrz, ↓sBreak, ↓sCont, ↓sFor, ↓dgName, ↓dgTup, ↓dgCons, ↓dgNil, ↓dgSub, ↓dVar, ↓dC, ↓dNil, ↓dCons, ↓dTup, ↓dLst, ↓dLstO, ↓dats, ↓dOp, ↓dUn, ↓dCB, ↓dT, ↓dAnd, ↓dOr, ↓dNot, ↓dAndV, ↓dOrV, ↓dNotV, ↓dIf, ↓dChain, ↓rAdd, ↓rInts, ↓rSub, ↓rMod, ↓rFdiv, ↓rMul, ↓rNeg, ↓rEqB, ↓rLt, ↓rLe, ↓rGt, ↓rGe, ↓rIsN, ↓rInB, ↓rIxD, ↓dSl, ↓dPart, ↓dNoPart, ↓cLen, ↓cInt, ↓cStr, ↓cAbs, ↓cMin, ↓cMax, ↓cAll, ↓cAny, ↓cSum, ↓cList, ↓cListO, ↓cTuple, ↓dIsi, ↓dSplit, ↓dJoin, ↓dAppend, ↓dPop, ↓dExtend, ↓dCall, ↓callS_Pf, ↓iRow, ↓iRan1, ↓iRan2, ↓iEnu, ↓iZp, ↓iZpM, ↓sPar3, ↓dDget1, ↓dDget2, ↓sDputD, ↓dDnew, ↓dSplitO, ↓rInTd, ↓dLstR1, ↓cSumLR, ↓xE, ↓xA, ↓xF, ↓xCons, ↓xTup, ↓xCB, ↓xMeth, ↓dIsX, ↓sAsgX, ↓sDropX, ↓sRetX, ↓sTry, ↓dCallX, ↓dXf, startD, List.map_cons, List.map_nil, List.cons_append, List.nil_append, List.length_cons, List.length_nil, List.replicate, List.set_cons_zero, List.set_cons_succ, List.getElem?_cons_zero, List.getElem?_cons_succ, List.getElem?_nil, Option.map_some, Option.some.injEq, D.dat.injEq, D.ref.injEq, PyData.int.injEq, PyData.bool.injEq, PyData.str.injEq, PyData.list.injEq, PyData.tuple.injEq, exists_and_left, exists_eq_left, exists_eq_left', exists_eq, exists_const, if_true, if_false, Bool.not_true, Bool.not_false, Bool.false_eq_true, ↓reduceIte, List.cons.injEq, and_true, true_and, List.take_nil, List.take_zero, List.all_nil, List.length_map, Nat.le_refl, Nat.zero_le, Nat.reduceSub, Nat.reduceAdd, Nat.sub_self, ge_iff_le, Nat.lt_irrefl, reduceCtorEq, false_and, and_false, or_false, false_or, or_true, true_or, rd_dat, ↓dLenSet, ↓dDisp, ↓dDispL, ↓cStr2, strQ_int, strQ_str, strB_int, strB_str, ↓dPopI, ↓cLenR, ↓rAddO, ↓cSumL, ↓cSumLO, ↓dAppendR, ↓dPopR, ↓rIxR, ↓dLstR, ↓cDict, ↓dDin, ↓dDget, Ob.ins.injEq, Ob.lst.injEq, Ob.spr.injEq, Ob.dk.injEq, Ob.refs.injEq, ↓dFld, ↓sFldD, ↓dMeth, ↓dMake, ↓dCallW, ↓dLc, rowP_str, ↓wipeD, Tg.own, Tg.put, ↓setsD, exists_false, rd_ref, isN_int, isN_str, isN_bl, isN_non, isN_lst, isN_tup, isN_ref, flatP_int, flatP_str, flatP_bl, flatP_non, lenP_str, lenP_lst, lenP_tup, rowP_lst, rowP_tup, itP_lst, itP_tup, itP_str, ixB_str, ixB_lst, ixB_tup, slP_lst, slP_tup, slP_str, atP_lst, atP_tup, addP_int, addP_str, addP_lst, addP_tup, addB_int, addB_str, addB_lst, addB_tup, fin0, eqOk_ss, eqOk_ii, eqv_ss, eqv_ii, atI_0, atI_1, atI_2, atI_3, atI_4, atI_5, atI_6, atI_7, cutP_f1, cutP_f2, cutP_f3, cutP_f4, cutP_f5, cutP_t1, cutP_t2, cutP_t3, cutP_t4, cutP_t5, atI_last', and_assoc, List.drop_succ_cons, List.drop_zero, List.take_succ_cons, f_pow30, f_pow29, f_pow15, ↓dTried, toldD_dat, toldD_ref, ↓dIsK, ↓dXk, ↓rIxK, itmK_0, itmK_1, D.tupK.injEq, D.exk.injEq, ↓dgTupK, tupX_dat, tupX_K]))
local macro_rules | `(tactic| walk_at "rm_rd2") => `(tactic| (simp only [↓sSeq, ↓sNext, ↓sDrop, ↓sRet, ↓sRetN, ↓sIf, ↓sAsg, ↓sAug, ↓sPar, ↓sFrz, ↓sBreak, ↓sCont, ↓sFor, ↓dgName, ↓dgTup, ↓dgCons, ↓dgNil, ↓dgSub, ↓dVar, ↓dC, ↓dNil, ↓dCons, ↓dTup, ↓dLst, ↓dLstO, ↓dats, ↓dOp, ↓dUn, ↓dCB, ↓dT, ↓dAnd, ↓dOr, ↓dNot, ↓dAndV, ↓dOrV, ↓dNotV, ↓dIf, ↓dChain, ↓rAdd, ↓rInts, ↓rSub, ↓rMod, ↓rFdiv, ↓rMul, ↓rNeg, ↓rEqB, ↓rLt, ↓rLe, ↓rGt, ↓rGe, ↓rIsN, ↓rInB, ↓rIxD, ↓dSl, ↓dPart, ↓dNoPart, ↓cLen, ↓cInt, ↓cStr, ↓cAbs, ↓cMin, ↓cMax, ↓cAll, ↓cAny, ↓cSum, ↓cList, ↓cListO, ↓cTuple, ↓dIsi, ↓dSplit, ↓dJoin, ↓dAppend, ↓dPop, ↓dExtend, ↓dCall, ↓callS_Pf, ↓iRow, ↓iRan1, ↓iRan2, ↓iEnu, ↓iZp, ↓iZpM, ↓sPar3, ↓dDget1, ↓dDget2, ↓sDputD, ↓dDnew, ↓dSplitO, ↓rInTd, ↓dLstR1, ↓cSumLR, ↓xE, ↓xA, ↓xF, ↓xCons, ↓xTup, ↓xCB, ↓xMeth, ↓dIsX, ↓sAsgX, ↓sDropX, ↓sRetX, ↓sTry, ↓dCallX, ↓dXf, startD, List.map_cons, List.map_nil, List.cons_append, List.nil_append, List.length_cons, List.length_nil, List.replicate, List.set_cons_zero, List.set_cons_succ, List.getElem?_cons_zero, List.getElem?_cons_succ, List.getElem?_nil, Option.map_some, Option.some.injEq, D.dat.injEq, D.ref.injEq, PyData.int.injEq, PyData.bool.injEq, PyData.str.injEq, PyData.list.injEq, PyData.tuple.injEq, exists_and_left, exists_eq_left, exists_eq_left', exists_eq, exists_const, if_true, if_false, Bool.not_true, Bool.not_false, Bool.false_eq_true, ↓reduceIte, List.cons.injEq, and_true, true_and, List.take_nil, List.take_zero, List.all_nil, List.length_map, Nat.le_refl, Nat.zero_le, Nat.reduceSub, Nat.reduceAdd, Nat.sub_self, ge_iff_le, Nat.lt_irrefl, reduceCtorEq, false_and, and_false, or_false, false_or, or_true, true_or, rd_dat, ↓dLenSet, ↓dDisp, ↓dDispL, ↓cStr2, strQ_int, strQ_str, strB_int, strB_str, ↓dPopI, ↓cLenR, ↓rAddO, ↓cSumL, ↓cSumLO, ↓dAppendR, ↓dPopR, ↓rIxR, ↓dLstR, ↓cDict, ↓dDin, ↓dDget, Ob.ins.injEq, Ob.lst.injEq, Ob.spr.injEq, Ob.dk.injEq, Ob.refs.injEq, ↓dFld, ↓sFldD, ↓dMeth, ↓dMake, ↓dCallW, ↓dLc, rowP_str, ↓wipeD, Tg.own, Tg.put, ↓setsD, exists_false, rd_ref, isN_int, isN_str, isN_bl, isN_non, isN_lst, isN_tup, isN_ref, flatP_int, flatP_str, flatP_bl, flatP_non, lenP_str, lenP_lst, lenP_tup, rowP_lst, rowP_tup, itP_lst, itP_tup, itP_str, ixB_str, ixB_lst, ixB_tup, slP_lst, slP_tup, slP_str, atP_lst, atP_tup, addP_int, addP_str, addP_lst, addP_tup, addB_int, addB_str, addB_lst, addB_tup, fin0, eqOk_ss, eqOk_ii, eqv_ss, eqv_ii, atI_0, atI_1, atI_2, atI_3, atI_4, atI_5, atI_6, atI_7, cutP_f1, cutP_f2, cutP_f3, cutP_f4, cutP_f5, cutP_t1, cutP_t2, cutP_t3, cutP_t4, cutP_t5, atI_last', and_assoc, List.drop_succ_cons, List.drop_zero, List.take_succ_cons, f_pow30, f_pow29, f_pow15, ↓dTried, toldD_dat, toldD_ref, ↓dIsK, ↓dXk, ↓rIxK, itmK_0, itmK_1, D.tupK.injEq, D.exk.injEq, ↓dgTupK, tupX_dat, tupX_K, fin1_s, fin2_sl]))
local macro_rules | `(tactic| walk_at "rm_stp") => `(tactic| ((repeat (first | simp only [↓sSeq, ↓sNext, ↓sDrop, ↓sRet, ↓sRetN, ↓sIf, ↓sAsg, ↓sAug, ↓sPar, ↓sFrz, ↓sBreak, ↓sCont, ↓sFor, ↓dgName, ↓dgTup, ↓dgCons, ↓dgNil, ↓dgSub, ↓dVar, ↓dC, ↓dNil, ↓dCons, ↓dTup, ↓dLst, ↓dLstO, ↓dats, ↓dOp, ↓dUn, ↓dCB, ↓dT, ↓dAnd, ↓dOr, ↓dNot, ↓dAndV, ↓dOrV, ↓dNotV, ↓dIf, ↓dChain, ↓rAdd, ↓rInts, ↓rSub, ↓rMod, ↓rFdiv, ↓rMul, ↓rNeg, ↓rEqB, ↓rLt, ↓rLe, ↓rGt, ↓rGe, ↓rIsN, ↓rInB, ↓rIxD, ↓dSl, ↓dPart, ↓dNoPart, ↓cLen, ↓cInt, ↓cStr, ↓cAbs, ↓cMin, ↓cMax, ↓cAll, ↓cAny, ↓cSum, ↓cList, ↓cListO, ↓cTuple, ↓dIsi, ↓dSplit, ↓dJoin, ↓dAppend, ↓dPop, ↓dExtend, ↓dCall, ↓callS_Pf, ↓iRow, ↓iRan1, ↓iRan2, ↓iEnu, ↓iZp, ↓iZpM, ↓sPar3, ↓dDget1, ↓dDget2, ↓sDputD, ↓dDnew, ↓dSplitO, ↓rInTd, ↓dLstR1, ↓cSumLR, ↓xE, ↓xA, ↓xF, ↓xCons, ↓xTup, ↓xCB, ↓xMeth, ↓dIsX, ↓sAsgX, ↓sDropX, ↓sRetX, ↓sTry, ↓dCallX, ↓dXf, startD, List.map_cons, List.map_nil, List.cons_append, List.nil_append, List.length_cons, List.length_nil, List.replicate, List.set_cons_zero, List.set_cons_succ, List.getElem?_cons_zero, List.getElem?_cons_succ, List.getElem?_nil, Option.map_some, Option.some.injEq, D.dat.injEq, D.ref.injEq, PyData.int.injEq, PyData.bool.injEq, PyData.str.injEq, PyData.list.injEq, PyData.tuple.injEq, exists_and_left, exists_eq_left, exists_eq_left', exists_eq, exists_const, if_true, if_false, Bool.not_true, Bool.not_false, Bool.false_eq_true, ↓reduceIte, List.cons.injEq, and_true, true_and, List.take_nil, List.take_zero, List.all_nil, List.length_map, Nat.le_refl, Nat.zero_le, Nat.reduceSub, Nat.reduceAdd, Nat.sub_self, ge_iff_le, Nat.lt_irrefl, reduceCtorEq, false_and, and_false, or_false, false_or, or_true, true_or, rd_dat, ↓dLenSet, ↓dDisp, ↓dDispL, ↓cStr2, strQ_int, strQ_str, strB_int, strB_str, ↓dPopI, ↓cLenR, ↓rAddO, ↓cSumL, ↓cSumLO, ↓dAppendR, ↓dPopR, ↓rIxR, ↓dLstR, ↓cDict, ↓dDin, ↓dDget, Ob.ins.injEq, Ob.lst.injEq, Ob.spr.injEq, Ob.dk.injEq, Ob.refs.injEq, ↓dFld, ↓sFldD, ↓dMeth, ↓dMake, ↓dCallW, ↓dLc, rowP_str, ↓wipeD, Tg.own, Tg.put, ↓setsD, exists_false, rd_ref, isN_int, isN_str, isN_bl, isN_non, isN_lst, isN_tup, isN_ref, flatP_int, flatP_str, flatP_bl, flatP_non, lenP_str, lenP_lst, lenP_tup, rowP_lst, rowP_tup, itP_lst, itP_tup, itP_str, ixB_str, ixB_lst, ixB_tup, slP_lst, slP_tup, slP_str, atP_lst, atP_tup, addP_int, addP_str, addP_lst, addP_tup, addB_int, addB_str, addB_lst, addB_tup, fin0, eqOk_ss, eqOk_ii, eqv_ss, eqv_ii, atI_0, atI_1, atI_2, atI_3, atI_4, atI_5, atI_6, atI_7, cutP_f1, cutP_f2, cutP_f3, cutP_f4, cutP_f5, cutP_t1, cutP_t2, cutP_t3, cutP_t4, cutP_t5, atI_last', and_assoc, List.drop_succ_cons, List.drop_zero, List.take_succ_cons, f_pow30, f_pow29, f_pow15, ↓dTried, toldD_dat, toldD_ref, ↓dIsK, ↓dXk, ↓rIxK, itmK_0, itmK_1, D.tupK.injEq, D.exk.injEq, ↓dgTupK, tupX_dat, tupX_K, fin1_s, fin2_sl] | ((with_reducible refine Exists.intro ?w (And.intro ?h ?_)); case h => exact rfl) | ((with_reducible refine And.intro ?h ?_); case h => exact ⟨_, rfl⟩) | ((with_reducible refine And.intro ?h ?_); case h => first | exact trivial | exact rfl | decide | omega | (exact eqOk_flat rfl rfl) | (refine Nat.le_trans (m := 1000000) ?_ (by decide); (try simp only [List.length_append, List.length_cons, List.length_nil, List.length_map]); omega) | (refine Nat.lt_of_le_of_lt (m := 1000000) ?_ (by decide); (try simp only [List.length_append, List.length_cons, List.length_nil, List.length_map]); omega))))))
local macro_rules | `(tactic| walk_at "rm_x0d01ad46") => `(tactic| ((repeat (first | simp only [sIsIntG, ↓sSeq, ↓sNext, ↓sDrop, ↓sRet, ↓sRetN, ↓sIf, ↓sAsg, ↓sAug, ↓sPar, ↓sFrz, ↓sBreak, ↓sCont, ↓sFor, ↓dgName, ↓dgTup, ↓dgCons, ↓dgNil, ↓dgSub, ↓dVar, ↓dC, ↓dNil, ↓dCons, ↓dTup, ↓dLst, ↓dLstO, ↓dats, ↓dOp, ↓dUn, ↓dCB, ↓dT, ↓dAnd, ↓dOr, ↓dNot, ↓dAndV, ↓dOrV, ↓dNotV, ↓dIf, ↓dChain, ↓rAdd, ↓rInts, ↓rSub, ↓rMod, ↓rFdiv, ↓rMul, ↓rNeg, ↓rEqB, ↓rLt, ↓rLe, ↓rGt, ↓rGe, ↓rIsN, ↓rInB, ↓rIxD, ↓dSl, ↓dPart, ↓dNoPart, ↓cLen, ↓cInt, ↓cStr, ↓cAbs, ↓cMin, ↓cMax, ↓cAll, ↓cAny, ↓cSum, ↓cList, ↓cListO, ↓cTuple, ↓dIsi, ↓dSplit, ↓dJoin, ↓dAppend, ↓dPop, ↓dExtend, ↓dCall, ↓callS_Pf, ↓iRow, ↓iRan1, ↓iRan2, ↓iEnu, ↓iZp, ↓iZpM, ↓sPar3, ↓dDget1, ↓dDget2, ↓sDputD, ↓dDnew, ↓dSplitO, ↓rInTd, ↓dLstR1, ↓cSumLR, ↓xE, ↓xA, ↓xF, ↓xCons, ↓xTup, ↓xCB, ↓xMeth, ↓dIsX, ↓sAsgX, ↓sDropX, ↓sRetX, ↓sTry, ↓dCallX, ↓dXf, startD, List.map_cons, List.map_nil, List.cons_append, List.nil_append, List.length_cons, List.length_nil, List.replicate, List.set_cons_zero, List.set_cons_succ, List.getElem?_cons_zero, List.getElem?_cons_succ, List.getElem?_nil, Option.map_some, Option.some.injEq, D.dat.injEq, D.ref.injEq, PyData.int.injEq, PyData.bool.injEq, PyData.str.injEq, PyData.list.injEq, PyData.tuple.injEq, exists_and_left, exists_eq_left, exists_eq_left', exists_eq, exists_const, if_true, if_false, Bool.not_true, Bool.not_false, Bool.false_eq_true, ↓reduceIte, List.cons.injEq, and_true, true_and, List.take_nil, List.take_zero, List.all_nil, List.length_map, Nat.le_refl, Nat.zero_le, Nat.reduceSub, Nat.reduceAdd, Nat.sub_self, ge_iff_le, Nat.lt_irrefl, reduceCtorEq, false_and, and_false, or_false, false_or, or_true, true_or, rd_dat, ↓dLenSet, ↓dDisp, ↓dDispL, ↓cStr2, strQ_int, strQ_str, strB_int, strB_str, ↓dPopI, ↓cLenR, ↓rAddO, ↓cSumL, ↓cSumLO, ↓dAppendR, ↓dPopR, ↓rIxR, ↓dLstR, ↓cDict, ↓dDin, ↓dDget, Ob.ins.injEq, Ob.lst.injEq, Ob.spr.injEq, Ob.dk.injEq, Ob.refs.injEq, ↓dFld, ↓sFldD, ↓dMeth, ↓dMake, ↓dCallW, ↓dLc, rowP_str, ↓wipeD, Tg.own, Tg.put, ↓setsD, exists_false, rd_ref, isN_int, isN_str, isN_bl, isN_non, isN_lst, isN_tup, isN_ref, flatP_int, flatP_str, flatP_bl, flatP_non, lenP_str, lenP_lst, lenP_tup, rowP_lst, rowP_tup, itP_lst, itP_tup, itP_str, ixB_str, ixB_lst, ixB_tup, slP_lst, slP_tup, slP_str, atP_lst, atP_tup, addP_int, addP_str, addP_lst, addP_tup, addB_int, addB_str, addB_lst, addB_tup, fin0, eqOk_ss, eqOk_ii, eqv_ss, eqv_ii, atI_0, atI_1, atI_2, atI_3, atI_4, atI_5, atI_6, atI_7, cutP_f1, cutP_f2, cutP_f3, cutP_f4, cutP_f5, cutP_t1, cutP_t2, cutP_t3, cutP_t4, cutP_t5, atI_last', and_assoc, List.drop_succ_cons, List.drop_zero, List.take_succ_cons, f_pow30, f_pow29, f_pow15, ↓dTried, toldD_dat, toldD_ref, ↓dIsK, ↓dXk, ↓rIxK, itmK_0, itmK_1, D.tupK.injEq, D.exk.injEq, ↓dgTupK, tupX_dat, tupX_K, fin1_s, fin2_sl] | ((with_reducible refine Exists.intro ?w (And.intro ?h ?_)); case h => exact rfl) | ((with_reducible refine And.intro ?h ?_); case h => exact ⟨_, rfl⟩) | ((with_reducible refine And.intro ?h ?_); case h => first | exact trivial | exact rfl | decide | omega | (exact eqOk_flat rfl rfl) | (refine Nat.le_trans (m := 1000000) ?_ (by decide); (try simp only [List.length_append, List.length_cons, List.length_nil, List.length_map]); omega) | (refine Nat.lt_of_le_of_lt (m := 1000000) ?_ (by decide); (try simp only [List.length_append, List.length_cons, List.length_nil, List.length_map]); omega))))))
namespace Rm
open PySem PySem.Spec PyProof.Rows L2
def strP (x : Str) : Prop := ∀ c ∈ tl x, c < 128
theorem strP_ok {x : Str} (h : strP x) : PyData.strOk x = true := by
  unfold PyData.strOk
  rw [← Array.all_toList, List.all_eq_true]
  intro c hc
  have := h c hc
  exact decide_eq_true (by omega)
theorem letters_plain : ∀ c ∈ letters.cps.toList, c < 128 := by decide +kernel
theorem nm_plain {x : Str} (h : nm x = true) : strP x := fun c hc => by
  unfold nm at h
  simp only [Bool.and_eq_true, List.all_eq_true, decide_eq_true_eq] at h
  exact letters_plain c (h.2 c hc)
theorem lay_allR : ∀ {ds : List PyData}, (∀ d ∈ ds, d.canLay0 = true) → PyData.canLayAll0 ds = true
  | [], _ => rfl
  | a :: ds, h => Bool.and_eq_true_iff.mpr ⟨h a (List.mem_cons_self ..), lay_allR fun e he => h e (List.mem_cons_of_mem _ he)⟩
def rowOf (p : PyData) (ds : List PyData) : Prop := p = .tuple ds ∨ p = .list ds
inductive OE : Nat → PyData → Prop
  | int {n : Nat} {i : Int} : i.natAbs ≤ 10 ^ 30 → OE (n + 1) (.int i)
  | str {n : Nat} {x : Str} : x.length ≤ 900 → (∀ c ∈ tl x, c < 128) → OE (n + 1) (.str x)
  | non {n : Nat} : OE (n + 1) .none
  | bl {n : Nat} (b : Bool) : OE (n + 1) (.bool b)
  | row {n : Nat} {p : PyData} {ds : List PyData} : rowOf p ds → ds.length ≤ 900 → (∀ d ∈ ds, OE n d) → OE (n + 1) p
def isRowP : PyData → Bool
  | .tuple _ => true
  | .list _ => true
  | _ => false
def hdN (t : Str) : Nat := if t = "close" then 2 else 1
def sIsRow : Fs := Pf (fun _ : PyData => True) (fun p => [p]) fun p => .bool (isRowP p)
def sHead : Fs := Pf (fun a : PyData × Str × List PyData => rowOf a.1 (.str a.2.1 :: a.2.2) ∧ (a.2.1 = "close" → a.2.2 ≠ []) ∧ a.2.2.length ≤ 6) (fun a => [a.1]) fun a => .tuple ((.str a.2.1 :: a.2.2).take (hdN a.2.1))
def sPartsV : Fs := Pf (fun a : PyData × Str × List PyData => rowOf a.1 (.str a.2.1 :: a.2.2) ∧ (a.2.1 = "close" → a.2.2 ≠ []) ∧ a.2.2.length ≤ 6) (fun a => [a.1]) fun a => .tuple ((.str a.2.1 :: a.2.2).drop (hdN a.2.1))
section
variable {P : Program} {w : World} {K : PySem.W.Frag} {mg : Str → Option Value} {base : Heap}
theorem cal_is_row (T : Tx K mg) : Cal P w K mg base 1 "is_row" (upF K (sIsRow)) := by
  refine T.is_row.calD f_is_row_sc (fun _ _ _ _ _ _ us hl => match us, hl with | [_], _ => rfl) (fun ds S Q h => by obtain ⟨_, a, rfl, _⟩ := h; rfl) _ (fun f cdv A outer s H E hr => (dss_one (ds_ret (de_isiT (ts := ["tuple", "list"]) (pe_callB call_isiT rfl T.n_isinstance (by decide +kernel) (pa_cons (de_var (pv 0)) (pa_cons (pe_tup (pa_cons (pe_bltn (v := .ty "tuple") (u := .type "tuple") rfl T.n_tuple (by decide +kernel) rfl) (pa_cons (pe_bltn (v := .ty "list") (u := .type "list") rfl T.n_list (by decide +kernel) rfl) pa_nil))) pa_nil))) (by simp))))) fun ds S Q h => ?_
  obtain ⟨rfl, p, rfl, hp, q⟩ := h
  cases p <;> (simp only [isRowP] at q; walk_at "rm_rd"; simpa [isT, isTn, tyN] using q)
theorem cal_head_of (T : Tx K mg) : Cal P w K mg base 1 "head_of" (upF K (sHead)) := by
  refine T.head_of.calD f_head_of_sc (fun _ _ _ _ _ _ us hl => match us, hl with | [_], _ => rfl) (fun ds S Q h => by obtain ⟨_, a, rfl, _⟩ := h; rfl) _ (fun f cdv A outer s H E hr => (dss_one (ds_ret (de_ifExp (dt_cmp (opr_eq hr.units) od_eq (de_item (de_var (pv 0)) de_int) de_str (nomark _)) (de_callTy call_tuple_of cd_tuple rfl T.n_tuple (by decide +kernel) (da_cons (de_slice (de_var (pv 0)) do_none (do_some de_int)) da_nil)) (de_callTy call_tuple_of cd_tuple rfl T.n_tuple (by decide +kernel) (da_cons (de_slice (de_var (pv 0)) do_none (do_some de_int)) da_nil)))))) fun ds S Q h => ?_
  obtain ⟨rfl, ⟨p, t, ds⟩, rfl, ⟨hp, ht, hl⟩, q⟩ := h
  dsimp only at hp ht hl q
  unfold hdN at q
  by_cases h1 : t = "close"
  · rw [if_pos h1] at q
    cases ds with
    | nil => exact absurd rfl (ht h1)
    | cons y ds =>
      rcases hp with rfl | rfl
      · walk_at "rm_stp"
        rw [if_pos (by simpa using h1)]
        exact q
      · walk_at "rm_stp"
        rw [if_pos (by simpa using h1)]
        exact q
  · rw [if_neg h1] at q
    rcases hp with rfl | rfl
    · walk_at "rm_stp"
      rw [if_neg (by simpa using h1)]
      exact q
    · walk_at "rm_stp"
      rw [if_neg (by simpa using h1)]
      exact q
theorem cal_parts_of (T : Tx K mg) : Cal P w K mg base 2 "parts_of" (upF K (sPartsV)) := by
  refine T.parts_of.calD f_parts_of_sc (fun _ _ _ _ _ _ us hl => match us, hl with | [_], _ => rfl) (fun ds S Q h => by obtain ⟨_, a, rfl, _⟩ := h; rfl) _ (fun f cdv A outer s H E hr => (dss_one (ds_ret (de_callTy call_tuple_of cd_tuple rfl T.n_tuple (by decide +kernel) (da_cons (de_slice (de_var (pv 0)) (do_some (de_callB call_len cd_len rfl T.n_len (by decide +kernel) (da_cons (de_call (pe_c (cal_head_of T) hr (by omega) rfl (da_cons (de_var (pv 0)) da_nil))) da_nil))) do_none) da_nil))))) fun ds S Q h => ?_
  obtain ⟨rfl, ⟨p, t, ds⟩, rfl, ⟨hp, ht, hl⟩, q⟩ := h
  dsimp only at hp ht hl q
  unfold hdN at q
  have hp' := hp
  by_cases h1 : t = "close"
  · rw [if_pos h1] at q
    cases ds with
    | nil => exact absurd rfl (ht h1)
    | cons y ds =>
      rcases hp with rfl | rfl
      · walk_at "rm_stp"
        refine callS_Pf.mpr ⟨(_, t, y :: ds), rfl, ⟨.inl rfl, ht, hl⟩, ?_⟩
        simp only [hdN, if_pos h1]
        walk_at "rm_stp"
        simp only [show (((2 : Nat) : Int)) = (2 : Int) from rfl, cutP_f2, List.drop_succ_cons, List.drop_zero]
        exact q
      · walk_at "rm_stp"
        refine callS_Pf.mpr ⟨(_, t, y :: ds), rfl, ⟨.inr rfl, ht, hl⟩, ?_⟩
        simp only [hdN, if_pos h1]
        walk_at "rm_stp"
        simp only [show (((2 : Nat) : Int)) = (2 : Int) from rfl, cutP_f2, List.drop_succ_cons, List.drop_zero]
        exact q
  · rw [if_neg h1] at q
    rcases hp with rfl | rfl
    · walk_at "rm_stp"
      refine callS_Pf.mpr ⟨(_, t, ds), rfl, ⟨.inl rfl, ht, hl⟩, ?_⟩
      simp only [hdN, if_neg h1]
      walk_at "rm_stp"
      simp only [show (((1 : Nat) : Int)) = (1 : Int) from rfl, cutP_f1, List.drop_succ_cons, List.drop_zero]
      exact q
    · walk_at "rm_stp"
      refine callS_Pf.mpr ⟨(_, t, ds), rfl, ⟨.inr rfl, ht, hl⟩, ?_⟩
      simp only [hdN, if_neg h1]
      walk_at "rm_stp"
      simp only [show (((1 : Nat) : Int)) = (1 : Int) from rfl, cutP_f1, List.drop_succ_cons, List.drop_zero]
      exact q
end
def isIntP : PyData → Bool
  | .int _ => true
  | _ => false
def smlP : PyData → Bool
  | .int i => decide (i.natAbs < 10 ^ 30)
  | _ => false
def sIsIntG : Fs := Pf (fun p : PyData => ∃ n, OE n p) (fun p => [p]) fun p => .bool (isIntP p)
def sIsSmallG : Fs := Pf (fun p : PyData => ∃ n, OE n p) (fun p => [p]) fun p => .bool (smlP p)
def sIsVG (n : Nat) : Fs := Pf (fun p : PyData => OE n p) (fun p => [p]) fun p => .bool (isVb n p)
theorem OE.lay {n : Nat} {p : PyData} (h : OE n p) : p.canLay0 = true := by
  induction h with
  | int _ => rfl
  | str h1 h2 => exact strP_ok h2
  | non => rfl
  | bl b => rfl
  | row hr hl _ ih =>
    rcases hr with rfl | rfl
    · exact lay_allR ih
    · exact lay_allR ih
theorem oe_depths {m : Nat} : ∀ {ds : List PyData}, (∀ d ∈ ds, d.depth ≤ m) → PyData.depthAll ds ≤ m
  | [], _ => Nat.zero_le _
  | d :: r, h => by
    unfold PyData.depthAll
    exact Nat.max_le.mpr ⟨h d (List.mem_cons_self ..), oe_depths fun e he => h e (List.mem_cons_of_mem _ he)⟩
theorem OE.dep {n : Nat} {p : PyData} (h : OE n p) : p.depth ≤ n := by
  induction h with
  | int _ => simp [PyData.depth]
  | str _ _ => simp [PyData.depth]
  | non => simp [PyData.depth]
  | bl b => simp [PyData.depth]
  | row hr hl _ ih =>
    have := oe_depths ih
    rcases hr with rfl | rfl <;> simp only [PyData.depth] <;> omega
theorem OE.sh {n : Nat} {p : PyData} (h : OE n p) (hn : n ≤ 60) : SeqAt.shaped p = true := by
  unfold SeqAt.shaped
  rw [Bool.and_eq_true]
  exact ⟨h.lay, decide_eq_true (Nat.le_trans h.dep (by omega))⟩
theorem sh_str {x : Str} (h1 : x.length ≤ 900) (h2 : ∀ c ∈ tl x, c < 128) : SeqAt.shaped (.str x) = true := OE.sh (OE.str (n := 0) h1 h2) (by decide)
theorem sh_close : SeqAt.shaped (.str "close") = true := sh_str (by decide +kernel) (by decide +kernel)
def isCl : PyData → Bool
  | .str t => decide (t = "close")
  | _ => false
theorem eqv_close (h : PyData) : PyData.eqv h (.str "close") = isCl h := by
  cases h with
  | str t => simp only [PyData.eqv, isCl]; by_cases z : t = "close" <;> simp [z]
  | _ => simp [PyData.eqv, isCl]
theorem isVb_row {n : Nat} {p : PyData} {ds : List PyData} (hr : rowOf p ds) : isVb (n + 1) p = isVr (isVb n) ds := by rcases hr with rfl | rfl <;> rfl
def vbD (n : Nat) : D → PyData
  | .dat p => .bool (isVb n p)
  | _ => .none
section
variable {P : Program} {w : World} {K : PySem.W.Frag} {mg : Str → Option Value} {base : Heap}
theorem cal_is_integer (T : Tx K mg) : Cal P w K mg base 1 "is_integer" (upF K (sIsIntG)) := by
  refine T.is_integer.calD f_is_integer_sc (fun _ _ _ _ _ _ us hl => match us, hl with | [_], _ => rfl) (fun ds S Q h => by obtain ⟨_, a, rfl, _⟩ := h; rfl) _ (fun f cdv A outer s H E hr => (dss_one (ds_ret (de_and (de_isi (n := "int") (pe_callB call_isi rfl T.n_isinstance (by decide +kernel) (pa_cons (de_var (pv 0)) (pa_cons (pe_bltn (v := .ty "int") (u := .type "int") rfl T.n_int (by decide +kernel) rfl) pa_nil))) (by simp)) (de_one (de_not (de_isi (n := "bool") (pe_callB call_isi rfl T.n_isinstance (by decide +kernel) (pa_cons (de_var (pv 0)) (pa_cons (pe_bltn (v := .ty "bool") (u := .type "bool") rfl T.n_bool (by decide +kernel) rfl) pa_nil))) (by simp)))))))) fun ds S Q h => ?_
  obtain ⟨rfl, p, rfl, hp, q⟩ := h
  cases p <;> (simp only [isIntP] at q; walk_at "rm_rd"; simpa [isT, isTn, tyN] using q)
theorem cal_is_small (T : Tx K mg) : Cal P w K mg base 2 "is_small" (upF K (sIsSmallG)) := by
  refine T.is_small.calD f_is_small_sc (fun _ _ _ _ _ _ us hl => match us, hl with | [_], _ => rfl) (fun ds S Q h => by obtain ⟨_, a, rfl, _⟩ := h; rfl) _ (fun f cdv A outer s H E hr => (dss_one (ds_ret (de_and (de_call (pe_c (cal_is_integer T) hr (by omega) rfl (da_cons (de_var (pv 0)) da_nil))) (de_one (de_cmp op_lt od_lt (de_callB call_abs cd_abs rfl T.n_abs (by decide +kernel) (da_cons (de_var (pv 0)) da_nil)) (de_pow de_int de_int) (nomark _))))))) fun ds S Q h => ?_
  obtain ⟨rfl, p, rfl, hp, q⟩ := h
  cases p with
  | int i =>
    walk_at "rm_x0d01ad46"
    rw [if_pos (by rfl)]
    walk_at "rm_stp"
    rw [show decide ((if i < 0 then -i else i) < 1000000000000000000000000000000) = decide (i.natAbs < 10 ^ 30) from decide_eq_decide.mpr (by split <;> omega)]
    exact q
  | _ =>
    walk_at "rm_x0d01ad46"
    rw [if_neg (by simp [isIntP])]
    exact q
theorem isVG_lc {n : Nat} {ds : List PyData} {v0 v1 : Option D} {Q : DQ} (hl : ds.length ≤ 1000) (hs : ∀ d ∈ ds, OE n d) (q : Q (.dat (.bool (ds.all (isVb n)))) []) :
    ds.length ≤ 1000000 ∧ lcL (.one 1) dYes (dCall (sIsVG n) (dCons (dVar 1) dNil)) [v0, v1] (ds.map .dat) [] fun ys S2 => ∃ x : List Bool, ys = x.map PyData.bool ∧ Q (.dat (.bool (x.all id))) [] := by
  refine ⟨by omega, lcL_map (f := vbD n) (fun x hx R hR => ?_) ⟨ds.map (isVb n), by rw [List.map_map, List.map_map]; rfl, ?_⟩⟩
  · obtain ⟨d, hd, rfl⟩ := List.mem_map.mp hx
    walk_at "rm_stp"
    exact callS_Pf.mpr ⟨d, rfl, hs d hd, hR⟩
  · rw [List.all_map]
    exact q
theorem OE.len8 {n : Nat} {p : PyData} (h : OE n p) : ∀ z, p = .str z → z.length ≤ 1000 := fun z e => by
  subst e
  cases h with
  | str h1 _ => exact Nat.le_trans h1 (by decide)
  | row hr _ _ => rcases hr with e | e <;> cases e
theorem isCl_eq {p : PyData} (h : isCl p = true) : p = .str "close" := by
  cases p with
  | str t => rw [of_decide_eq_true h]
  | _ => cases h
theorem isVG_go {n : Nat} {ds : List PyData} {v0 : Option D} {Q : DQ} (hn : n ≤ 59) (hl : ds.length ≤ 900) (hs : ∀ d ∈ ds, OE n d) (hq : Q (.dat (.bool (isVr (isVb n) ds))) []) :
    if (((ds.length : Nat) : Int) == 0) = true then Q (.dat (.bool false)) []
    else if decide (7 < ((ds.length : Nat) : Int)) = true then Q (.dat (.bool false)) []
    else ∃ z, ds[0]? = some z ∧ eqOk z (.str "close") ∧
      if z.eqv (.str "close") = true then
        if decide (1 < ((ds.length : Nat) : Int)) = true then ∃ z, ds[1]? = some z ∧ callS sIsName [.dat z] [] fun x S1 => ∃ c, x = .dat (.bool c) ∧
          if c = true then (List.drop 2 ds).length ≤ 1000000 ∧ lcL (.one 1) dYes (dCall (sIsVG n) (dCons (dVar 1) dNil)) [v0, none] ((List.drop 2 ds).map .dat) S1 fun ys S2 => ∃ x : List Bool, ys = x.map PyData.bool ∧ Q (.dat (.bool (x.all id))) []
          else Q (.dat (.bool false)) []
        else Q (.dat (.bool false)) []
      else ∃ z, ds[0]? = some z ∧ callS sIsName [.dat z] [] fun x S1 => ∃ c, x = .dat (.bool c) ∧
        if c = true then (List.drop 1 ds).length ≤ 1000000 ∧ lcL (.one 1) dYes (dCall (sIsVG n) (dCons (dVar 1) dNil)) [v0, none] ((List.drop 1 ds).map .dat) S1 fun ys S2 => ∃ x : List Bool, ys = x.map PyData.bool ∧ Q (.dat (.bool (x.all id))) []
        else Q (.dat (.bool false)) [] := by
  cases ds with
  | nil => rw [if_pos (by simp)]; exact hq
  | cons h r =>
    rw [if_neg (by simp; omega)]
    simp only [List.length_cons] at hl ⊢
    by_cases h7 : 6 < r.length
    · rw [if_pos (by simp; omega)]
      rwa [show isVr (isVb n) (h :: r) = false by
        cases h with
        | str t => simp only [isVr]; rw [decide_eq_false (by omega)]; rfl
        | _ => rfl] at hq
    rw [if_neg (by simp; omega)]
    have oh := hs h (List.mem_cons_self ..)
    refine ⟨h, rfl, .inr ⟨oh.sh (by omega), sh_close⟩, ?_⟩
    rw [eqv_close]
    by_cases hc : isCl h = true
    · rw [if_pos hc]
      obtain rfl := isCl_eq hc
      cases r with
      | nil => rw [if_neg (by simp)]; exact hq
      | cons g ps =>
        rw [if_pos (by simp; omega)]
        have og := hs g (by simp)
        simp only [isVr, if_true] at hq
        rw [decide_eq_true (by omega)] at hq
        refine ⟨g, rfl, callS_Pf.mpr ⟨g, rfl, og.len8, _, rfl, ?_⟩⟩
        by_cases hg : isNm g = true
        · rw [if_pos hg]
          rw [hg] at hq
          simp only [List.length_cons] at hl
          exact isVG_lc (by simp; omega) (fun d hd => hs d (List.mem_cons_of_mem _ (List.mem_cons_of_mem _ hd))) hq
        · rw [if_neg hg]
          rw [Bool.not_eq_true] at hg
          rw [hg] at hq
          exact hq
    · rw [if_neg hc]
      refine ⟨h, rfl, callS_Pf.mpr ⟨h, rfl, oh.len8, _, rfl, ?_⟩⟩
      by_cases hg : isNm h = true
      · rw [if_pos hg]
        obtain ⟨t, rfl, ht⟩ := isNm_ex hg
        have hne : t ≠ "close" := fun z => hc (decide_eq_true z)
        simp only [isVr] at hq
        rw [decide_eq_true (by omega), if_neg hne, hg] at hq
        exact isVG_lc (by simp; omega) (fun d hd => hs d (List.mem_cons_of_mem _ hd)) hq
      · rw [if_neg hg]
        rw [Bool.not_eq_true] at hg
        rwa [show isVr (isVb n) (h :: r) = false by
          cases h with
          | str t =>
            have hne : t ≠ "close" := fun z => hc (decide_eq_true z)
            simp only [isVr]
            rw [if_neg hne, hg]
            simp
          | _ => rfl] at hq
theorem isVG_body (T : Tx K mg) (n : Nat) (hn : n ≤ 59) (ih : Cal P w K mg base (n + 3) "is_value" (upF K (sIsVG n))) : Cal P w K mg base (n + 4) "is_value" (upF K (sIsVG (n + 1))) := by
  refine T.is_value.calD f_is_value_sc (fun _ _ _ _ _ _ us hl => match us, hl with | [_], _ => rfl) (fun ds S Q h => by obtain ⟨_, a, rfl, _⟩ := h; rfl) _ (fun f cdv A outer s H E hr => (dss_cons (ds_if (dt_not (dt_val (de_call (pe_c (cal_is_row T) hr (by omega) rfl (da_cons (de_var (pv 0)) da_nil))))) (dss_one (ds_ret (de_call (pe_c (cal_is_small T) hr (by omega) rfl (da_cons (de_var (pv 0)) da_nil))))) dss_nil)
      (dss_cons (ds_if (PW.pt (dw_or (dt_cmp (opr_eq hr.units) od_eq (de_callB call_len cd_len rfl T.n_len (by decide +kernel) (da_cons (de_var (pv 0)) da_nil)) de_int (nomark _)) (dw_or1 (dt_cmp op_gt od_gt (de_callB call_len cd_len rfl T.n_len (by decide +kernel) (da_cons (de_var (pv 0)) da_nil)) (de_gint T.gMOST_WORDS) (nomark _))))) (dss_one (ds_ret de_bl)) dss_nil)
      (dss_cons (ds_if (dt_cmp (opr_eq hr.units) od_eq (de_item (de_var (pv 0)) de_int) de_str (nomark _)) (dss_one (ds_ret (de_and (de_cmp op_gt od_gt (de_callB call_len cd_len rfl T.n_len (by decide +kernel) (da_cons (de_var (pv 0)) da_nil)) de_int (nomark _)) (de_and (de_call (pe_c (cal_is_name T) hr (by omega) rfl (da_cons (de_item (de_var (pv 0)) de_int) da_nil))) (de_one (de_callB (cr_all rfl) cd_all rfl T.n_all (by decide +kernel) (da_cons (de_lc (g := .one 1) (pe_lc (own := [("part", 1)]) rfl f_is_value_sc.nd (di_row (de_slice (de_var (pv 0)) (do_some de_int) do_none)) (blkOk_by (own := [("part", 1)]) (N := f_is_value_N) (sc := defScope f_is_value_s) (by decide +kernel)) (fun _ _ _ _ _ => (pg_name (i := 1) f_is_value_sc.nd rfl (Or.inl rfl))) (fun _ _ _ _ _ => dts_nil) (fun _ _ _ _ _ => (de_call (pe_c ih hr (by omega) rfl (da_cons (de_var (pv 1)) da_nil)))))) da_nil))))))) dss_nil)
      (dss_one (ds_ret (de_and (de_call (pe_c (cal_is_name T) hr (by omega) rfl (da_cons (de_item (de_var (pv 0)) de_int) da_nil))) (de_one (de_callB (cr_all rfl) cd_all rfl T.n_all (by decide +kernel) (da_cons (de_lc (g := .one 1) (pe_lc (own := [("part", 1)]) rfl f_is_value_sc.nd (di_row (de_slice (de_var (pv 0)) (do_some de_int) do_none)) (blkOk_by (own := [("part", 1)]) (N := f_is_value_N) (sc := defScope f_is_value_s) (by decide +kernel)) (fun _ _ _ _ _ => (pg_name (i := 1) f_is_value_sc.nd rfl (Or.inl rfl))) (fun _ _ _ _ _ => dts_nil) (fun _ _ _ _ _ => (de_call (pe_c ih hr (by omega) rfl (da_cons (de_var (pv 1)) da_nil)))))) da_nil)))))))))) fun ds S Q h => ?_
  obtain ⟨rfl, p, rfl, hp, q⟩ := h
  cases hp with
  | row hr' hl hs =>
    rename_i ds
    have hq : Q (.dat (.bool (isVb (n + 1) p))) [] := q
    rw [isVb_row hr'] at hq
    rcases hr' with rfl | rfl
    · walk_at "rm_stp"
      refine callS_Pf.mpr ⟨_, rfl, trivial, _, rfl, ?_⟩
      rw [if_neg (by simp [isRowP])]
      exact isVG_go (by omega) hl hs hq
    · walk_at "rm_stp"
      refine callS_Pf.mpr ⟨_, rfl, trivial, _, rfl, ?_⟩
      rw [if_neg (by simp [isRowP])]
      exact isVG_go (by omega) hl hs hq
  | _ =>
    walk_at "rm_stp"
    refine callS_Pf.mpr ⟨_, rfl, trivial, _, rfl, ?_⟩
    rw [if_pos (by rfl)]
    refine callS_Pf.mpr ⟨_, rfl, ⟨n + 1, by first | exact .int ‹_› | exact .str ‹_› ‹_› | exact .non | exact .bl _⟩, ?_⟩
    simp only [fin0]
    exact q
theorem cal_is_value (T : Tx K mg) : ∀ n, n ≤ 60 → Cal P w K mg base (n + 3) "is_value" (upF K (sIsVG n))
  | 0, _ => T.is_value.zeroD (ps := f_is_value_P) (fun _ _ _ _ _ _ us hl => match us, hl with | [_], _ => rfl) fun ds S Q h => by
    obtain ⟨rfl, d, rfl, hd, q⟩ := h
    cases hd
  | n + 1, hn => isVG_body T n (by omega) (cal_is_value T n (by omega))
end
end Rm

set_option Elab.async false
set_option linter.all false
set_option maxRecDepth 100000
set_option maxHeartbeats 4000000
namespace Rm
open PySem PySem.Spec PyProof.Rows L2
theorem wi_int_text {x : Str} (h : wi x = true) : intText? x = some (intOf x) ∧ x.length ≤ 31 := by
  unfold wi at h
  simp only [Bool.and_eq_true, decide_eq_true_eq, List.all_eq_true] at h
  obtain ⟨⟨⟨h1, h2⟩, h3⟩, _⟩ := h
  have hd : ∀ c ∈ digs.cps.toList, 48 ≤ c ∧ c ≤ 57 := by decide +kernel
  have had : NumText.AllDigits (tl (dgt x)) := fun c hc => hd c (h3 c hc)
  rw [int_len] at h1 h2
  have hne : tl (dgt x) ≠ [] := fun e => by rw [e] at h1; simp at h1
  rw [tl_dgt] at had hne h2
  unfold intOf
  by_cases h : (tl x).take 1 = [45]
  · rw [if_pos h] at had hne h2
    obtain ⟨c, r, e⟩ : ∃ c r, tl x = c :: r := List.exists_cons_of_ne_nil fun e => by rw [e] at h; simp at h
    rw [e] at h had hne h2
    simp at h
    subst h
    have hl : x.length ≤ 31 := by
      rw [int_len, e]
      simp at h2 ⊢
      omega
    rw [PySem.intText_neg (cs := r) e had hne (by omega)]
    exact ⟨rfl, hl⟩
  · rw [if_neg h] at had hne h2
    have hl : x.length ≤ 31 := by rw [int_len]; omega
    rw [PySem.intText_digits had hne (by omega)]
    exact ⟨rfl, hl⟩
section
variable {P : Program} {w : World} {K : PySem.W.Frag} {mg : Str → Option Value} {base : Heap}
abbrev strsL (ws : List Str) : PyData := .list (ws.map PyData.str)
def sWi : Fs := Pf (fun x : Str => x.length ≤ 1000) (fun x => [.str x]) fun x => .bool (wi x)
theorem cutS_len {x : Str} {l h : Option Int} : (cutS x l h).length ≤ x.length := by
  show (cutS x l h).cps.size ≤ x.cps.size
  simp only [cutS, List.size_toArray, List.length_take, List.length_drop, Array.length_toList]
  omega
theorem wi_rest {x y : Str} {Q : DQ} (hx : x.length ≤ 1000) (e : y = dgt x) (q : Q (.dat (.bool (wi x))) []) :
    y.length ≤ sizeLine ∧ if decide (1 ≤ (y.length : Int)) = true then
      if (!decide ((y.length : Int) ≤ 30)) = true then Q (.dat (.bool false)) []
      else (sgnD y).length ≤ 1000000 ∧ lcL (.one 2) dYes (dOp (rInB false) (dVar 2) (dC (.dat (.str digs)))) [some (.dat (.str x)), some (.dat (.str y)), none] (sgnD y) [] fun ps S1 =>
        ∃ x_1 : List Bool, ps = x_1.map PyData.bool ∧ if (!x_1.all id) = true then Q (.dat (.bool false)) []
          else if (x == ("0" : Str)) = true then Q (.dat (.bool true)) []
            else y.length ≤ sizeLine ∧ ∃ z, atP (.str y) 0 = some z ∧ eqOk z (.str ("0" : Str)) ∧ Q (.dat (.bool !z.eqv (.str ("0" : Str)))) []
      else Q (.dat (.bool false)) [] := by
  have hy : y.length ≤ 1000 := by
    rw [e]; unfold dgt; split
    · exact Nat.le_trans cutS_len hx
    · exact hx
  have e1 : decide ((1 : Int) ≤ ↑y.length) = decide (1 ≤ y.length) := by congr 1; simp; omega
  have e2 : decide ((y.length : Int) ≤ 30) = decide (y.length ≤ 30) := by congr 1; simp; omega
  rw [e1, e2]
  unfold wi at q
  rw [← e] at q
  refine ⟨small hy, ?_⟩
  by_cases h1 : 1 ≤ y.length
  · rw [decide_eq_true h1] at q ⊢
    by_cases h2 : y.length ≤ 30
    · rw [decide_eq_true h2] at q ⊢
      simp only [Bool.not_true, Bool.false_eq_true, if_false, if_true, Bool.true_and] at q ⊢
      refine ⟨by rw [sgnD_len]; omega, ?_⟩
      unfold sgnD
      refine lcL_sgn (f := fun c => .bool (decide (c ∈ digs.cps.toList))) (fun c hc R hR => ?_) ?_
      · walk_at "rm_rd"
        simpa using hR
      · refine ⟨y.cps.toList.map fun c => decide (c ∈ digs.cps.toList), by simp, ?_⟩
        rw [List.all_map]
        show if (!(tl y).all fun c => decide (c ∈ digs.cps.toList)) = true then _ else _
        cases h3 : (tl y).all fun c => decide (c ∈ digs.cps.toList) with
        | false => rw [h3] at q; simpa using q
        | true =>
          rw [h3] at q
          simp only [Bool.not_true, Bool.false_eq_true, if_false, Bool.true_and] at q ⊢
          cases h4 : x == ("0" : Str) with
          | true => rw [h4] at q; simpa using q
          | false =>
            rw [h4] at q
            simp only [Bool.false_eq_true, if_false, Bool.false_or] at q ⊢
            obtain ⟨c, r, ec⟩ : ∃ c r, tl y = c :: r := List.exists_cons_of_ne_nil fun e => by rw [int_len, e] at h1; simp at h1
            refine ⟨small hy, .str ⟨#[c]⟩, ?_, .inl ⟨rfl, rfl⟩, ?_⟩
            · show (atI y.cps.toList 0).map _ = _
              rw [show y.cps.toList = c :: r from ec, atI_0]
              rfl
            · rw [ec] at q
              rw [eqv_ss]
              have : ((⟨#[c]⟩ : Str) == ("0" : Str)) = ((c :: r).head? == some 48) := by
                rw [beq_tl]
                have : tl ("0" : Str) = [48] := by decide +kernel
                rw [this]
                show decide ([c] = [48]) = _
                by_cases h : c = 48
                · subst h; simp
                · rw [decide_eq_false (by simpa using h)]
                  simp [h]
              rw [this]
              exact q
    · rw [decide_eq_false h2] at q ⊢
      simpa using q
  · rw [decide_eq_false h1] at q ⊢
    simpa using q
theorem cal_is_written_integer (T : Tx K mg) : Cal P w K mg base 1 "is_written_integer" (upF K (sWi)) := by
  refine T.is_written_integer.calD f_is_written_integer_sc (fun _ _ _ _ _ _ us hl => match us, hl with | [_], _ => rfl) (fun ds S Q h => by obtain ⟨_, a, rfl, _⟩ := h; rfl) _ (fun f cdv A outer s H E hr => (dss_cons (ds_set (ps_set (i := 1) f_is_written_integer_sc.nd rfl (Or.inl rfl) (de_ifExp (dt_cmp (opr_eq hr.units) od_eq (de_slice (de_var (pv 0)) do_none (do_some de_int)) de_str (nomark _)) (de_slice (de_var (pv 0)) (do_some de_int) do_none) (de_var (pv 0)))))
      (dss_cons (ds_if (PW.pt (dw_or (dt_not (dt_chain op_le od_le op_le od_le de_int (de_callB call_len cd_len rfl T.n_len (by decide +kernel) (da_cons (de_var (pv 1)) da_nil)) (de_gint T.gMOST_DIGITS))) (dw_or1 (dt_not (dt_val (de_callB (cr_all rfl) cd_all rfl T.n_all (by decide +kernel) (da_cons (de_lc (g := .one 2) (pe_lc (own := [("digit", 2)]) rfl f_is_written_integer_sc.nd (di_row (de_var (pv 1))) (blkOk_by (own := [("digit", 2)]) (N := f_is_written_integer_N) (sc := defScope f_is_written_integer_s) (by decide +kernel)) (fun _ _ _ _ _ => (pg_name (i := 2) f_is_written_integer_sc.nd rfl (Or.inl rfl))) (fun _ _ _ _ _ => dts_nil) (fun _ _ _ _ _ => (de_cmp opr_in od_in1 (de_var (pv 2)) (de_gstr T.gDIGITS) (by rfl))))) da_nil))))))) (dss_one (ds_ret de_bl)) dss_nil)
      (dss_one (ds_ret (de_or (de_cmp (opr_eq hr.units) od_eq (de_var (pv 0)) de_str (nomark _)) (de_one (de_cmp (opr_ne hr.units) od_ne (de_item (de_var (pv 1)) de_int) de_str (nomark _))))))))) fun ds S Q h => ?_
  obtain ⟨rfl, x, rfl, hx, q⟩ := h
  walk_at "rm_rd"
  refine ⟨small hx, ?_⟩
  by_cases h : (cutS x none (some 1) == ("-" : Str)) = true
  · rw [if_pos h]
    exact ⟨small hx, wi_rest hx (by unfold dgt; rw [if_pos h]) q⟩
  · rw [if_neg h]
    exact wi_rest hx (by unfold dgt; rw [if_neg h]) q
end
end Rm

set_option Elab.async false
set_option linter.all false
set_option maxRecDepth 100000
set_option maxHeartbeats 4000000
namespace Rm
open PySem PySem.Spec PyProof.Rows L2
theorem OE.mono {n : Nat} {p : PyData} (h : OE n p) : ∀ {m : Nat}, n ≤ m → OE m p := by
  induction h with
  | int h => exact fun {m} hm => by obtain ⟨k, rfl⟩ : ∃ k, m = k + 1 := ⟨m - 1, by omega⟩; exact .int h
  | str h1 h2 => exact fun {m} hm => by obtain ⟨k, rfl⟩ : ∃ k, m = k + 1 := ⟨m - 1, by omega⟩; exact .str h1 h2
  | non => exact fun {m} hm => by obtain ⟨k, rfl⟩ : ∃ k, m = k + 1 := ⟨m - 1, by omega⟩; exact .non
  | bl b => exact fun {m} hm => by obtain ⟨k, rfl⟩ : ∃ k, m = k + 1 := ⟨m - 1, by omega⟩; exact .bl b
  | row hr hl _ ih => exact fun {m} hm => by obtain ⟨k, rfl⟩ : ∃ k, m = k + 1 := ⟨m - 1, by omega⟩; exact .row hr hl fun d hd => ih d hd (by omega)
mutual
def wgt : PyData → Nat
  | .str x => x.length + 1
  | .tuple ds => 3 + wgtA ds
  | .list ds => 3 + wgtA ds
  | .int _ => 32
  | _ => 1
def wgtA : List PyData → Nat
  | [] => 0
  | d :: r => wgt d + wgtA r
end
theorem wgtA_app : ∀ (a b : List PyData), wgtA (a ++ b) = wgtA a + wgtA b
  | [], b => by simp [wgtA]
  | x :: a, b => by rw [List.cons_append, wgtA, wgtA, wgtA_app a b]; omega
theorem wgtA_mem {d : PyData} : ∀ {ds : List PyData}, d ∈ ds → wgt d ≤ wgtA ds
  | x :: r, h => by
    rw [wgtA]
    rcases List.mem_cons.mp h with rfl | h
    · omega
    · have := wgtA_mem h; omega
theorem joinL_len : ∀ ps : List (List Nat), (TL.joinL [32] ps).length ≤ (ps.map fun p => p.length + 1).sum
  | [] => by simp [TL.joinL]
  | [p] => by simp [TL.joinL]
  | p :: q :: r => by
    have := joinL_len (q :: r)
    show (p ++ ([32] ++ TL.joinL [32] (q :: r))).length ≤ _
    rw [List.length_append, List.length_append, List.map_cons, List.sum_cons]
    simp only [List.length_singleton]
    omega
theorem join_len (ws : List Str) : (Txt.join " " ws).length ≤ (ws.map fun w => w.length + 1).sum := by
  rw [int_len, tl_join]
  have := joinL_len (ws.map tl)
  rw [List.map_map] at this
  exact this
theorem isVb_nostr {n : Nat} {d : PyData} (h : isVb n d = true) (f : PyData → Str) : wordOf f d = f d := by
  cases d with
  | str x => cases n <;> cases h
  | _ => rfl
theorem words_sum {n : Nat} (ih : ∀ d, isVb n d = true → (txt n d).length + 1 ≤ wgt d) : ∀ {ps : List PyData}, (∀ d ∈ ps, isVb n d = true) → ((ps.map (wordOf (txt n))).map fun w => w.length + 1).sum ≤ wgtA ps
  | [], _ => by simp
  | p :: r, h => by
    have h1 := words_sum ih (ps := r) fun d hd => h d (List.mem_cons_of_mem _ hd)
    have h2 := ih p (h p (by simp))
    rw [List.map_cons, List.map_cons, List.sum_cons, wgtA, isVb_nostr (h p (by simp))]
    omega
theorem row_len {n : Nat} (ih : ∀ d, isVb n d = true → (txt n d).length + 1 ≤ wgt d) {ds : List PyData} (h : isVr (isVb n) ds = true) : ((ds.map (wordOf (txt n))).map fun w => w.length + 1).sum ≤ wgtA ds := by
  rcases isVr_cases h with ⟨t, r, rfl, _, _, _, hv⟩ | ⟨g, ps, rfl, _, _, hv⟩
  · have := words_sum ih hv
    rw [List.map_cons, List.map_cons, List.sum_cons, wgtA]
    show t.length + 1 + _ ≤ t.length + 1 + _
    omega
  · have := words_sum ih hv
    rw [List.map_cons, List.map_cons, List.sum_cons, wgtA, List.map_cons, List.map_cons, List.sum_cons, wgtA]
    show ("close" : Str).length + 1 + (g.length + 1 + _) ≤ ("close" : Str).length + 1 + (g.length + 1 + _)
    omega
theorem rowT_len {n : Nat} (ih : ∀ d, isVb n d = true → (txt n d).length + 1 ≤ wgt d) {ds : List PyData} (h : isVr (isVb n) ds = true) : (rowT (txt n) ds).length + 1 ≤ 3 + wgtA ds := by
  have h1 := row_len ih h
  have h2 := join_len (ds.map (wordOf (txt n)))
  unfold rowT
  rw [int_len, tl_app, tl_app, List.length_append, List.length_append, ← int_len (Txt.join _ _)]
  rw [show (tl ("(" : Str)).length = 1 by decide +kernel, show (tl (")" : Str)).length = 1 by decide +kernel]
  omega
theorem txt_len : ∀ (n : Nat) (d : PyData), isVb n d = true → (txt n d).length + 1 ≤ wgt d
  | 0, d, h => by cases d <;> cases h
  | n + 1, .int i, h => by
    have z : i.natAbs < 10 ^ 30 := of_decide_eq_true h
    have := sg_len z
    show (Str.ofString (toString i)).length + 1 ≤ wgt (.int i)
    rw [int_len, tl_int, wgt]
    omega
  | n + 1, .tuple ds, h => by
    rw [wgt]
    exact rowT_len (txt_len n) h
  | n + 1, .list ds, h => by
    rw [wgt]
    exact rowT_len (txt_len n) h
  | n + 1, .none, h => by cases h
  | n + 1, .bool _, h => by cases h
  | n + 1, .str _, h => by cases h
  | n + 1, .dict _, h => by cases h
theorem item_oe {w : Str} (h1 : w.length ≤ 900) (h2 : strP w) : OE 1 (item w) := by
  unfold item
  split
  · rename_i h
    exact .int (Nat.le_of_lt (wi_back h).2)
  · exact .str h1 h2
theorem item_wgt (w : Str) : wgt (item w) ≤ w.length + 32 := by
  unfold item
  split
  · rw [wgt]; omega
  · rw [wgt]; omega
structure GI (C m W : Nat) (st : List (List PyData)) : Prop where
  k : ∃ k, 1 ≤ k ∧ k + st.length ≤ C ∧ ∀ g ∈ st, ∀ d ∈ g, OE k d
  ic : (st.map List.length).sum ≤ m
  w : (st.map fun g => 1 + wgtA g).sum ≤ W
theorem GI.step {st st' : List (List PyData)} {C m W : Nat} {w : Str} (h : GI C m W st) (hs : gst st w = some st') (hw : w.length ≤ 900) (hp : strP w) (hm : m ≤ 900) : GI (C + if w = "(" then 1 else 0) (m + 1) (W + (w.length + 33)) st' := by
  obtain ⟨⟨k, k1, k2, k3⟩, ic, hW⟩ := h
  unfold gst at hs
  split at hs
  · rename_i e
    cases hs
    rw [if_pos e]
    refine ⟨⟨k, k1, by rw [List.length_cons]; omega, fun g hg => ?_⟩, by rw [List.map_cons, List.sum_cons]; simp only [List.length_nil]; omega, by rw [List.map_cons, List.sum_cons, wgtA]; omega⟩
    rcases List.mem_cons.mp hg with rfl | hg
    · intro d hd; cases hd
    · exact k3 g hg
  rename_i e0
  rw [if_neg e0]
  split at hs
  · match st, hs with
    | g :: h :: r, hs =>
      cases hs
      simp only [List.map_cons, List.sum_cons, List.length_cons] at ic hW k2
      refine ⟨⟨k + 1, by omega, by rw [List.length_cons]; omega, fun g' hg => ?_⟩, ?_, ?_⟩
      · rcases List.mem_cons.mp hg with rfl | hg
        · intro d hd
          rcases List.mem_append.mp hd with hd | hd
          · exact (k3 h (by simp) d hd).mono (by omega)
          · rw [List.mem_singleton.mp hd]
            exact .row (.inl rfl) (by omega) (k3 g (by simp))
        · exact fun d hd => (k3 g' (by simp [hg]) d hd).mono (by omega)
      · rw [List.map_cons, List.sum_cons, List.length_append, List.length_singleton]
        omega
      · rw [List.map_cons, List.sum_cons, wgtA_app, wgtA, wgtA, wgt]
        omega
  · match st, hs with
    | g :: r, hs =>
      cases hs
      simp only [List.map_cons, List.sum_cons, List.length_cons] at ic hW k2
      have hi := item_wgt w
      refine ⟨⟨k, k1, by rw [List.length_cons]; omega, fun g' hg => ?_⟩, ?_, ?_⟩
      · rcases List.mem_cons.mp hg with rfl | hg
        · intro d hd
          rcases List.mem_append.mp hd with hd | hd
          · exact k3 g (by simp) d hd
          · rw [List.mem_singleton.mp hd]
            exact (item_oe hw hp).mono k1
        · exact k3 g' (by simp [hg])
      · rw [List.map_cons, List.sum_cons, List.length_append, List.length_singleton]
        omega
      · rw [List.map_cons, List.sum_cons, wgtA_app, wgtA, wgtA]
        omega
def opn (ws : List Str) : Nat := (ws.map fun (w : Str) => if w = "(" then 1 else 0).sum
def wsz (ws : List Str) : Nat := (ws.map fun w => w.length + 33).sum
theorem GI.fold : ∀ {ws : List Str} {st st' : List (List PyData)} {C m W : Nat}, GI C m W st → gfold ws st = some st' → (∀ w ∈ ws, w.length ≤ 900 ∧ strP w) → m + ws.length ≤ 900 → GI (C + opn ws) (m + ws.length) (W + wsz ws) st'
  | [], st, st', C, m, W, h, e, _, _ => by cases e; simpa [opn, wsz] using h
  | w :: r, st, st', C, m, W, h, e, hw, hm => by
    unfold gfold at e
    rw [List.length_cons] at hm
    cases e1 : gst st w with
    | none => rw [e1] at e; cases e
    | some s1 =>
      rw [e1] at e
      obtain ⟨a, b⟩ := hw w (by simp)
      have := GI.fold (h.step e1 a b (by omega)) e (fun x hx => hw x (List.mem_cons_of_mem _ hx)) (by omega)
      unfold opn wsz
      rw [List.map_cons, List.sum_cons, List.map_cons, List.sum_cons, List.length_cons]
      unfold opn wsz at this
      obtain ⟨k, ic, hW⟩ := this
      exact ⟨by rwa [← Nat.add_assoc], by omega, by omega⟩
def cnt (l : List Nat) : Nat := (l.map fun c => if c = 40 then 1 else 0).sum
theorem cnt_app (a b : List Nat) : cnt (a ++ b) = cnt a + cnt b := by unfold cnt; rw [List.map_append, List.sum_append]
theorem cnt_rp : ∀ l : List Nat, cnt (l.flatMap rp) = cnt l
  | [] => rfl
  | c :: r => by
    rw [List.flatMap_cons, cnt_app, cnt_rp r, show c :: r = [c] ++ r from rfl, cnt_app]
    congr 1
    unfold rp
    split
    · rename_i h; subst h; rfl
    · split
      · rename_i h; subst h; rfl
      · rfl
theorem cnt_joinL : ∀ ps : List (List Nat), cnt (TL.joinL [32] ps) = (ps.map cnt).sum
  | [] => rfl
  | [p] => by simp [TL.joinL]
  | p :: q :: r => by
    have := cnt_joinL (q :: r)
    show cnt (p ++ ([32] ++ TL.joinL [32] (q :: r))) = _
    rw [cnt_app, cnt_app, this, List.map_cons, List.sum_cons]
    simp [cnt]
theorem joinL_len2 : ∀ ps : List (List Nat), ps ≠ [] → (TL.joinL [32] ps).length + 1 = (ps.map fun p => p.length + 1).sum
  | [], h => absurd rfl h
  | [p], _ => by simp [TL.joinL]
  | p :: q :: r, _ => by
    have := joinL_len2 (q :: r) (by simp)
    show (p ++ ([32] ++ TL.joinL [32] (q :: r))).length + 1 = _
    rw [List.length_append, List.length_append, List.map_cons, List.sum_cons, ← this]
    simp only [List.length_singleton]
    omega
theorem joinL_mem : ∀ (ps : List (List Nat)) (p : List Nat) (c : Nat), p ∈ ps → c ∈ p → c ∈ TL.joinL [32] ps
  | [p], q, c, h, hc => by
    rw [List.mem_singleton] at h
    subst h
    exact hc
  | p :: q :: r, x, c, h, hc => by
    show c ∈ p ++ ([32] ++ TL.joinL [32] (q :: r))
    rcases List.mem_cons.mp h with rfl | h
    · exact List.mem_append.mpr (.inl hc)
    · exact List.mem_append.mpr (.inr (List.mem_append.mpr (.inr (joinL_mem (q :: r) x c h hc))))
theorem words_join (x : Str) : TL.joinL [32] ((wordsOf x).map tl) = (tl x).flatMap rp := by
  have h : Txt.join " " (wordsOf x) = Txt.replace (Txt.replace x "(" "( ") ")" " )" := by
    unfold wordsOf
    rw [TL.join_eq]
    exact PySem.StrLaws.join_split _ _
  rw [← tl_join, h]
  have e1 : tl ("(" : Str) = [40] := by decide +kernel
  have e2 : tl (")" : Str) = [41] := by decide +kernel
  have e3 : tl ("( " : Str) = [40, 32] := by decide +kernel
  have e4 : tl (" )" : Str) = [32, 41] := by decide +kernel
  rw [← repl2, show tl (Txt.replace (Txt.replace x "(" "( ") ")" " )") = _ from PySem.StrLaws.replace_list (by decide +kernel), show (Txt.replace x "(" "( ").cps.toList = _ from PySem.StrLaws.replace_list (by decide +kernel)]
  show PySem.StrLaws.replL (tl ")") (tl " )") (PySem.StrLaws.replL (tl "(") (tl "( ") (tl x)) = _
  rw [e1, e2, e3, e4]
theorem rp_len05 : ∀ l : List Nat, (l.flatMap rp).length ≤ 2 * l.length
  | [] => by simp
  | c :: r => by
    have := rp_len05 r
    have h : (rp c).length ≤ 2 := by
      unfold rp
      split
      · simp
      · split <;> simp
    rw [List.flatMap_cons, List.length_append, List.length_cons]
    omega
theorem sum_mem {w : Str} : ∀ {l : List Str}, w ∈ l → w.length + 1 ≤ (l.map fun w => w.length + 1).sum
  | a :: l, h => by
    rw [List.map_cons, List.sum_cons]
    rcases List.mem_cons.mp h with rfl | h
    · omega
    · have := sum_mem h; omega
theorem sum_szs : ∀ l : List Str, wsz l = (l.map fun w => w.length + 1).sum + 32 * l.length ∧ l.length ≤ (l.map fun w => w.length + 1).sum ∧ opn l ≤ (l.map fun w => cnt (tl w)).sum
  | [] => ⟨rfl, by simp, by simp [opn]⟩
  | a :: l => by
    obtain ⟨h1, h2, h3⟩ := sum_szs l
    unfold wsz opn at *
    simp only [List.map_cons, List.sum_cons, List.length_cons]
    refine ⟨by omega, by omega, ?_⟩
    have : (if a = "(" then 1 else 0) ≤ cnt (tl a) := by
      split
      · rename_i e
        rw [e]
        decide +kernel
      · omega
    omega
theorem words_facts {x : Str} (hx : x.length ≤ 400) (hp : strP x) : (wordsOf x).length ≤ 801 ∧ (∀ w ∈ wordsOf x, w.length ≤ 900 ∧ strP w) ∧ opn (wordsOf x) ≤ cnt (tl x) ∧ wsz (wordsOf x) ≤ 28000 := by
  have hj := words_join x
  have hl := rp_len05 (tl x)
  rw [← hj] at hl
  rw [int_len] at hx
  obtain ⟨z1, z2, z3⟩ := sum_szs (wordsOf x)
  have hs : ((wordsOf x).map fun w => w.length + 1).sum ≤ 801 := by
    by_cases hne : (wordsOf x).map tl = []
    · rw [List.map_eq_nil_iff] at hne
      rw [hne]
      simp
    · have h1 := joinL_len2 _ hne
      rw [List.map_map] at h1
      have h2 : ((fun p : List Nat => p.length + 1) ∘ tl) = fun w : Str => w.length + 1 := funext fun w => by rw [int_len]; rfl
      rw [h2] at h1
      omega
  refine ⟨by omega, fun w hw => ⟨?_, fun c hc => ?_⟩, ?_, by omega⟩
  · have := sum_mem hw
    omega
  · have h1 := joinL_mem _ (tl w) c (List.mem_map.mpr ⟨w, hw, rfl⟩) hc
    rw [hj, List.mem_flatMap] at h1
    obtain ⟨d, hd, h2⟩ := h1
    have h3 := hp d hd
    unfold rp at h2
    split at h2
    · simp at h2; omega
    · split at h2
      · simp at h2; omega
      · simp at h2; omega
  · have h1 := cnt_joinL ((wordsOf x).map tl)
    rw [hj, cnt_rp, List.map_map] at h1
    rw [h1]
    exact z3
theorem cutS_take {x : Str} {k : Nat} : tl (cutS x none (some (k : Int))) = (tl x).take k := by
  unfold cutS
  rw [HT.sIx_none, show HT.sIx x.length x.length (some (k : Int)) = min k x.length from HT.sIx_nat x.length x.length k]
  show ((tl x).drop 0).take (min k x.length - 0) = _
  rw [List.drop_zero, Nat.sub_zero, int_len]
  by_cases h : k ≤ (tl x).length
  · rw [Nat.min_eq_left h]
  · rw [Nat.min_eq_right (by omega), List.take_length, List.take_of_length_le (by omega)]
theorem cutS_drop {x : Str} {k : Nat} : tl (cutS x (some (k : Int)) none) = (tl x).drop k := by
  unfold cutS
  rw [HT.sIx_none, show HT.sIx x.length 0 (some (k : Int)) = min k x.length from HT.sIx_nat x.length 0 k]
  show ((tl x).drop (min k x.length)).take (x.length - min k x.length) = _
  rw [int_len]
  by_cases h : k ≤ (tl x).length
  · rw [Nat.min_eq_left h, List.take_of_length_le (by rw [List.length_drop]; omega)]
  · rw [Nat.min_eq_right (by omega), List.drop_length, List.drop_of_length_le (by omega)]
    simp
theorem cutS_mid {x : Str} {a b : Nat} (h : a ≤ x.length) (hb : a ≤ b) : tl (cutS x (some (a : Int)) (some (b : Int))) = ((tl x).drop a).take (b - a) := by
  unfold cutS
  rw [show HT.sIx x.length 0 (some (a : Int)) = min a x.length from HT.sIx_nat x.length 0 a, show HT.sIx x.length x.length (some (b : Int)) = min b x.length from HT.sIx_nat x.length x.length b]
  show ((tl x).drop (min a x.length)).take (min b x.length - min a x.length) = _
  rw [Nat.min_eq_left h]
  rw [int_len] at h ⊢
  by_cases h2 : b ≤ (tl x).length
  · rw [Nat.min_eq_left h2]
  · rw [Nat.min_eq_right (by omega), List.take_of_length_le (Nat.le_of_eq (List.length_drop ..)), List.take_of_length_le (by rw [List.length_drop]; omega)]
end Rm

set_option Elab.async false
set_option linter.all false
set_option maxRecDepth 100000
set_option maxHeartbeats 4000000
local macro_rules | `(tactic| walk_at "rm_xac4ae972") => `(tactic| ((repeat (first | simp only [h1, ↓sSeq, ↓sNext, ↓sDrop, ↓sRet, ↓sRetN, ↓sIf, ↓sAsg, ↓sAug, ↓sPar, ↓sFrz, ↓sBreak, ↓sCont, ↓sFor, ↓dgName, ↓dgTup, ↓dgCons, ↓dgNil, ↓dgSub, ↓dVar, ↓dC, ↓dNil, ↓dCons, ↓dTup, ↓dLst, ↓dLstO, ↓dats, ↓dOp, ↓dUn, ↓dCB, ↓dT, ↓dAnd, ↓dOr, ↓dNot, ↓dAndV, ↓dOrV, ↓dNotV, ↓dIf, ↓dChain, ↓rAdd, ↓rInts, ↓rSub, ↓rMod, ↓rFdiv, ↓rMul, ↓rNeg, ↓rEqB, ↓rLt, ↓rLe, ↓rGt, ↓rGe, ↓rIsN, ↓rInB, ↓rIxD, ↓dSl, ↓dPart, ↓dNoPart, ↓cLen, ↓cInt, ↓cStr, ↓cAbs, ↓cMin, ↓cMax, ↓cAll, ↓cAny, ↓cSum, ↓cList, ↓cListO, ↓cTuple, ↓dIsi, ↓dSplit, ↓dJoin, ↓dAppend, ↓dPop, ↓dExtend, ↓dCall, ↓callS_Pf, ↓iRow, ↓iRan1, ↓iRan2, ↓iEnu, ↓iZp, ↓iZpM, ↓sPar3, ↓dDget1, ↓dDget2, ↓sDputD, ↓dDnew, ↓dSplitO, ↓rInTd, ↓dLstR1, ↓cSumLR, ↓xE, ↓xA, ↓xF, ↓xCons, ↓xTup, ↓xCB, ↓xMeth, ↓dIsX, ↓sAsgX, ↓sDropX, ↓sRetX, ↓sTry, ↓dCallX, ↓dXf, startD, List.map_cons, List.map_nil, List.cons_append, List.nil_append, List.length_cons, List.length_nil, List.replicate, List.set_cons_zero, List.set_cons_succ, List.getElem?_cons_zero, List.getElem?_cons_succ, List.getElem?_nil, Option.map_some, Option.some.injEq, D.dat.injEq, D.ref.injEq, PyData.int.injEq, PyData.bool.injEq, PyData.str.injEq, PyData.list.injEq, PyData.tuple.injEq, exists_and_left, exists_eq_left, exists_eq_left', exists_eq, exists_const, if_true, if_false, Bool.not_true, Bool.not_false, Bool.false_eq_true, ↓reduceIte, List.cons.injEq, and_true, true_and, List.take_nil, List.take_zero, List.all_nil, List.length_map, Nat.le_refl, Nat.zero_le, Nat.reduceSub, Nat.reduceAdd, Nat.sub_self, ge_iff_le, Nat.lt_irrefl, reduceCtorEq, false_and, and_false, or_false, false_or, or_true, true_or, rd_dat, ↓dLenSet, ↓dDisp, ↓dDispL, ↓cStr2, strQ_int, strQ_str, strB_int, strB_str, ↓dPopI, ↓cLenR, ↓rAddO, ↓cSumL, ↓cSumLO, ↓dAppendR, ↓dPopR, ↓rIxR, ↓dLstR, ↓cDict, ↓dDin, ↓dDget, Ob.ins.injEq, Ob.lst.injEq, Ob.spr.injEq, Ob.dk.injEq, Ob.refs.injEq, ↓dFld, ↓sFldD, ↓dMeth, ↓dMake, ↓dCallW, ↓dLc, rowP_str, ↓wipeD, Tg.own, Tg.put, ↓setsD, exists_false, rd_ref, isN_int, isN_str, isN_bl, isN_non, isN_lst, isN_tup, isN_ref, flatP_int, flatP_str, flatP_bl, flatP_non, lenP_str, lenP_lst, lenP_tup, rowP_lst, rowP_tup, itP_lst, itP_tup, itP_str, ixB_str, ixB_lst, ixB_tup, slP_lst, slP_tup, slP_str, atP_lst, atP_tup, addP_int, addP_str, addP_lst, addP_tup, addB_int, addB_str, addB_lst, addB_tup, fin0, eqOk_ss, eqOk_ii, eqv_ss, eqv_ii, atI_0, atI_1, atI_2, atI_3, atI_4, atI_5, atI_6, atI_7, cutP_f1, cutP_f2, cutP_f3, cutP_f4, cutP_f5, cutP_t1, cutP_t2, cutP_t3, cutP_t4, cutP_t5, atI_last', and_assoc, List.drop_succ_cons, List.drop_zero, List.take_succ_cons, f_pow30, f_pow29, f_pow15, ↓dTried, toldD_dat, toldD_ref, ↓dIsK, ↓dXk, ↓rIxK, itmK_0, itmK_1, D.tupK.injEq, D.exk.injEq, ↓dgTupK, tupX_dat, tupX_K, fin1_s, fin2_sl] | ((with_reducible refine Exists.intro ?w (And.intro ?h ?_)); case h => exact rfl) | ((with_reducible refine And.intro ?h ?_); case h => exact ⟨_, rfl⟩) | ((with_reducible refine And.intro ?h ?_); case h => first | exact trivial | exact rfl | decide | omega | (exact eqOk_flat rfl rfl) | (refine Nat.le_trans (m := 1000000) ?_ (by decide); (try simp only [List.length_append, List.length_cons, List.length_nil, List.length_map]); omega) | (refine Nat.lt_of_le_of_lt (m := 1000000) ?_ (by decide); (try simp only [List.length_append, List.length_cons, List.length_nil, List.length_map]); omega))))))
local macro_rules | `(tactic| walk_at "rm_xc97208c3") => `(tactic| ((repeat (first | simp only [sRaise, ↓sSeq, ↓sNext, ↓sDrop, ↓sRet, ↓sRetN, ↓sIf, ↓sAsg, ↓sAug, ↓sPar, ↓sFrz, ↓sBreak, ↓sCont, ↓sFor, ↓dgName, ↓dgTup, ↓dgCons, ↓dgNil, ↓dgSub, ↓dVar, ↓dC, ↓dNil, ↓dCons, ↓dTup, ↓dLst, ↓dLstO, ↓dats, ↓dOp, ↓dUn, ↓dCB, ↓dT, ↓dAnd, ↓dOr, ↓dNot, ↓dAndV, ↓dOrV, ↓dNotV, ↓dIf, ↓dChain, ↓rAdd, ↓rInts, ↓rSub, ↓rMod, ↓rFdiv, ↓rMul, ↓rNeg, ↓rEqB, ↓rLt, ↓rLe, ↓rGt, ↓rGe, ↓rIsN, ↓rInB, ↓rIxD, ↓dSl, ↓dPart, ↓dNoPart, ↓cLen, ↓cInt, ↓cStr, ↓cAbs, ↓cMin, ↓cMax, ↓cAll, ↓cAny, ↓cSum, ↓cList, ↓cListO, ↓cTuple, ↓dIsi, ↓dSplit, ↓dJoin, ↓dAppend, ↓dPop, ↓dExtend, ↓dCall, ↓callS_Pf, ↓iRow, ↓iRan1, ↓iRan2, ↓iEnu, ↓iZp, ↓iZpM, ↓sPar3, ↓dDget1, ↓dDget2, ↓sDputD, ↓dDnew, ↓dSplitO, ↓rInTd, ↓dLstR1, ↓cSumLR, ↓xE, ↓xA, ↓xF, ↓xCons, ↓xTup, ↓xCB, ↓xMeth, ↓dIsX, ↓sAsgX, ↓sDropX, ↓sRetX, ↓sTry, ↓dCallX, ↓dXf, startD, List.map_cons, List.map_nil, List.cons_append, List.nil_append, List.length_cons, List.length_nil, List.replicate, List.set_cons_zero, List.set_cons_succ, List.getElem?_cons_zero, List.getElem?_cons_succ, List.getElem?_nil, Option.map_some, Option.some.injEq, D.dat.injEq, D.ref.injEq, PyData.int.injEq, PyData.bool.injEq, PyData.str.injEq, PyData.list.injEq, PyData.tuple.injEq, exists_and_left, exists_eq_left, exists_eq_left', exists_eq, exists_const, if_true, if_false, Bool.not_true, Bool.not_false, Bool.false_eq_true, ↓reduceIte, List.cons.injEq, and_true, true_and, List.take_nil, List.take_zero, List.all_nil, List.length_map, Nat.le_refl, Nat.zero_le, Nat.reduceSub, Nat.reduceAdd, Nat.sub_self, ge_iff_le, Nat.lt_irrefl, reduceCtorEq, false_and, and_false, or_false, false_or, or_true, true_or, rd_dat, ↓dLenSet, ↓dDisp, ↓dDispL, ↓cStr2, strQ_int, strQ_str, strB_int, strB_str, ↓dPopI, ↓cLenR, ↓rAddO, ↓cSumL, ↓cSumLO, ↓dAppendR, ↓dPopR, ↓rIxR, ↓dLstR, ↓cDict, ↓dDin, ↓dDget, Ob.ins.injEq, Ob.lst.injEq, Ob.spr.injEq, Ob.dk.injEq, Ob.refs.injEq, ↓dFld, ↓sFldD, ↓dMeth, ↓dMake, ↓dCallW, ↓dLc, rowP_str, ↓wipeD, Tg.own, Tg.put, ↓setsD, exists_false, rd_ref, isN_int, isN_str, isN_bl, isN_non, isN_lst, isN_tup, isN_ref, flatP_int, flatP_str, flatP_bl, flatP_non, lenP_str, lenP_lst, lenP_tup, rowP_lst, rowP_tup, itP_lst, itP_tup, itP_str, ixB_str, ixB_lst, ixB_tup, slP_lst, slP_tup, slP_str, atP_lst, atP_tup, addP_int, addP_str, addP_lst, addP_tup, addB_int, addB_str, addB_lst, addB_tup, fin0, eqOk_ss, eqOk_ii, eqv_ss, eqv_ii, atI_0, atI_1, atI_2, atI_3, atI_4, atI_5, atI_6, atI_7, cutP_f1, cutP_f2, cutP_f3, cutP_f4, cutP_f5, cutP_t1, cutP_t2, cutP_t3, cutP_t4, cutP_t5, atI_last', and_assoc, List.drop_succ_cons, List.drop_zero, List.take_succ_cons, f_pow30, f_pow29, f_pow15, ↓dTried, toldD_dat, toldD_ref, ↓dIsK, ↓dXk, ↓rIxK, itmK_0, itmK_1, D.tupK.injEq, D.exk.injEq, ↓dgTupK, tupX_dat, tupX_K, fin1_s, fin2_sl] | ((with_reducible refine Exists.intro ?w (And.intro ?h ?_)); case h => exact rfl) | ((with_reducible refine And.intro ?h ?_); case h => exact ⟨_, rfl⟩) | ((with_reducible refine And.intro ?h ?_); case h => first | exact trivial | exact rfl | decide | omega | (exact eqOk_flat rfl rfl) | (refine Nat.le_trans (m := 1000000) ?_ (by decide); (try simp only [List.length_append, List.length_cons, List.length_nil, List.length_map]); omega) | (refine Nat.lt_of_le_of_lt (m := 1000000) ?_ (by decide); (try simp only [List.length_append, List.length_cons, List.length_nil, List.length_map]); omega))))))
namespace Rm
open PySem PySem.Spec PyProof.Rows L2
def sTxtV (n : Nat) : Fs := Pf (fun d : PyData => isVb n d = true ∧ wgt d ≤ 40000) (fun d => [d]) fun d => .str (txt n d)
section
variable {P : Program} {w : World} {K : PySem.W.Frag} {mg : Str → Option Value} {base : Heap}
def txD (n : Nat) : D → PyData
  | .dat p => .str (txt n p)
  | _ => .none
theorem log_lt {i : Int} (h : i.natAbs < 10 ^ 30) : i.natAbs.log2 < 1920 := by
  by_cases h0 : i.natAbs = 0
  · rw [h0]; decide +kernel
  · exact Nat.lt_of_lt_of_le ((Nat.log2_lt (k := 100) h0).mpr (Nat.lt_of_lt_of_le h (by decide))) (by decide)
theorem isVr_split {n : Nat} {ds : List PyData} (h : isVr (isVb n) ds = true) : ∃ (hds : List Str) (es : List PyData) (t : Str) (r : List PyData), ds = .str t :: r ∧ ds = hds.map PyData.str ++ es ∧ (t = "close" → r ≠ []) ∧ r.length ≤ 6 ∧ (∀ e ∈ es, isVb n e = true) ∧ hdN t = hds.length := by
  rcases isVr_cases h with ⟨t, r, rfl, hne, _, hl, hv⟩ | ⟨g, ps, rfl, _, hl, hv⟩
  · exact ⟨[t], r, t, r, rfl, rfl, fun z => absurd z hne, hl, hv, by unfold hdN; rw [if_neg hne]; rfl⟩
  · exact ⟨["close", g], ps, "close", .str g :: ps, rfl, rfl, fun _ => by simp, by simp; omega, hv, by unfold hdN; rw [if_pos rfl]; rfl⟩
theorem txtV_go {n : Nat} {p : PyData} {ds : List PyData} {v0 : Option D} {Q : DQ} (hr : rowOf p ds) (hv : isVr (isVb n) ds = true) (hw : wgtA ds ≤ 40000) (q : Q (.dat (.str (rowT (txt n) ds))) []) :
    callS sHead [D.dat p] [] fun d S1 => ∃ x, rd S1 d = some x ∧ ∃ x_1, rowP x = some x_1 ∧ callS sPartsV [D.dat p] S1 fun x S1 => ∃ p, x = D.dat p ∧ ∃ x, itP p = some x ∧ x.length ≤ 1000000 ∧
      lcL (Tg.one 1) dYes (dCall (sTxtV n) (dCons (dVar 1) dNil)) [v0, none] x S1 fun ys S2 => x_1.length + ys.length ≤ sizeLine ∧ ∃ x, x_1 ++ ys = List.map PyData.str x ∧
        (List.map (fun x => x.length) x).sum + x.length * (Str.ofString " ").length ≤ 16777216 ∧ (Str.ofString "(").length + (Txt.join (Str.ofString " ") x).length ≤ sizeLine ∧
          (Str.ofString "(" ++ Txt.join (Str.ofString " ") x).length + (Str.ofString ")").length ≤ sizeLine ∧ Q (D.dat (PyData.str (Str.ofString "(" ++ Txt.join (Str.ofString " ") x ++ Str.ofString ")"))) [] := by
  obtain ⟨hds, es, t, r, e, e2, ht, hl, hes, hN⟩ := isVr_split hv
  have hr' : rowOf p (.str t :: r) := by rw [← e]; exact hr
  refine callS_Pf.mpr ⟨(p, t, r), rfl, ⟨hr', ht, hl⟩, _, rfl, _, rfl, callS_Pf.mpr ⟨(p, t, r), rfl, ⟨hr', ht, hl⟩, _, rfl, _, rfl, ?_, ?_⟩⟩
  · have : (List.drop (hdN t) (PyData.str t :: r)).length ≤ 1000000 := by rw [List.length_drop, List.length_cons]; omega
    simpa using this
  dsimp only
  rw [← e]
  have e3 : List.take (hdN t) ds = hds.map PyData.str := by rw [e2, hN, List.take_left' (by simp)]
  have e4 : List.drop (hdN t) ds = es := by rw [e2, hN, List.drop_left' (by simp)]
  rw [e3, e4]
  have hl2 : hds.length + es.length ≤ 7 := by
    have : ds.length ≤ 7 := by rw [e, List.length_cons]; omega
    rw [e2, List.length_append, List.length_map] at this
    exact this
  have hw2 : ∀ d ∈ es, wgt d ≤ 40000 := fun d hd => Nat.le_trans (wgtA_mem (by rw [e2]; exact List.mem_append.mpr (.inr hd))) hw
  refine lcL_map (f := txD n) (fun x hx R hR => ?_) ?_
  · obtain ⟨d, hd, rfl⟩ := List.mem_map.mp hx
    walk_at "rm_stp"
    exact callS_Pf.mpr ⟨d, rfl, ⟨hes d hd, hw2 d hd⟩, hR⟩
  have e5 : (es.map D.dat).map (txD n) = (es.map (txt n)).map PyData.str := by rw [List.map_map, List.map_map]; rfl
  have e6 : hds ++ es.map (txt n) = ds.map (wordOf (txt n)) := by
    rw [e2, List.map_append, List.map_map]
    congr 1
    · exact (List.map_id' hds).symm
    · exact List.map_congr_left fun d hd => (isVb_nostr (hes d hd) _).symm
  have hs := row_len (txt_len n) hv
  rw [← e6] at hs
  have hs2 : ((hds ++ es.map (txt n)).map fun w => w.length).sum ≤ 40000 ∧ (hds ++ es.map (txt n)).length ≤ 7 := by
    refine ⟨Nat.le_trans ?_ (Nat.le_trans hs hw), by rw [List.length_append, List.length_map]; exact hl2⟩
    have : ∀ l : List Str, (l.map fun w => w.length).sum ≤ (l.map fun w => w.length + 1).sum := fun l => by
      induction l with
      | nil => simp
      | cons a l ih => rw [List.map_cons, List.sum_cons, List.map_cons, List.sum_cons]; omega
    exact this _
  have hj := join_len (hds ++ es.map (txt n))
  rw [e5]
  refine ⟨Nat.le_trans (m := 7) (by simpa using hl2) (by decide), hds ++ es.map (txt n), by rw [List.map_append], ?_, ?_, ?_, ?_⟩
  · rw [show (Str.ofString " ").length = 1 from by decide +kernel]; omega
  · rw [show (Str.ofString "(").length = 1 from by decide +kernel]
    exact Nat.le_trans (m := 40001) (by show 1 + (Txt.join " " _).length ≤ _; omega) (by decide)
  · rw [int_len (Str.ofString "(" ++ _), tl_app, List.length_append, ← int_len, ← int_len, show (Str.ofString "(").length = 1 from by decide +kernel, show (Str.ofString ")").length = 1 from by decide +kernel]
    exact Nat.le_trans (m := 40002) (by show 1 + (Txt.join " " _).length + 1 ≤ _; omega) (by decide)
  · rw [e6]
    exact q
theorem txtV_body (T : Tx K mg) (n : Nat) (ih : Cal P w K mg base (n + 3) "value_text" (upF K (sTxtV n))) : Cal P w K mg base (n + 4) "value_text" (upF K (sTxtV (n + 1))) := by
  refine T.value_text.calD f_value_text_sc (fun _ _ _ _ _ _ us hl => match us, hl with | [_], _ => rfl) (fun ds S Q h => by obtain ⟨_, a, rfl, _⟩ := h; rfl) _ (fun f cdv A outer s H E hr => (dss_cons (ds_if (dt_not (dt_val (de_call (pe_c (cal_is_row T) hr (by omega) rfl (da_cons (de_var (pv 0)) da_nil))))) (dss_one (ds_ret (de_callTy cr_str2 cd_str2 rfl T.n_str (by decide +kernel) (da_cons (de_var (pv 0)) da_nil)))) dss_nil)
      (dss_one (ds_ret (de_add (de_add de_str (de_join (pe_join de_str (de_add (de_callTy call_list_of cd_list rfl T.n_list (by decide +kernel) (da_cons (de_call (pe_c (cal_head_of T) hr (by omega) rfl (da_cons (de_var (pv 0)) da_nil))) da_nil)) (de_lc (g := .one 1) (pe_lc (own := [("part", 1)]) rfl f_value_text_sc.nd (di_row (de_call (pe_c (cal_parts_of T) hr (by omega) rfl (da_cons (de_var (pv 0)) da_nil)))) (blkOk_by (own := [("part", 1)]) (N := f_value_text_N) (sc := defScope f_value_text_s) (by decide +kernel)) (fun _ _ _ _ _ => (pg_name (i := 1) f_value_text_sc.nd rfl (Or.inl rfl))) (fun _ _ _ _ _ => dts_nil) (fun _ _ _ _ _ => (de_call (pe_c ih hr (by omega) rfl (da_cons (de_var (pv 1)) da_nil)))))))))) de_str))))) fun ds S Q h => ?_
  obtain ⟨rfl, p, rfl, ⟨hp, hw⟩, q⟩ := h
  cases p with
  | int i =>
    walk_at "rm_stp"
    refine callS_Pf.mpr ⟨_, rfl, trivial, _, rfl, ?_⟩
    rw [if_pos (by rfl)]
    exact ⟨log_lt (of_decide_eq_true hp), q⟩
  | tuple ds =>
    walk_at "rm_stp"
    refine callS_Pf.mpr ⟨_, rfl, trivial, _, rfl, ?_⟩
    rw [if_neg (by simp [isRowP])]
    exact txtV_go (.inl rfl) hp (by rw [wgt] at hw; omega) q
  | list ds =>
    walk_at "rm_stp"
    refine callS_Pf.mpr ⟨_, rfl, trivial, _, rfl, ?_⟩
    rw [if_neg (by simp [isRowP])]
    exact txtV_go (.inr rfl) hp (by rw [wgt] at hw; omega) q
  | _ => cases hp
theorem cal_value_text (T : Tx K mg) : ∀ n, Cal P w K mg base (n + 3) "value_text" (upF K (sTxtV n))
  | 0 => T.value_text.zeroD (ps := f_value_text_P) (fun _ _ _ _ _ _ us hl => match us, hl with | [_], _ => rfl) fun ds S Q h => by
    obtain ⟨rfl, d, rfl, ⟨hd, _⟩, q⟩ := h
    cases d <;> cases hd
  | n + 1 => txtV_body T n (cal_value_text T n)
def sFroz0 : Fs := Pf (fun _ : PyData => False) (fun p => [p]) fun p => p
def sFroz : Fs := Pf (fun p : PyData => flatP p = true) (fun p => [p]) fun p => p
theorem cal_frozen (T : Tx K mg) : Cal P w K mg base 2 "frozen" (upF K sFroz) := by
  have ih : Cal P w K mg base 1 "frozen" (upF K sFroz0) := T.frozen.zeroD (ps := f_frozen_P) (fun _ _ _ _ _ _ us hl => match us, hl with | [_], _ => rfl) fun ds S Q h => by
    obtain ⟨rfl, a, rfl, h, _⟩ := h
    exact h
  refine T.frozen.calD f_frozen_sc (fun _ _ _ _ _ _ us hl => match us, hl with | [_], _ => rfl) (fun ds S Q h => by obtain ⟨_, _, rfl, _⟩ := h; rfl) _ (fun f cdv A outer s H E hr => (dss_cons (ds_if (dt_val (de_isiT (ts := ["tuple", "list"]) (pe_callB call_isiT rfl T.n_isinstance (by decide +kernel) (pa_cons (de_var (pv 0)) (pa_cons (pe_tup (pa_cons (pe_bltn (v := .ty "tuple") (u := .type "tuple") rfl T.n_tuple (by decide +kernel) rfl) (pa_cons (pe_bltn (v := .ty "list") (u := .type "list") rfl T.n_list (by decide +kernel) rfl) pa_nil))) pa_nil))) (by simp))) (dss_one (ds_ret (de_callTy call_tuple_of cd_tuple rfl T.n_tuple (by decide +kernel) (da_cons (de_lc (g := .one 1) (pe_lc (own := [("part", 1)]) rfl f_frozen_sc.nd (di_row (de_var (pv 0))) (blkOk_by (own := [("part", 1)]) (N := f_frozen_N) (sc := defScope f_frozen_s) (by decide +kernel)) (fun _ _ _ _ _ => (pg_name (i := 1) f_frozen_sc.nd rfl (Or.inl rfl))) (fun _ _ _ _ _ => dts_nil) (fun _ _ _ _ _ => (de_call (pe_c ih hr (by omega) rfl (da_cons (de_var (pv 1)) da_nil)))))) da_nil)))) dss_nil)
      (dss_one (ds_ret (de_var (pv 0)))))) fun ds S Q h => ?_
  obtain ⟨rfl, p, rfl, hp, q⟩ := h
  walk_at "rm_rd"
  cases p <;> first | (exact absurd hp Bool.false_ne_true) | (simp [isT, isTn, tyN]; exact q)
end
section
open NdefX
variable {P : Program} {w : World} {K : PySem.W.Frag} {mg : Str → Option Value} {base : Heap}
theorem froz_raw {v : V} {H : Hp} {Q : VK} {E : XK} (h : flatV v = true) (q : ∀ H', Same H H' → Q v H') : upF K sFroz [v] H Q E := by
  have go : ∀ p : PyData, (∀ G, Dq K G v p) → flatP p = true → (∀ G u, Dq K G u p → u = v) → upF K sFroz [v] H Q E := fun p h1 h2 h3 =>
    ⟨fun _ => none, [], [.dat p], [], fun d _ => d = .dat p, ⟨(fun b o e => by cases e), rfl, List.nodup_nil, (fun a m => by cases m), (fun i f o h => by simp at h), (fun i f o h => by simp at h)⟩, .cons (h1 _) .nil,
      fun d S' G' φ' u H' e ex r dv => by
        subst e
        have := h3 _ u dv
        subst this
        exact q H' fun b o e => ex.fr b o (by simp [zs]) e, ⟨rfl, p, rfl, h2, rfl⟩⟩
  cases v with
  | non => exact go .none (fun _ => .non) rfl fun G u h => by cases h; rfl
  | bl b => exact go (.bool b) (fun _ => .bl b) rfl fun G u h => by cases h; rfl
  | int i => exact go (.int i) (fun _ => .int i) rfl fun G u h => by cases h; rfl
  | str x => exact go (.str x) (fun _ => .str x) rfl fun G u h => by cases h; rfl
  | _ => cases h
end
section
open NdefX
abbrev x_BadValue_N : List Str := ["self", "text", "__class__"]
theorem x_BadValue_sc : NScope x_BadValue_N ["self", "text"] ["__class__"] (defScope x_BadValue_s) := nscope_by (by decide +kernel)
end
section
open NdefX
variable {P : Program} {w : World} {K : PySem.W.Frag} {mg : Str → Option Value} {base : Heap}
theorem exc_BadValue (T : Tx K mg) (F : ExF P K mg "BadValue" x_BadValue_s ["text"]) : ExC P w K mg base 4 "BadValue" ["text"] := by
  obtain ⟨f, nm, q, cl, c, doc, pm, ctv, oc, od, osl, S, lk, iC, tI, hm, hno⟩ := F.ex
  refine ⟨f, _, ["self", "text"], S.oex, iC, tI, fn_super (k := 3) S lk x_BadValue_sc rfl rfl rfl rfl (fun L => rfl) (fun L => rfl) (fun L => rfl) (fun L => rfl) (fun L => rfl) (fun vs H Q E h => ?_) fun A outer s H vs Q E hr hs => ?_, Binds.all fun us hl => match us, hl with | [_, _], _ => rfl, hm, by decide⟩
  · obtain ⟨a, ws, rfl, hl, _⟩ := h
    simp [hl]
  · obtain ⟨a, ws, rfl, hl, ha, hf, hq⟩ := hs
    obtain ⟨w1, rfl⟩ : ∃ w1, ws = [w1] := by
      match ws, hl with
      | [w1], _ => exact ⟨w1, rfl⟩
    refine ⟨a, [w1], _, _, rfl, ha, pa_cons (pe_var (i := 1) rfl (.inl rfl)) pa_nil, pss_cons (ps_ost (pe_var (i := 0) rfl (.inl rfl)) (pe_c (cal_frozen T) hr (by omega) rfl (pa_cons (pe_var (i := 1) rfl (.inl rfl)) pa_nil))) pss_nil, ?_⟩
    have f1 := hf w1 (by simp)
    refine ⟨w1, rfl, by simp, ha, w1, rfl, ?_⟩
    show upF K sFroz [w1] H _ E0
    refine froz_raw (E := E0) f1 fun H1 s1 => ⟨.ref a, rfl, a, _, rfl, S.oex, hno _ (by simp), .inl ⟨s1 _ _ ha, fun dx n1 ne => ?_⟩⟩
    have hd : H dx = none := by
      cases e : H dx with
      | none => rfl
      | some o => rw [s1 _ _ e] at n1; cases n1
    refine hq _ dx (fun b o hb e => ?_) hd upd_same (by rw [upd_ne ne]; exact upd_same)
    have hbd : b ≠ dx := fun z => by rw [z, hd] at e; cases e
    rw [upd_ne hb, upd_ne hbd]
    exact s1 _ _ e
end
inductive Stk (S : Os) : List Nat → List (List PyData) → Prop
  | nil : Stk S [] []
  | cons {j : Nat} {g : List PyData} {js : List Nat} {st : List (List PyData)} : S[j]? = some (.lst g) → j ≠ 1 → j ∉ js → Stk S js st → Stk S (j :: js) (g :: st)
theorem Stk.mono {S S' : Os} {js : List Nat} {st : List (List PyData)} (h : Stk S js st) (e : ∀ j ∈ js, j ≠ 1 → S'[j]? = S[j]?) : Stk S' js st := by
  induction h with
  | nil => exact .nil
  | cons h1 h2 h3 _ ih => exact .cons (by rw [e _ (List.mem_cons_self ..) h2]; exact h1) h2 h3 (ih fun j hj => e j (List.mem_cons_of_mem _ hj))
theorem Stk.len {S : Os} {js : List Nat} {st : List (List PyData)} (h : Stk S js st) : js.length = st.length := by
  induction h with
  | nil => rfl
  | cons _ _ _ _ ih => rw [List.length_cons, List.length_cons, ih]
theorem set_ne {S : Os} {i j : Nat} {o : Ob} (h : i ≠ j) : (S.set i o)[j]? = S[j]? := List.getElem?_set_ne h
theorem set_eq {S : Os} {i : Nat} {o : Ob} (h : i < S.length) : (S.set i o)[i]? = some o := List.getElem?_set_self h
theorem lt_of_get05 {S : Os} {h : Nat} {o : Ob} (e : S[h]? = some o) : h < S.length := (List.getElem?_eq_some_iff.mp e).1
theorem Stk.lt {S : Os} {js : List Nat} {st : List (List PyData)} (h : Stk S js st) : ∀ j ∈ js, j < S.length := by
  induction h with
  | nil => intro j hj; cases hj
  | cons h1 _ _ _ ih =>
    intro j hj
    rcases List.mem_cons.mp hj with rfl | hj
    · exact lt_of_get05 h1
    · exact ih j hj
def sGrouped : Fs := fun ds S Q => S = [] ∧ ∃ ws : List Str, ds = [.dat (.list (ws.map PyData.str))] ∧ ws.length ≤ 801 ∧ (∀ w ∈ ws, w.length ≤ 900 ∧ strP w) ∧ match gfold ws [[]] with
  | some [g] => Q (.dat (.list g)) []
  | _ => Q (.dat .none) []
section
variable {P : Program} {w : World} {K : PySem.W.Frag} {mg : Str → Option Value} {base : Heap}
theorem cal_grouped (T : Tx K mg) : Cal P w K mg base 2 "grouped" (upF K (sGrouped)) := by
  refine T.grouped.calD f_grouped_sc (fun _ _ _ _ _ _ us hl => match us, hl with | [_], _ => rfl) (fun ds S Q h => by obtain ⟨_, _, rfl, _⟩ := h; rfl) _ (fun f cdv A outer s H E hr => (dss_cons (ds_set (ps_set (i := 1) f_grouped_sc.nd rfl (Or.inl rfl) (de_lstR1 (de_lstO da_nil))))
      (dss_cons (ds_for (ps_for PassesOwn.never rfl (di_row (de_var (pv 0))) (dg_name (pg_name (i := 2) f_grouped_sc.nd rfl (Or.inl rfl))) (dss_one (ds_if (dt_cmp (opr_eq hr.units) od_eq (de_var (pv 2)) de_str (nomark _)) (dss_one (ds_expr (de_appendR (pe_bm PySem.F.plainAttrs_list PySem.F.slot_list_append PySem.F.type_list_append mt_append (de_var (pv 1)) (pa_cons (de_lstO da_nil) pa_nil))))) (dss_one (ds_if (dt_cmp (opr_eq hr.units) od_eq (de_var (pv 2)) de_str (nomark _)) (dss_cons (ds_if (dt_cmp op_lt od_lt (de_callB call_len cd_lenR rfl T.n_len (by decide +kernel) (da_cons (de_var (pv 1)) da_nil)) de_int (nomark _)) (dss_one (ds_ret de_non)) dss_nil)
      (dss_cons (ds_set (ps_set (i := 3) f_grouped_sc.nd rfl (Or.inl rfl) (de_callTy call_tuple_of cd_tuple rfl T.n_tuple (by decide +kernel) (da_cons (de_popR (pe_bm0 PySem.F.plainAttrs_list PySem.F.slot_list_pop PySem.F.type_list_pop mt_pop (de_var (pv 1)))) da_nil))))
      (dss_one (ds_expr (de_append (pe_bm PySem.F.plainAttrs_list PySem.F.slot_list_append PySem.F.type_list_append mt_append (de_itemR (de_var (pv 1)) (de_neg de_int)) (pa_cons (de_var (pv 3)) pa_nil))))))) (dss_one (ds_expr (de_append (pe_bm PySem.F.plainAttrs_list PySem.F.slot_list_append PySem.F.type_list_append mt_append (de_itemR (de_var (pv 1)) (de_neg de_int)) (pa_cons (de_ifExp (dt_val (de_call (pe_c (cal_is_written_integer T) hr (by omega) rfl (da_cons (de_var (pv 2)) da_nil)))) (de_callTy cr_int cd_int rfl T.n_int (by decide +kernel) (da_cons (de_var (pv 2)) da_nil)) (de_var (pv 2))) pa_nil)))))))))))
      (dss_one (ds_ret (de_ifExp (dt_cmp (opr_eq hr.units) od_eq (de_callB call_len cd_lenR rfl T.n_len (by decide +kernel) (da_cons (de_var (pv 1)) da_nil)) de_int (nomark _)) (de_itemR (de_var (pv 1)) de_int) de_non)))))) fun ds S Q h => ?_
  obtain ⟨rfl, ws, rfl, hl, hw, q⟩ := h
  have gi0 : GI 2 0 1 [[]] := ⟨⟨1, by omega, by simp, fun g hg d hd => by rw [List.mem_singleton.mp hg] at hd; cases hd⟩, by simp, by simp [wgtA]⟩
  walk_at "rm_stp"
  refine loop_inv (fun xs ρ S => ∃ (rest : List Str) (st : List (List PyData)) (js : List Nat) (v2 v3 : Option D) (C m W : Nat), xs = (rest.map PyData.str).map .dat ∧ ρ = [some (D.dat (PyData.list (List.map PyData.str ws))), some (D.ref 1), v2, v3] ∧ S[1]? = some (.refs js.reverse) ∧ Stk S js st ∧ GI C m W st ∧ m + rest.length ≤ 801 ∧ C + rest.length ≤ 803 ∧ (∀ w ∈ rest, w.length ≤ 900 ∧ strP w) ∧
    st ≠ [] ∧ match gfold rest st with
      | some [g] => Q (.dat (.list g)) []
      | _ => Q (.dat .none) []) ⟨ws, [[]], [0], _, _, 2, 0, 1, rfl, rfl, rfl, .cons rfl (by decide) (by simp) .nil, gi0, by omega, by omega, hw, by simp, q⟩ (fun ρ S h => ?_) fun y r ρ S N h hN => ?_
  · obtain ⟨rest, st, js, v2, v3, C, m, W, e, rfl, h1, hS, gi, hm, hC, hw, hne, q⟩ := h
    have : rest = [] := by cases rest with | nil => rfl | cons a b => cases e
    subst this
    walk_at "rm_xac4ae972"
    cases hS with
    | nil => exact absurd rfl hne
    | cons a b c d =>
      rename_i j g js st
      cases d with
      | nil =>
        rw [if_pos (by rfl)]
        refine ⟨j, rfl, Nat.zero_le _, by simp, ?_⟩
        show if j < 0 then _ else match S[j]? with
          | some (.lst ds) => Q (.dat (.list ds)) (S.take 0)
          | some o => o.cl 0 = true ∧ Q (.ref 0) (S.take 0 ++ [o])
          | none => False
        rw [if_neg (Nat.not_lt_zero _), a]
        exact q
      | cons a2 b2 c2 d2 =>
        rw [if_neg (by simp; omega)]
        exact q
  · obtain ⟨rest, st, js, v2, v3, C, m, W, e, rfl, h1, hS, gi, hm, hC, hw, hne, q⟩ := h
    cases rest with
    | nil => cases e
    | cons x rest =>
      cases e
      walk_at "rm_xac4ae972"
      obtain ⟨w1, w2⟩ := hw x (by simp)
      simp only [List.length_cons] at hm hC
      have hl1 : js.length ≤ 803 := by
        obtain ⟨k, _, k2, _⟩ := gi.k
        rw [hS.len]
        omega
      have l1 := lt_of_get05 h1
      by_cases e1 : x = "("
      · rw [if_pos (by simpa using e1)]
        have hg : gst st x = some ([] :: st) := by unfold gst; rw [if_pos e1]
        have gi' := gi.step hg w1 w2 (by omega)
        rw [if_pos e1] at gi'
        have g1 : (S ++ [Ob.lst []])[1]? = some (.refs js.reverse) := by rw [List.getElem?_append_left l1]; exact h1
        refine ⟨⟨_, rfl⟩, js.reverse, g1, Nat.lt_of_le_of_lt (m := 803) (by simpa using hl1) (by decide), hN _ _ ⟨rest, [] :: st, S.length :: js, _, _, _, _, _, rfl, rfl, ?_, ?_, gi', by omega, by omega, fun w hw' => hw w (List.mem_cons_of_mem _ hw'), by simp, ?_⟩⟩
        · rw [set_eq (lt_of_get05 g1), List.reverse_cons]
        · refine .cons ?_ (by omega) (fun z => absurd (hS.lt _ z) (by omega)) (hS.mono fun j hj h1j => ?_)
          · rw [set_ne (by omega), List.getElem?_append_right (Nat.le_refl _), Nat.sub_self]
            rfl
          · rw [set_ne (by omega), List.getElem?_append_left (hS.lt j hj)]
        · unfold gfold at q
          rw [hg] at q
          exact q
      rw [if_neg (by simpa using e1)]
      by_cases e2 : x = ")"
      · rw [if_pos (by simpa using e2)]
        cases hS with
        | nil => exact absurd rfl hne
        | cons a b c d =>
          rename_i j g js st
          cases d with
          | nil =>
            rw [if_pos (by simp)]
            have hg : gst [g] x = none := by unfold gst; rw [if_neg e1, if_pos e2]; rfl
            unfold gfold at q
            rw [hg] at q
            exact q
          | cons a2 b2 c2 d2 =>
            rename_i j2 g2 js st
            rw [if_neg (by simp; omega)]
            have hg : gst (g :: g2 :: st) x = some ((g2 ++ [.tuple g]) :: st) := by unfold gst; rw [if_neg e1, if_pos e2]; rfl
            have gi' := gi.step hg w1 w2 (by omega)
            rw [if_neg e1] at gi'
            have r1 : (j :: j2 :: js).reverse = (j2 :: js).reverse ++ [j] := List.reverse_cons
            have r2 : (j2 :: js).reverse = js.reverse ++ [j2] := List.reverse_cons
            have g1 : (S.set 1 (.refs (j2 :: js).reverse))[1]? = some (.refs (j2 :: js).reverse) := set_eq l1
            have gj : (S.set 1 (.refs (j2 :: js).reverse))[j]? = some (.lst g) := by rw [set_ne (Ne.symm b)]; exact a
            have gj2 : (S.set 1 (.refs (j2 :: js).reverse))[j2]? = some (.lst g2) := by rw [set_ne (Ne.symm b2)]; exact a2
            have hlg : g2.length ≤ 803 := by
              have := gi.ic
              simp only [List.map_cons, List.sum_cons] at this
              omega
            refine ⟨j, by rw [r1, List.getLast?_concat], ?_⟩
            rw [show (j :: j2 :: js).reverse.dropLast = (j2 :: js).reverse by rw [r1, List.dropLast_concat]]
            refine ⟨.list g, by rw [gj], g, rfl, _, g1, j2, by rw [r2, List.getLast?_concat], ⟨g2, gj2⟩, g2, gj2, Nat.lt_of_le_of_lt hlg (by decide), hN _ _ ⟨rest, (g2 ++ [.tuple g]) :: st, j2 :: js, _, _, _, _, _, rfl, rfl, ?_, ?_, gi', by omega, by omega, fun w hw' => hw w (List.mem_cons_of_mem _ hw'), by simp, ?_⟩⟩
            · rw [set_ne b2]
              exact g1
            · refine .cons (set_eq (lt_of_get05 gj2)) b2 c2 (d2.mono fun k hk h1k => ?_)
              rw [set_ne (fun z => c2 (by rw [z]; exact hk)), set_ne (Ne.symm h1k)]
            · unfold gfold at q
              rw [hg] at q
              exact q
      · rw [if_neg (by simpa using e2)]
        cases hS with
        | nil => exact absurd rfl hne
        | cons a b c d =>
          rename_i j g js st
          have hg : gst (g :: st) x = some ((g ++ [item x]) :: st) := gst_word e1 e2 g st
          have gi' := gi.step hg w1 w2 (by omega)
          rw [if_neg e1] at gi'
          have r1 : (j :: js).reverse = js.reverse ++ [j] := List.reverse_cons
          have hlg : g.length ≤ 803 := by
            have := gi.ic
            simp only [List.map_cons, List.sum_cons] at this
            omega
          have nx : ∀ v2 v3, N [some (D.dat (PyData.list (List.map PyData.str ws))), some (D.ref 1), v2, v3] (S.set j (.lst (g ++ [item x]))) := fun v2 v3 => hN _ _ ⟨rest, (g ++ [item x]) :: st, j :: js, _, _, _, _, _, rfl, rfl, (by rw [set_ne b]; exact h1), .cons (set_eq (lt_of_get05 a)) b c (d.mono fun k hk h1k => by rw [set_ne (fun z => c (by rw [z]; exact hk))]), gi', by omega, by omega, fun w hw' => hw w (List.mem_cons_of_mem _ hw'), by simp, by
            unfold gfold at q
            rw [hg] at q
            exact q⟩
          refine ⟨j, by rw [r1, List.getLast?_concat], ⟨g, a⟩, callS_Pf.mpr ⟨x, rfl, by omega, _, rfl, ?_⟩⟩
          by_cases hwi : wi x = true
          · obtain ⟨z1, z2⟩ := wi_int_text hwi
            rw [if_pos hwi]
            refine ⟨_, z1, by omega, g, a, Nat.lt_of_le_of_lt hlg (by decide), ?_⟩
            have := nx (some (.dat (.str x))) v3
            unfold item at this
            rw [if_pos hwi] at this
            exact this
          · rw [if_neg hwi]
            refine ⟨g, a, Nat.lt_of_le_of_lt hlg (by decide), ?_⟩
            have := nx (some (.dat (.str x))) v3
            unfold item at this
            rw [if_neg hwi] at this
            exact this
def sReadV (K : PySem.W.Frag) : FsX := fun ds S Q xr => S = [] ∧ ∃ x : Str, ds = [.dat (.str x)] ∧ x.length ≤ 400 ∧ strP x ∧ cnt (tl x) ≤ 9 ∧ match readP 11 x with
  | some v => Q (.dat v) []
  | none => xr (He.ga K "BadValue") [("text", .str x)] []
theorem cal_read_value (T : Tx K mg) (FV : ExF P K mg "BadValue" x_BadValue_s ["text"]) : CalX P w K mg base 20 "read_value" (sReadV K) := by
  refine T.read_value.calXT f_read_value_sc (by decide +kernel) (by decide) (fun _ _ _ _ _ _ us hl => match us, hl with | [_], _ => rfl) (fun ds S Q xr h => by obtain ⟨_, _, rfl, _⟩ := h; rfl) _ (fun f cdv A outer s H E hr tk =>
    dsst_cons (PSTimp (pst_set (i := 1) f_read_value_sc.nd rfl (Or.inl rfl) (pet_c (cal_grouped T) hr (by omega) rfl (pat_cons (pet_split (CwR.pet_replT (CwR.pet_replC (pv 0))) pe_str) pat_nil))) words_up) (dss_cons (ds_if (PW.pt (dw_or (dt_cmp op_isN od_isN (de_var (pv 1)) de_non (nomark _)) (dw_or (dt_cmp (opr_ne hr.units) od_ne (de_callB call_len cd_len rfl T.n_len (by decide +kernel) (da_cons (de_var (pv 1)) da_nil)) de_int (nomark _)) (dw_or (dt_not (dt_val (de_call (pe_c (cal_is_value T 11 (by decide)) hr (by omega) rfl (da_cons (de_item (de_var (pv 1)) de_int) da_nil))))) (dw_or1 (dt_cmp (opr_ne hr.units) od_ne (de_call (pe_c (cal_value_text T 11) hr (by omega) rfl (da_cons (de_item (de_var (pv 1)) de_int) da_nil))) (de_var (pv 0)) (nomark _))))))) (dss_one (ds_raise (C0 := He.ga K "BadValue") rfl (exc_BadValue T FV) hr (by omega) rfl tk rfl (da_cons (de_var (pv 0)) da_nil))) dss_nil)
      (dss_one (ds_ret (de_item (de_var (pv 1)) de_int))))) fun ds S Q xr h => ?_
  obtain ⟨rfl, x, rfl, hl, hp, hc, q⟩ := h
  obtain ⟨f1, f2, f3, f4⟩ := words_facts hl hp
  refine ⟨x, rfl, by omega, ?_⟩
  have gi0 : GI 2 0 1 [[]] := ⟨⟨1, by omega, by simp, fun g hg d hd => by rw [List.mem_singleton.mp hg] at hd; cases hd⟩, by simp, by simp [wgtA]⟩
  have q0 := q
  unfold readP at q0
  refine callS_dat (fs := sGrouped) (ps := [.list ((wordsOf x).map PyData.str)]) ⟨rfl, wordsOf x, rfl, f1, f2, ?_⟩ fun Q1 Q2 h ⟨e, ws, h1, h2, h3, q⟩ => ⟨e, ws, h1, h2, h3, by revert q; split <;> exact h _ _⟩
  have bad : ∀ (v : Option D), readP 11 x = none → finX 0 xr (He.ga K "BadValue") [("text", .str x)] [some (.dat (.str x)), v] [] := fun v e => by
    rw [e] at q
    exact ⟨Nat.le_refl _, rfl, q⟩
  have bad : ∀ (v : Option D), readP 11 x = none → ∃ ps : List PyData, [D.dat (PyData.str x)] = List.map D.dat ps ∧ ps.length = 1 ∧ ps.all flatP = true ∧ finX 0 xr (He.ga K (Str.ofString "BadValue")) ([Str.ofString "text"].zip ps).reverse [some (D.dat (PyData.str x)), v] [] := fun v e => ⟨[.str x], rfl, rfl, rfl, bad v e⟩
  cases hg : gfold (wordsOf x) [[]] with
  | none =>
    refine ⟨rfl, ⟨_, rfl⟩, ?_⟩
    walk_at "rm_xc97208c3"
    exact bad _ (by unfold readP; rw [hg])
  | some st =>
    match st, hg with
    | [], hg =>
      refine ⟨rfl, ⟨_, rfl⟩, ?_⟩
      walk_at "rm_xc97208c3"
      exact bad _ (by unfold readP; rw [hg])
    | _ :: _ :: _, hg =>
      refine ⟨rfl, ⟨_, rfl⟩, ?_⟩
      walk_at "rm_xc97208c3"
      exact bad _ (by
        unfold readP
        rw [hg]
        split
        · rename_i e
          cases e
        · rfl)
    | [g], hg =>
      refine ⟨rfl, ⟨_, rfl⟩, ?_⟩
      have gi := GI.fold gi0 hg f2 (by omega)
      walk_at "rm_xc97208c3"
      by_cases h1 : g.length = 1
      · obtain ⟨v, rfl⟩ : ∃ v, g = [v] := List.length_eq_one_iff.mp h1
        rw [if_neg (by simp)]
        obtain ⟨k, k1, k2, k3⟩ := gi.k
        have ov : OE 11 v := (k3 [v] (by simp) v (by simp)).mono (by simp only [List.length_singleton] at k2; omega)
        have hw : wgt v ≤ 40000 := by
          have := gi.w
          simp only [List.map_cons, List.map_nil, List.sum_cons, List.sum_nil, wgtA] at this
          omega
        refine ⟨v, rfl, callS_Pf.mpr ⟨v, rfl, ov, _, rfl, ?_⟩⟩
        by_cases h2 : isVb 11 v = true
        · rw [if_neg (by simp [h2])]
          refine ⟨v, rfl, callS_Pf.mpr ⟨v, rfl, ⟨h2, hw⟩, _, rfl, .inl ⟨rfl, rfl⟩, ?_⟩⟩
          rw [eqv_ss]
          by_cases h3 : txt 11 v = x
          · rw [if_neg (by simp [h3])]
            have e : readP 11 x = some v := by unfold readP; rw [hg]; dsimp only; rw [if_pos ⟨h2, h3⟩]
            rw [e] at q
            exact ⟨v, rfl, q⟩
          · rw [if_pos (by simpa using h3)]
            exact bad _ (by unfold readP; rw [hg]; dsimp only; rw [if_neg (fun z => h3 z.2)])
        · rw [if_pos (by simpa using h2)]
          exact bad _ (by unfold readP; rw [hg]; dsimp only; rw [if_neg (fun z => h2 z.1)])
      · rw [if_pos (by simp; omega)]
        refine bad _ ?_
        unfold readP
        rw [hg]
        match g, h1 with
        | [], _ => rfl
        | [v], h1 => exact absurd rfl h1
        | _ :: _ :: _, _ => rfl
end
end Rm

set_option Elab.async false
set_option linter.all false
set_option maxRecDepth 100000
set_option maxHeartbeats 4000000
local macro_rules | `(tactic| walk_at "rm_xfdff8218") => `(tactic| ((repeat (first | simp only [hrd, strsL, rowP, flatP, ↓sSeq, ↓sNext, ↓sDrop, ↓sRet, ↓sRetN, ↓sIf, ↓sAsg, ↓sAug, ↓sPar, ↓sFrz, ↓sBreak, ↓sCont, ↓sFor, ↓dgName, ↓dgTup, ↓dgCons, ↓dgNil, ↓dgSub, ↓dVar, ↓dC, ↓dNil, ↓dCons, ↓dTup, ↓dLst, ↓dLstO, ↓dats, ↓dOp, ↓dUn, ↓dCB, ↓dT, ↓dAnd, ↓dOr, ↓dNot, ↓dAndV, ↓dOrV, ↓dNotV, ↓dIf, ↓dChain, ↓rAdd, ↓rInts, ↓rSub, ↓rMod, ↓rFdiv, ↓rMul, ↓rNeg, ↓rEqB, ↓rLt, ↓rLe, ↓rGt, ↓rGe, ↓rIsN, ↓rInB, ↓rIxD, ↓dSl, ↓dPart, ↓dNoPart, ↓cLen, ↓cInt, ↓cStr, ↓cAbs, ↓cMin, ↓cMax, ↓cAll, ↓cAny, ↓cSum, ↓cList, ↓cListO, ↓cTuple, ↓dIsi, ↓dSplit, ↓dJoin, ↓dAppend, ↓dPop, ↓dExtend, ↓dCall, ↓callS_Pf, ↓iRow, ↓iRan1, ↓iRan2, ↓iEnu, ↓iZp, ↓iZpM, ↓sPar3, ↓dDget1, ↓dDget2, ↓sDputD, ↓dDnew, ↓dSplitO, ↓rInTd, ↓dLstR1, ↓cSumLR, ↓xE, ↓xA, ↓xF, ↓xCons, ↓xTup, ↓xCB, ↓xMeth, ↓dIsX, ↓sAsgX, ↓sDropX, ↓sRetX, ↓sTry, ↓dCallX, ↓dXf, startD, List.map_cons, List.map_nil, List.cons_append, List.nil_append, List.length_cons, List.length_nil, List.replicate, List.set_cons_zero, List.set_cons_succ, List.getElem?_cons_zero, List.getElem?_cons_succ, List.getElem?_nil, Option.map_some, Option.some.injEq, D.dat.injEq, D.ref.injEq, PyData.int.injEq, PyData.bool.injEq, PyData.str.injEq, PyData.list.injEq, PyData.tuple.injEq, exists_and_left, exists_eq_left, exists_eq_left', exists_eq, exists_const, if_true, if_false, Bool.not_true, Bool.not_false, Bool.false_eq_true, ↓reduceIte, List.cons.injEq, and_true, true_and, List.take_nil, List.take_zero, List.all_nil, List.length_map, Nat.le_refl, Nat.zero_le, Nat.reduceSub, Nat.reduceAdd, Nat.sub_self, ge_iff_le, Nat.lt_irrefl, reduceCtorEq, false_and, and_false, or_false, false_or, or_true, true_or, rd_dat, ↓dLenSet, ↓dDisp, ↓dDispL, ↓cStr2, strQ_int, strQ_str, strB_int, strB_str, ↓dPopI, ↓cLenR, ↓rAddO, ↓cSumL, ↓cSumLO, ↓dAppendR, ↓dPopR, ↓rIxR, ↓dLstR, ↓cDict, ↓dDin, ↓dDget, Ob.ins.injEq, Ob.lst.injEq, Ob.spr.injEq, Ob.dk.injEq, Ob.refs.injEq, ↓dFld, ↓sFldD, ↓dMeth, ↓dMake, ↓dCallW, ↓dLc, rowP_str, ↓wipeD, Tg.own, Tg.put, ↓setsD, exists_false, rd_ref, isN_int, isN_str, isN_bl, isN_non, isN_lst, isN_tup, isN_ref, flatP_int, flatP_str, flatP_bl, flatP_non, lenP_str, lenP_lst, lenP_tup, rowP_lst, rowP_tup, itP_lst, itP_tup, itP_str, ixB_str, ixB_lst, ixB_tup, slP_lst, slP_tup, slP_str, atP_lst, atP_tup, addP_int, addP_str, addP_lst, addP_tup, addB_int, addB_str, addB_lst, addB_tup, fin0, eqOk_ss, eqOk_ii, eqv_ss, eqv_ii, atI_0, atI_1, atI_2, atI_3, atI_4, atI_5, atI_6, atI_7, cutP_f1, cutP_f2, cutP_f3, cutP_f4, cutP_f5, cutP_t1, cutP_t2, cutP_t3, cutP_t4, cutP_t5, atI_last', and_assoc, List.drop_succ_cons, List.drop_zero, List.take_succ_cons, f_pow30, f_pow29, f_pow15, ↓dTried, toldD_dat, toldD_ref, ↓dIsK, ↓dXk, ↓rIxK, itmK_0, itmK_1, D.tupK.injEq, D.exk.injEq, ↓dgTupK, tupX_dat, tupX_K, fin1_s, fin2_sl] | ((with_reducible refine Exists.intro ?w (And.intro ?h ?_)); case h => exact rfl) | ((with_reducible refine And.intro ?h ?_); case h => exact ⟨_, rfl⟩) | ((with_reducible refine And.intro ?h ?_); case h => first | exact trivial | exact rfl | decide | omega | (exact eqOk_flat rfl rfl) | (refine Nat.le_trans (m := 1000000) ?_ (by decide); (try simp only [List.length_append, List.length_cons, List.length_nil, List.length_map]); omega) | (refine Nat.lt_of_le_of_lt (m := 1000000) ?_ (by decide); (try simp only [List.length_append, List.length_cons, List.length_nil, List.length_map]); omega))))))
local macro_rules | `(tactic| walk_at "rm_x84fbce17") => `(tactic| ((repeat (first | simp only [sResv, ↓sSeq, ↓sNext, ↓sDrop, ↓sRet, ↓sRetN, ↓sIf, ↓sAsg, ↓sAug, ↓sPar, ↓sFrz, ↓sBreak, ↓sCont, ↓sFor, ↓dgName, ↓dgTup, ↓dgCons, ↓dgNil, ↓dgSub, ↓dVar, ↓dC, ↓dNil, ↓dCons, ↓dTup, ↓dLst, ↓dLstO, ↓dats, ↓dOp, ↓dUn, ↓dCB, ↓dT, ↓dAnd, ↓dOr, ↓dNot, ↓dAndV, ↓dOrV, ↓dNotV, ↓dIf, ↓dChain, ↓rAdd, ↓rInts, ↓rSub, ↓rMod, ↓rFdiv, ↓rMul, ↓rNeg, ↓rEqB, ↓rLt, ↓rLe, ↓rGt, ↓rGe, ↓rIsN, ↓rInB, ↓rIxD, ↓dSl, ↓dPart, ↓dNoPart, ↓cLen, ↓cInt, ↓cStr, ↓cAbs, ↓cMin, ↓cMax, ↓cAll, ↓cAny, ↓cSum, ↓cList, ↓cListO, ↓cTuple, ↓dIsi, ↓dSplit, ↓dJoin, ↓dAppend, ↓dPop, ↓dExtend, ↓dCall, ↓callS_Pf, ↓iRow, ↓iRan1, ↓iRan2, ↓iEnu, ↓iZp, ↓iZpM, ↓sPar3, ↓dDget1, ↓dDget2, ↓sDputD, ↓dDnew, ↓dSplitO, ↓rInTd, ↓dLstR1, ↓cSumLR, ↓xE, ↓xA, ↓xF, ↓xCons, ↓xTup, ↓xCB, ↓xMeth, ↓dIsX, ↓sAsgX, ↓sDropX, ↓sRetX, ↓sTry, ↓dCallX, ↓dXf, startD, List.map_cons, List.map_nil, List.cons_append, List.nil_append, List.length_cons, List.length_nil, List.replicate, List.set_cons_zero, List.set_cons_succ, List.getElem?_cons_zero, List.getElem?_cons_succ, List.getElem?_nil, Option.map_some, Option.some.injEq, D.dat.injEq, D.ref.injEq, PyData.int.injEq, PyData.bool.injEq, PyData.str.injEq, PyData.list.injEq, PyData.tuple.injEq, exists_and_left, exists_eq_left, exists_eq_left', exists_eq, exists_const, if_true, if_false, Bool.not_true, Bool.not_false, Bool.false_eq_true, ↓reduceIte, List.cons.injEq, and_true, true_and, List.take_nil, List.take_zero, List.all_nil, List.length_map, Nat.le_refl, Nat.zero_le, Nat.reduceSub, Nat.reduceAdd, Nat.sub_self, ge_iff_le, Nat.lt_irrefl, reduceCtorEq, false_and, and_false, or_false, false_or, or_true, true_or, rd_dat, ↓dLenSet, ↓dDisp, ↓dDispL, ↓cStr2, strQ_int, strQ_str, strB_int, strB_str, ↓dPopI, ↓cLenR, ↓rAddO, ↓cSumL, ↓cSumLO, ↓dAppendR, ↓dPopR, ↓rIxR, ↓dLstR, ↓cDict, ↓dDin, ↓dDget, Ob.ins.injEq, Ob.lst.injEq, Ob.spr.injEq, Ob.dk.injEq, Ob.refs.injEq, ↓dFld, ↓sFldD, ↓dMeth, ↓dMake, ↓dCallW, ↓dLc, rowP_str, ↓wipeD, Tg.own, Tg.put, ↓setsD, exists_false, rd_ref, isN_int, isN_str, isN_bl, isN_non, isN_lst, isN_tup, isN_ref, flatP_int, flatP_str, flatP_bl, flatP_non, lenP_str, lenP_lst, lenP_tup, rowP_lst, rowP_tup, itP_lst, itP_tup, itP_str, ixB_str, ixB_lst, ixB_tup, slP_lst, slP_tup, slP_str, atP_lst, atP_tup, addP_int, addP_str, addP_lst, addP_tup, addB_int, addB_str, addB_lst, addB_tup, fin0, eqOk_ss, eqOk_ii, eqv_ss, eqv_ii, atI_0, atI_1, atI_2, atI_3, atI_4, atI_5, atI_6, atI_7, cutP_f1, cutP_f2, cutP_f3, cutP_f4, cutP_f5, cutP_t1, cutP_t2, cutP_t3, cutP_t4, cutP_t5, atI_last', and_assoc, List.drop_succ_cons, List.drop_zero, List.take_succ_cons, f_pow30, f_pow29, f_pow15, ↓dTried, toldD_dat, toldD_ref, ↓dIsK, ↓dXk, ↓rIxK, itmK_0, itmK_1, D.tupK.injEq, D.exk.injEq, ↓dgTupK, tupX_dat, tupX_K, fin1_s, fin2_sl] | ((with_reducible refine Exists.intro ?w (And.intro ?h ?_)); case h => exact rfl) | ((with_reducible refine And.intro ?h ?_); case h => exact ⟨_, rfl⟩) | ((with_reducible refine And.intro ?h ?_); case h => first | exact trivial | exact rfl | decide | omega | (exact eqOk_flat rfl rfl) | (refine Nat.le_trans (m := 1000000) ?_ (by decide); (try simp only [List.length_append, List.length_cons, List.length_nil, List.length_map]); omega) | (refine Nat.lt_of_le_of_lt (m := 1000000) ?_ (by decide); (try simp only [List.length_append, List.length_cons, List.length_nil, List.length_map]); omega))))))
local macro_rules | `(tactic| walk_at "rm_xde606bb4") => `(tactic| ((repeat (first | simp only [sResv, isT_str, inP_str, resv_same, ↓sSeq, ↓sNext, ↓sDrop, ↓sRet, ↓sRetN, ↓sIf, ↓sAsg, ↓sAug, ↓sPar, ↓sFrz, ↓sBreak, ↓sCont, ↓sFor, ↓dgName, ↓dgTup, ↓dgCons, ↓dgNil, ↓dgSub, ↓dVar, ↓dC, ↓dNil, ↓dCons, ↓dTup, ↓dLst, ↓dLstO, ↓dats, ↓dOp, ↓dUn, ↓dCB, ↓dT, ↓dAnd, ↓dOr, ↓dNot, ↓dAndV, ↓dOrV, ↓dNotV, ↓dIf, ↓dChain, ↓rAdd, ↓rInts, ↓rSub, ↓rMod, ↓rFdiv, ↓rMul, ↓rNeg, ↓rEqB, ↓rLt, ↓rLe, ↓rGt, ↓rGe, ↓rIsN, ↓rInB, ↓rIxD, ↓dSl, ↓dPart, ↓dNoPart, ↓cLen, ↓cInt, ↓cStr, ↓cAbs, ↓cMin, ↓cMax, ↓cAll, ↓cAny, ↓cSum, ↓cList, ↓cListO, ↓cTuple, ↓dIsi, ↓dSplit, ↓dJoin, ↓dAppend, ↓dPop, ↓dExtend, ↓dCall, ↓callS_Pf, ↓iRow, ↓iRan1, ↓iRan2, ↓iEnu, ↓iZp, ↓iZpM, ↓sPar3, ↓dDget1, ↓dDget2, ↓sDputD, ↓dDnew, ↓dSplitO, ↓rInTd, ↓dLstR1, ↓cSumLR, ↓xE, ↓xA, ↓xF, ↓xCons, ↓xTup, ↓xCB, ↓xMeth, ↓dIsX, ↓sAsgX, ↓sDropX, ↓sRetX, ↓sTry, ↓dCallX, ↓dXf, startD, List.map_cons, List.map_nil, List.cons_append, List.nil_append, List.length_cons, List.length_nil, List.replicate, List.set_cons_zero, List.set_cons_succ, List.getElem?_cons_zero, List.getElem?_cons_succ, List.getElem?_nil, Option.map_some, Option.some.injEq, D.dat.injEq, D.ref.injEq, PyData.int.injEq, PyData.bool.injEq, PyData.str.injEq, PyData.list.injEq, PyData.tuple.injEq, exists_and_left, exists_eq_left, exists_eq_left', exists_eq, exists_const, if_true, if_false, Bool.not_true, Bool.not_false, Bool.false_eq_true, ↓reduceIte, List.cons.injEq, and_true, true_and, List.take_nil, List.take_zero, List.all_nil, List.length_map, Nat.le_refl, Nat.zero_le, Nat.reduceSub, Nat.reduceAdd, Nat.sub_self, ge_iff_le, Nat.lt_irrefl, reduceCtorEq, false_and, and_false, or_false, false_or, or_true, true_or, rd_dat, ↓dLenSet, ↓dDisp, ↓dDispL, ↓cStr2, strQ_int, strQ_str, strB_int, strB_str, ↓dPopI, ↓cLenR, ↓rAddO, ↓cSumL, ↓cSumLO, ↓dAppendR, ↓dPopR, ↓rIxR, ↓dLstR, ↓cDict, ↓dDin, ↓dDget, Ob.ins.injEq, Ob.lst.injEq, Ob.spr.injEq, Ob.dk.injEq, Ob.refs.injEq, ↓dFld, ↓sFldD, ↓dMeth, ↓dMake, ↓dCallW, ↓dLc, rowP_str, ↓wipeD, Tg.own, Tg.put, ↓setsD, exists_false, rd_ref, isN_int, isN_str, isN_bl, isN_non, isN_lst, isN_tup, isN_ref, flatP_int, flatP_str, flatP_bl, flatP_non, lenP_str, lenP_lst, lenP_tup, rowP_lst, rowP_tup, itP_lst, itP_tup, itP_str, ixB_str, ixB_lst, ixB_tup, slP_lst, slP_tup, slP_str, atP_lst, atP_tup, addP_int, addP_str, addP_lst, addP_tup, addB_int, addB_str, addB_lst, addB_tup, fin0, eqOk_ss, eqOk_ii, eqv_ss, eqv_ii, atI_0, atI_1, atI_2, atI_3, atI_4, atI_5, atI_6, atI_7, cutP_f1, cutP_f2, cutP_f3, cutP_f4, cutP_f5, cutP_t1, cutP_t2, cutP_t3, cutP_t4, cutP_t5, atI_last', and_assoc, List.drop_succ_cons, List.drop_zero, List.take_succ_cons, f_pow30, f_pow29, f_pow15, ↓dTried, toldD_dat, toldD_ref, ↓dIsK, ↓dXk, ↓rIxK, itmK_0, itmK_1, D.tupK.injEq, D.exk.injEq, ↓dgTupK, tupX_dat, tupX_K, fin1_s, fin2_sl] | ((with_reducible refine Exists.intro ?w (And.intro ?h ?_)); case h => exact rfl) | ((with_reducible refine And.intro ?h ?_); case h => exact ⟨_, rfl⟩) | ((with_reducible refine And.intro ?h ?_); case h => first | exact trivial | exact rfl | decide | omega | (exact eqOk_flat rfl rfl) | (refine Nat.le_trans (m := 1000000) ?_ (by decide); (try simp only [List.length_append, List.length_cons, List.length_nil, List.length_map]); omega) | (refine Nat.lt_of_le_of_lt (m := 1000000) ?_ (by decide); (try simp only [List.length_append, List.length_cons, List.length_nil, List.length_map]); omega))))))
namespace Rm
open PySem PySem.Spec PyProof.Rows L2
section
variable {P : Program} {w : World} {K : PySem.W.Frag} {mg : Str → Option Value} {base : Heap}
theorem cal_draw0 (F : Df K mg "_law_draw" f_law_draw_s) : Cal P w K mg base 1 "_law_draw" spDraw := by
  refine F.cal f_law_draw_sc (fun _ _ _ _ _ _ us hl => match us, hl with | [_, _], _ => rfl) (fun vs H Q E h => ?_) (fun f cdv A outer s H vs Q E hr h => ?_)
  · obtain ⟨st, sl, c, n, rfl, _⟩ := h
    rfl
  obtain ⟨st, sl, c, n, rfl, hk, hc, hn0, hn1, q⟩ := h
  refine ⟨_, (pss_cons (ps_asg (pe_op op_add (pe_ix ix_list (pv 0) pe_int (fun _ _ => rfl)) pe_int) (pg_sub (pv 0) pe_int set_list))
      (C8.pss_cut (ps_if (PW.pt (pw_and (pt_cmpR op_eq (pe_ix ix_list (pv 0) pe_int (fun _ _ => rfl)) pe_int (nomark _)) (pw_and1 (pt_cmpR (op_neD hr.units) (pe_ix ix_list (pv 0) pe_int (fun _ _ => rfl)) (pe_lst pa_nil) (nomark _))))) (pss_cons (ps_asg (pe_bm PySem.F.plainAttrs_list PySem.F.slot_list_pop PySem.F.type_list_pop mt_popAt (pe_ix ix_list (pv 0) pe_int (fun _ _ => rfl)) (pa_cons pe_int pa_nil)) (pg_sub (pv 0) pe_int set_list))
      (pss_one (ps_if (pt_cmpR op_lt (pe_ix ix_list (pv 0) pe_int (fun _ _ => rfl)) (pe_op op_pow pe_int pe_int) (nomark _)) (pss_cons (ps_asg (pe_op op_mod (pe_op op_add (pe_op op_add (pe_op op_mul (pe_ix ix_list (pv 0) pe_int (fun _ _ => rfl)) pe_int) (pe_ix ix_list (pv 0) pe_int (fun _ _ => rfl))) pe_int) pe_int) (pg_sub (pv 0) pe_int set_list))
      (pss_one (ps_asg pe_int (pg_sub (pv 0) pe_int set_list)))) pss_nil))) pss_nil)
      (pss_cons (ps_if (pt_cmpR op_gt (pe_ix ix_list (pv 0) pe_int (fun _ _ => rfl)) pe_int (nomark _)) (pss_cons (ps_set (i := 2) f_law_draw_sc.nd rfl (Or.inl rfl) (pe_op op_mod (pe_ix ix_list (pv 0) pe_int (fun _ _ => rfl)) (pv 1)))
      (pss_cons (ps_asg (pe_op op_fdiv (pe_ix ix_list (pv 0) pe_int (fun _ _ => rfl)) (pv 1)) (pg_sub (pv 0) pe_int set_list))
      (pss_one (ps_ret (pv 2))))) pss_nil)
      (pss_cons (ps_set (i := 3) f_law_draw_sc.nd rfl (Or.inl rfl) (pe_op op_mod (pe_op op_pow (pe_op op_add (pe_op op_add (pe_ix ix_list (pv 0) pe_int (fun _ _ => rfl)) (pe_op op_mul pe_int (pe_ix ix_list (pv 0) pe_int (fun _ _ => rfl)))) pe_int) pe_int) pe_int))
      (pss_one (ps_ret (pe_op op_mod (pe_op op_mod (pe_op op_pow (pe_op op_add (pe_op op_add (pe_op op_mul (pv 3) pe_int) (pe_op op_mul (pe_op op_mul pe_int (pe_ix ix_list (pv 0) pe_int (fun _ _ => rfl))) (pe_ix ix_list (pv 0) pe_int (fun _ _ => rfl)))) pe_int) pe_int) pe_int) (pv 1)))))))), ?_⟩
  obtain ⟨ne, r, m, ns, e1, e2, r0, m0, m1, l63⟩ := hk
  have k1 : Keep st sl H (upd H st (.lst [.ref sl, .int r, .int (c + 1), .int m])) := .of fun b o h1 h2 e => by rw [upd_ne h1]; exact e
  have f1 : upd H st (.lst [.ref sl, .int r, .int (c + 1), .int m]) st = some (.lst [.ref sl, .int r, .int (c + 1), .int m]) := upd_same
  have f2 : upd H st (.lst [.ref sl, .int r, .int (c + 1), .int m]) sl = some (.lst (ns.map V.int)) := by rw [upd_ne ne.symm]; exact e2
  refine ⟨_, rfl, st, _, _, _, rfl, rfl, SqL.of e1, rfl, _, _, rfl, rfl, _, rfl, st, _, _, _, rfl, rfl, e1, rfl, ?_⟩
  show (C8.tCut _ _) _ _ (upd H st (.lst [.ref sl, .int r, .int (c + 1), .int m]))
  generalize upd H st (.lst [.ref sl, .int r, .int (c + 1), .int m]) = H1 at k1 f1 f2 ⊢
  -- the if: behind it the spring holds numbers within their bounds
  refine ⟨fun σ' H' => σ' = [some (.ref st), some (.int n), none, none] ∧ Keep st sl H H' ∧ ∃ (r m : Int) (ns : List Int), H' st = some (.lst [.ref sl, .int r, .int (c + 1), .int m]) ∧ H' sl = some (.lst (ns.map V.int)) ∧ 0 ≤ r ∧ 0 ≤ m ∧ m < 2147483647 ∧ ns.length ≤ 63, ?_, ?_⟩
  · have nx : ∀ H', Keep st sl H H' → H' st = some (.lst [.ref sl, .int r, .int (c + 1), .int m]) → H' sl = some (.lst (ns.map V.int)) → [some (.ref st), some (.int n), none, none] = [some (.ref st), some (.int n), (none : Option V), none] ∧ Keep st sl H H' ∧ ∃ (r m : Int) (ns : List Int), H' st = some (.lst [.ref sl, .int r, .int (c + 1), .int m]) ∧ H' sl = some (.lst (ns.map V.int)) ∧ 0 ≤ r ∧ 0 ≤ m ∧ m < 2147483647 ∧ ns.length ≤ 63 := fun H' a b d => ⟨rfl, a, r, m, ns, b, d, r0, m0, m1, l63⟩
    refine ⟨_, rfl, st, _, _, _, rfl, rfl, SqL.of f1, rfl, rfl, _, rfl, ite2 (fun e => ?_) (fun e => ?_)⟩
    · refine ⟨_, rfl, st, _, _, _, rfl, rfl, SqL.of f1, rfl, Nat.zero_le _, fun p hp => ?_⟩
      have g1 := same_new hp (.lst []) _ _ f1
      have g2 := same_new hp (.lst []) _ _ f2
      have kp := k1.trans (Keep.new (st := st) (sl := sl) (o := .lst []) hp)
      have g3 : upd H1 p (.lst []) p = some (.lst []) := upd_same
      generalize upd H1 p (.lst []) = H2 at g1 g2 g3 kp ⊢
      refine ⟨.list (ns.map PyData.int), .list [], .lst (SqL.of g2) (dp_ints ns), .lst (SqL.of g3) .nil, shaped_ints ns, shaped_ints [], _, rfl, ?_⟩
      rw [eqv_ints_nil]
      cases ns with
      | nil => exact iteF (nx _ kp g1 g2)
      | cons z zs =>
        refine iteT ?_
        have g4 : upd H2 sl (.lst (zs.map V.int)) st = some (.lst [.ref sl, .int r, .int (c + 1), .int m]) := by rw [upd_ne ne]; exact g1
        have g5 : upd H2 sl (.lst (zs.map V.int)) sl = some (.lst (zs.map V.int)) := upd_same
        have k2 : Keep st sl H (upd H2 sl (.lst (zs.map V.int))) := kp.trans (Keep.of fun b o _ h e => by rw [upd_ne h]; exact e)
        have g2' : H2 sl = some (.lst (V.int z :: zs.map V.int)) := g2
        refine ⟨_, rfl, st, _, _, _, rfl, rfl, SqL.of g1, rfl, .inl ⟨rfl, _, SqL.of g2⟩, sl, _, 0, 0, .int z, rfl, rfl, g2', by decide, by decide, (by rw [List.length_cons]; exact seqIx0 _), rfl, _, rfl, st, _, _, _, rfl, rfl, g4, rfl, ?_⟩
        dsimp only
        refine (?_ : tIfS _ _ _ _ _ (upd (upd H2 sl (.lst (zs.map V.int))) st (.lst [.ref sl, .int z, .int (c + 1), .int m])))
        generalize upd H2 sl (.lst (zs.map V.int)) = H3 at g4 g5 k2 ⊢
        have g6 : upd H3 st (.lst [.ref sl, .int z, .int (c + 1), .int m]) st = some (.lst [.ref sl, .int z, .int (c + 1), .int m]) := upd_same
        have g7 : upd H3 st (.lst [.ref sl, .int z, .int (c + 1), .int m]) sl = some (.lst (zs.map V.int)) := by rw [upd_ne ne.symm]; exact g5
        have k3 : Keep st sl H (upd H3 st (.lst [.ref sl, .int z, .int (c + 1), .int m])) := k2.trans (Keep.of fun b o h _ e => by rw [upd_ne h]; exact e)
        generalize upd H3 st (.lst [.ref sl, .int z, .int (c + 1), .int m]) = H4 at g6 g7 k3 ⊢
        refine ⟨_, rfl, st, _, _, _, rfl, rfl, SqL.of g6, rfl, _, _, rfl, rfl, ⟨by decide, by decide, by decide⟩, _, _, rfl, rfl, _, rfl, ite2 (fun hz => ?_) (fun hz => ?_)⟩
        · refine ⟨_, rfl, st, _, _, _, rfl, rfl, SqL.of g6, rfl, _, _, rfl, rfl, .inr ⟨by decide, by decide⟩, _, rfl, st, _, _, _, rfl, rfl, SqL.of g6, rfl, _, _, rfl, rfl, _, _, rfl, rfl, _, _, rfl, rfl, (by show (0 : Int) < 2147483647; decide), _, rfl, st, _, _, _, rfl, rfl, g6, rfl, ?_⟩
          dsimp only
          show (tAsg _ _) _ _ (upd H4 st (.lst [.ref sl, .int z, .int (c + 1), .int ((m * 31 + z + 7) % 2147483647)]))
          have b1 : 0 ≤ (m * 31 + z + 7) % 2147483647 := Int.emod_nonneg _ (by decide)
          have b2 : (m * 31 + z + 7) % 2147483647 < 2147483647 := Int.emod_lt_of_pos _ (by decide)
          generalize (m * 31 + z + 7) % 2147483647 = m' at b1 b2 ⊢
          refine ⟨_, rfl, st, _, _, _, rfl, rfl, upd_same, rfl, ?_⟩
          refine ⟨rfl, k3.trans (Keep.of fun b o h _ e => ?_), 0, m', zs, upd_same, ?_, Int.le_refl _, b1, b2, Nat.le_of_succ_le l63⟩
          · rw [upd_ne h, upd_ne h]
            exact e
          · rw [upd_ne ne.symm, upd_ne ne.symm]
            exact g7
        · refine ⟨rfl, k3, z, m, zs, g6, g7, ?_, m0, m1, Nat.le_of_succ_le l63⟩
          have := of_decide_eq_false (Bool.eq_false_iff.mpr hz)
          have h18 : (0 : Int) ≤ 10 ^ 18 := by decide
          have h19 : ¬ z < (10 : Int) ^ 18 := this
          omega
    · exact nx _ k1 f1 f2
  · -- the answer
    rintro σ' H' ⟨rfl, k2, r', m', ns', g1, g2, r0', m0', m1', l63'⟩
    clear k1 f1 f2 e1 e2
    refine ⟨_, rfl, st, _, _, _, rfl, rfl, SqL.of g1, rfl, _, _, rfl, rfl, _, rfl, ite2 (fun hz => ?_) (fun hz => ?_)⟩
    · have hz' : 0 < r' := of_decide_eq_true hz
      refine ⟨_, rfl, st, _, _, _, rfl, rfl, SqL.of g1, rfl, _, rfl, _, _, rfl, rfl, hn0, ?_⟩
      refine ⟨_, rfl, st, _, _, _, rfl, rfl, SqL.of g1, rfl, _, rfl, _, _, rfl, rfl, ⟨hn0, hn1⟩, _, rfl, st, _, _, _, rfl, rfl, g1, rfl, ?_⟩
      refine ⟨_, rfl, q _ _ (Int.emod_nonneg _ (by omega)) (Int.emod_lt_of_pos _ hn0) ⟨ne, r' / n, m', ns', upd_same, ?_, Int.ediv_nonneg r0' (by omega), m0', m1', l63'⟩ (k2.trans (Keep.of fun b o h _ e => ?_))⟩
      · rw [upd_ne ne.symm]
        exact g2
      · rw [upd_ne h]
        exact e
    · refine ⟨_, rfl, st, _, _, _, rfl, rfl, SqL.of g1, rfl, _, rfl, st, _, _, _, rfl, rfl, SqL.of g1, rfl, _, _, rfl, rfl, .inl ⟨by decide, by decide⟩, _, _, rfl, rfl, _, _, rfl, rfl, _, _, rfl, rfl, ⟨by decide, by decide, ?_⟩, _, _, rfl, rfl, (by show (0 : Int) < 2147483629; decide), ?_⟩
      · show (m' + 104729 * ((c : Int) + 1) + 17).natAbs < 2 ^ 64
        omega
      have b1 : 0 ≤ ((m' + 104729 * ((c : Int) + 1) + 17) ^ (5 : Int).toNat) % 2147483629 := Int.emod_nonneg _ (by decide)
      have b2 : ((m' + 104729 * ((c : Int) + 1) + 17) ^ (5 : Int).toNat) % 2147483629 < 2147483629 := Int.emod_lt_of_pos _ (by decide)
      dsimp only [gName]
      show (tRet _) _ ([some (.ref st), some (.int n), none, some (.int (((m' + 104729 * ((c : Int) + 1) + 17) ^ (5 : Int).toNat) % 2147483629))]) H'
      generalize ((m' + 104729 * ((c : Int) + 1) + 17) ^ (5 : Int).toNat) % 2147483629 = x at b1 b2 ⊢
      refine ⟨_, rfl, _, _, rfl, rfl, .inr ⟨by decide, by decide⟩, _, rfl, st, _, _, _, rfl, rfl, SqL.of g1, rfl, _, _, rfl, rfl, .inl ⟨by decide, by decide⟩, _, rfl, st, _, _, _, rfl, rfl, SqL.of g1, rfl, _, _, rfl, rfl, .inr ?_, _, _, rfl, rfl, _, _, rfl, rfl, _, _, rfl, rfl, ⟨by decide, by decide, ?_⟩, _, _, rfl, rfl, (by show (0 : Int) < 1000000007; decide), _, rfl, _, _, rfl, rfl, hn0, ?_⟩
      · show (-(2 ^ 64) : Int) < (c : Int) + 1 ∧ (c : Int) + 1 < 2 ^ 64
        omega
      · show (x * 48271 + 40503 * ((c : Int) + 1) * ((c : Int) + 1) + 13).natAbs < 2 ^ 64
        have h1 : 0 ≤ ((c : Int) + 1) := by omega
        have h2 : ((c : Int) + 1) * ((c : Int) + 1) ≤ 1000000 * 1000000 := Int.mul_le_mul (by omega) (by omega) h1 (by decide)
        have h3 : 0 ≤ ((c : Int) + 1) * ((c : Int) + 1) := Int.mul_nonneg h1 h1
        rw [Int.mul_assoc]
        generalize ((c : Int) + 1) * ((c : Int) + 1) = y at h2 h3
        omega
      · exact q _ _ (Int.emod_nonneg _ (by omega)) (Int.emod_lt_of_pos _ hn0) ⟨ne, r', m', ns', g1, g2, r0', m0', m1', l63'⟩ k2

theorem cal_law_draw (T : Tx K mg) : Cal P w K mg base 1 "_law_draw" (upF K sDraw) := (cal_draw0 T.draw).imp fun _ _ _ _ h => draw_up h
def spStart (K : PySem.W.Frag) : Sp := fun vs H Q _ => ∃ (a : Addr) (ns : List Int), vs = [.ref a] ∧ SqL K H a (ns.map V.int) ∧ ns.length ≤ 63 ∧ ∀ st sl H', Same H H' → Sk st sl 0 H' → Q (.ref st) H'
theorem cal_law_start (T : Tx K mg) : Cal P w K mg base 1 "_law_start" (spStart K) := by
  refine T.lstart.cal f_law_start_sc (fun _ _ _ _ _ _ us hl => match us, hl with | [_], _ => rfl) (fun vs H Q E h => ?_) (fun f cdv A outer s H vs Q E hr h => ?_)
  · obtain ⟨a, ns, rfl, _⟩ := h
    rfl
  obtain ⟨a, ns, rfl, hS, hl, q⟩ := h
  refine ⟨_, (pss_one (ps_ret (pe_lst (pa_cons (pe_callTy call_list_of rfl T.n_list (by decide +kernel) (pa_cons (pv 0) pa_nil)) (pa_cons pe_int (pa_cons pe_int (pa_cons pe_int pa_nil))))))), ?_⟩
  rw [show L2.start f_law_start_N [.ref a] = [some (.ref a)] from rfl]
  simp only [cxOf, Cx.nox, tSeq, C8.tCut, tAsg, tRet, tRetN, tIfS, tTest, tB, tAnd, tOr, tNot, tAndV, tOrV, tNotV, tIf, tOp, tUn, tCB, tCall, tCons, tNil, tC, tTup, tLst, tChain, tPar, tDrop, tNext, tSl, tPart, tNoPart, tBM, tBM0, tM1, tM0, tAug, ipI, gName, gSub, tVar, wipe, rI0, rI, rU, List.cons_append, List.nil_append, List.append_nil, List.set_cons_zero, List.set_cons_succ, List.getElem?_cons_zero, List.getElem?_cons_succ, Option.some.injEq, V.int.injEq, V.bl.injEq, V.str.injEq, V.ref.injEq, exists_and_left, exists_eq_left, if_true, if_false, Bool.not_true, Bool.not_false, Bool.false_eq_true, List.map_cons, List.map_nil, List.cons.injEq, and_true, true_and, exists_eq_left']
  refine ⟨_, .inl hS, fun p hp => ⟨by show 4 ≤ sizeLine; decide, fun t ht => ?_⟩⟩
  have ne : p ≠ t := fun e => by
    rw [← e, upd_same] at ht
    cases ht
  refine q t p _ ((same_new hp _).trans (same_new ht _)) ⟨ne.symm, 0, 0, ns, upd_same, ?_, Int.le_refl _, Int.le_refl _, by decide, hl⟩
  rw [upd_ne ne]
  exact upd_same
theorem cal_law_pick (T : Tx K mg) : Cal P w K mg base 2 "_law_pick" (upF K (sPick)) := by
  refine T.pick.calD f_law_pick_sc (fun _ _ _ _ _ _ us hl => match us, hl with | [_, _], _ => rfl) (fun ds S Q h => by obtain ⟨_, _, _, rfl, _⟩ := h; rfl) _ (fun f cdv A outer s H E hr => (dss_one (ds_ret (de_item (de_var (pv 1)) (de_call (pe_c (cal_law_draw T) hr (by omega) rfl (da_cons (de_var (pv 0)) (da_cons (de_callB call_len cd_len rfl T.n_len (by decide +kernel) (da_cons (de_var (pv 1)) da_nil)) da_nil)))))))) fun ds S Q h => ?_
  obtain ⟨b, p, xs, rfl, rfl, hp, h0, h1, q⟩ := h
  walk_at "rm_rd"
  have hl0 : 0 < xs.length := List.length_pos_iff.mpr h0
  refine ⟨_, itemsP_len hp, itemsP_ixB hp h1, call_draw (b := b) rfl (by omega) (by omega) fun i hi => ?_⟩
  obtain ⟨x, hx, e⟩ := itemsP_at hp (i := i) (by omega)
  exact ⟨_, rfl, itemsP_ixB hp h1, x, e, by simpa [fin, Ob.cl] using q x hx⟩
end
theorem tl_inj {a b : Str} (h : tl a = tl b) : a = b := (SX.S_tl a).symm.trans ((congrArg SX.S h).trans (SX.S_tl b))
theorem len_int {i : Int} (h : i.natAbs < 10 ^ 30) : (Str.ofString (toString i)).length ≤ 31 := by
  rw [int_len, tl_int]
  exact sg_len h
theorem str_len_app (a b : Str) : (a ++ b).length = a.length + b.length := by rw [int_len, int_len, int_len, tl_app, List.length_append]
theorem len1 {c : Nat} : Str.length ⟨#[c]⟩ = 1 := rfl
theorem sCut_ev {t u : DSm} {E : DEnds} {ρ : Rh} {S : Os} (h : ∀ N : Rh → Os → Prop, N = u E → t { E with nx := N } ρ S) : sCut t u E ρ S := ⟨u E, h _ rfl, fun _ _ q => q⟩
section
variable {P : Program} {w : World} {K : PySem.W.Frag} {mg : Str → Option Value} {base : Heap}
def lresv : List Str := ["apply", "call", "case", "close", "drop", "dup", "else", "end", "function", "if", "lend", "let", "match", "mod", "move", "new", "own", "return"]
def sResv : Fs := Pf (fun _ : Unit => True) (fun _ => []) fun _ => strsL lresv
theorem cal_law_reserved (T : Tx K mg) : Cal P w K mg base 1 "_law_reserved" (upF K (sResv)) := by
  refine T.reserved.calD f_law_reserved_sc (fun _ _ _ _ _ _ us hl => match us, hl with | [], _ => rfl) (fun ds S Q h => by obtain ⟨_, a, rfl, _⟩ := h; rfl) _ (fun f cdv A outer s H E hr => (dss_cons (ds_set (ps_set (i := 0) f_law_reserved_sc.nd rfl (Or.inl rfl) (de_lst (da_cons de_str (da_cons de_str (da_cons de_str (da_cons de_str (da_cons de_str (da_cons de_str (da_cons de_str (da_cons de_str (da_cons de_str (da_cons de_str (da_cons de_str (da_cons de_str (da_cons de_str da_nil))))))))))))))))
      (dss_one (ds_ret (de_add (de_var (pv 0)) (de_lst (da_cons de_str (da_cons de_str (da_cons de_str (da_cons de_str (da_cons de_str da_nil))))))))))) fun ds S Q h => ?_
  obtain ⟨rfl, a, rfl, ha, q⟩ := h
  walk_at "rm_stp"
  exact q
def spareOf (a : Nat) : List Str := letters.cps.toList.map fun b => ("v" ++ (⟨#[a]⟩ : Str)) ++ ⟨#[b]⟩
def ten : Str := "abcdefghij"
def spare : List Str := ten.cps.toList.flatMap spareOf
theorem spareOf_len (a : Nat) : (spareOf a).length = 26 := by rw [spareOf, List.length_map]; decide +kernel
theorem spares_len : ∀ l : List Nat, (l.flatMap spareOf).length = 26 * l.length
  | [] => rfl
  | a :: l => by rw [List.flatMap_cons, List.length_append, spareOf_len, spares_len l, List.length_cons]; omega
theorem spare_len : ∀ s ∈ spare, s.length ≤ 3 := by decide +kernel
theorem spare_nm : ∀ s ∈ spare, nm s = true := by
  have : (spare.all nm) = true := by decide +kernel
  exact List.all_eq_true.mp this
theorem spare_nd : spare.Nodup := by decide +kernel
theorem sub_len {α : Type} [DecidableEq α] : ∀ {xs ys : List α}, xs.Nodup → (∀ x ∈ xs, x ∈ ys) → xs.length ≤ ys.length
  | [], _, _, _ => Nat.zero_le _
  | x :: xs, ys, hn, h => by
    rw [List.nodup_cons] at hn
    have hx := h x (by simp)
    have := sub_len (xs := xs) (ys := ys.erase x) hn.2 fun y hy => (List.mem_erase_of_ne (fun e => hn.1 (by rw [← e]; exact hy))).mpr (h y (List.mem_cons_of_mem _ hy))
    rw [List.length_erase_of_mem hx] at this
    have := List.length_pos_of_mem hx
    simp only [List.length_cons]
    omega
theorem spare_left {tk : List Str} (h : tk.length ≤ 250) : ∃ s ∈ spare, s ∉ tk := by
  refine Classical.byContradiction fun hn => ?_
  have := sub_len spare_nd (ys := tk) fun x hx => Classical.byContradiction fun hx' => hn ⟨x, hx, hx'⟩
  have e : spare.length = 260 := by decide +kernel
  omega
theorem cut_ten : cutS (Str.ofString "abcdefghijklmnopqrstuvwxyz") none (some 10) = ten := by decide +kernel
theorem spare_loop {tk : List Str} {tv x y : D} {c : Nat} {R : Os} {F : DQ} {N : Rh → Os → Prop} (hl : tk.length ≤ 250) (hrd : rd (.spr c :: R) tv = some (strsL tk)) (q : ∀ s, s ∈ spare → s ∉ tk → F (.dat (.str s)) (.spr c :: R)) :
    loop (dgName 7) (sAsg (dOp rAdd (dVar 6) (dLc (iRow (dVar 2)) (Tg.one 8) dYes (dOp rAdd (dOp rAdd (dC (D.dat (PyData.str (Str.ofString "v")))) (dVar 7)) (dVar 8)))) (dgName 6))
      { nx := sAsg (dOp rIxD (dLc (iRow (dVar 6)) (Tg.one 7) (dT (dOp (rInB true) (dVar 7) (dVar 1))) (dVar 7)) (dC (D.dat (PyData.int 0)))) (dgName 4) { nx := sRet (dVar 4) { nx := N, rt := F }, rt := F }, rt := F }
      (sgnD (cutS (Str.ofString "abcdefghijklmnopqrstuvwxyz") none (some 10)))
      [some (.ref 0), some tv, some (.dat (.str (Str.ofString "abcdefghijklmnopqrstuvwxyz"))), some x, some y, none, some (.dat (.list [])), none, none] (.spr c :: R) := by
  rw [cut_ten]
  refine loop_inv (fun xs ρ S => ∃ (pre rest : List Nat) (v7 : Option D), ten.cps.toList = pre ++ rest ∧ xs = rest.map (fun c => .dat (.str ⟨#[c]⟩)) ∧ S = .spr c :: R ∧ ρ = [some (.ref 0), some tv, some (.dat (.str (Str.ofString "abcdefghijklmnopqrstuvwxyz"))), some x, some y, none, some (.dat (.list ((pre.flatMap spareOf).map PyData.str))), v7, none]) ⟨[], _, none, rfl, rfl, rfl, rfl⟩ ?_ ?_
  · rintro ρ S ⟨pre, rest, v7, e, e1, rfl, rfl⟩
    have : rest = [] := by cases rest with | nil => rfl | cons a b => cases e1
    subst this
    rw [List.append_nil] at e
    have e2 : pre.flatMap spareOf = spare := by rw [← e]; rfl
    rw [e2]
    walk_at "rm_stp"
    refine lcL_rowF (ds := spare.map PyData.str) (b := fun p => match p with | .str z => !tk.contains z | _ => false) (f := fun p => p) (fun p hp R R2 h1 h2 => ?_) ?_
    · obtain ⟨z, hz, rfl⟩ := List.mem_map.mp hp
      walk_at "rm_xfdff8218"
      refine ⟨flatP_strs _, ?_⟩
      rw [inP_str]
      cases e3 : tk.contains z with
      | true => exact h1 (by dsimp only; rw [e3]; rfl)
      | false => exact h2 (by dsimp only; rw [e3]; rfl)
    · obtain ⟨s0, m0, n0⟩ := spare_left hl
      rw [List.map_id']
      cases e3 : (spare.map PyData.str).filter (fun p => match p with | .str z => !tk.contains z | _ => false) with
      | nil =>
        have : PyData.str s0 ∈ (spare.map PyData.str).filter (fun p => match p with | .str z => !tk.contains z | _ => false) := List.mem_filter.mpr ⟨List.mem_map.mpr ⟨s0, m0, rfl⟩, by simpa using n0⟩
        rw [e3] at this
        cases this
      | cons v0 r0 =>
        have hv : v0 ∈ (spare.map PyData.str).filter (fun p => match p with | .str z => !tk.contains z | _ => false) := by rw [e3]; exact List.mem_cons_self ..
        rw [List.mem_filter] at hv
        obtain ⟨s, ms, rfl⟩ := List.mem_map.mp hv.1
        refine ⟨_, rfl, ?_⟩
        exact q s ms (by simpa using hv.2)
  · rintro d r ρ S N ⟨pre, rest, v7, e, e1, rfl, rfl⟩ hN
    cases rest with
    | nil => cases e1
    | cons a rest =>
      cases e1
      walk_at "rm_stp"
      refine lcL_sgn (cs := letters.cps.toList) (f := fun b => .str (("v" ++ (⟨#[a]⟩ : Str)) ++ ⟨#[b]⟩)) (fun b hb R r => ?_) ?_
      · walk_at "rm_stp"
        rw [str_len_app, show (Str.ofString "v").length = 1 from by decide +kernel, len1, len1]
        exact ⟨by decide, by decide, r⟩
      · rw [List.length_map]
        have h2 : ((pre.flatMap spareOf).length ≤ 260) := by
          have e4 : pre.length ≤ 10 := by
            have : ten.cps.toList.length = 10 := by decide +kernel
            rw [e, List.length_append] at this
            omega
          rw [spares_len]
          omega
        have h3 : letters.cps.toList.length = 26 := by decide +kernel
        refine ⟨Nat.le_trans (m := 1000) (by omega) (by decide), hN _ _ ⟨pre ++ [a], rest, some (.dat (.str ⟨#[a]⟩)), by simp [e], rfl, rfl, ?_⟩⟩
        rw [List.flatMap_append, List.map_append, List.flatMap_singleton, spareOf, List.map_map]
        rfl
theorem joinL_one : ∀ cs : List Nat, TL.joinL [] (cs.map fun b => [b]) = cs
  | [] => rfl
  | [b] => rfl
  | b :: d :: r => by
    show [b] ++ ([] ++ TL.joinL [] ((d :: r).map fun b => [b])) = b :: d :: r
    rw [joinL_one (d :: r)]
    rfl
theorem join_one' (cs : List Nat) : Txt.join "" (cs.map fun b => (⟨#[b]⟩ : Str)) = ⟨cs.toArray⟩ := by
  have h := SX.join_S [] (cs.map fun b => [b])
  rw [joinL_one, List.map_map] at h
  exact h
theorem sum_ones (cs : List Nat) : ((cs.map fun b => (⟨#[b]⟩ : Str)).map (·.length)).sum = cs.length := by
  induction cs with
  | nil => rfl
  | cons b r ih =>
    rw [List.map_cons, List.map_cons, List.sum_cons, ih, List.length_cons]
    show 1 + r.length = _
    omega
theorem sgn_of : ∀ {ys : List PyData}, (∀ y ∈ ys, ∃ a ∈ letters.cps.toList, y = .str ⟨#[a]⟩) → ∃ cs : List Nat, ys = cs.map (fun a => .str ⟨#[a]⟩) ∧ ∀ a ∈ cs, a ∈ letters.cps.toList
  | [], _ => ⟨[], rfl, fun _ h => by cases h⟩
  | y :: ys, h => by
    obtain ⟨a, ha, rfl⟩ := h y (by simp)
    obtain ⟨cs, rfl, h2⟩ := sgn_of fun z hz => h z (List.mem_cons_of_mem _ hz)
    exact ⟨a :: cs, rfl, fun m hm => by
      rcases List.mem_cons.mp hm with rfl | hm
      · exact ha
      · exact h2 m hm⟩
theorem nm_cs {cs : List Nat} (h1 : 1 ≤ cs.length) (h2 : cs.length ≤ 8) (h3 : ∀ a ∈ cs, a ∈ letters.cps.toList) (h4 : (⟨cs.toArray⟩ : Str) ∉ lresv) : nm ⟨cs.toArray⟩ = true := by
  have hr : ∀ x ∈ resv, x ∈ lresv := by decide +kernel
  have e : Str.length ⟨cs.toArray⟩ = cs.length := rfl
  unfold nm
  simp only [Bool.and_eq_true, decide_eq_true_eq, Bool.not_eq_true', List.all_eq_true]
  refine ⟨⟨⟨by rw [e]; exact h1, by rw [e]; exact h2⟩, ?_⟩, fun c hc => h3 c hc⟩
  cases hc : resv.contains (⟨cs.toArray⟩ : Str) with
  | false => rfl
  | true => exact absurd (hr _ (List.contains_iff_mem.mp hc)) h4
def sFresh : Fs := fun ds S Q => (∃ (b : Nat) (tk : List Str), ds = [.ref 0, .dat (strsL tk)] ∧ S = [.spr (b + 9)] ∧ tk.length ≤ 250 ∧ ∀ x c, b ≤ c → nm x = true → x ∉ tk → (x.length ≤ 3 ∨ x.length = 8) → Q (.dat (.str x)) [.spr c]) ∨
  ∃ (b : Nat) (tk : List Str), ds = [.ref 0, .ref 1] ∧ S = [.spr (b + 9), .lst (tk.map PyData.str)] ∧ tk.length ≤ 250 ∧ ∀ x c, b ≤ c → nm x = true → x ∉ tk → (x.length ≤ 3 ∨ x.length = 8) → Q (.dat (.str x)) [.spr c, .lst (tk.map PyData.str)]
theorem cal_law_fresh (T : Tx K mg) : Cal P w K mg base 3 "_law_fresh" (upF K (sFresh)) := by
  refine T.fresh.calD f_law_fresh_sc (fun _ _ _ _ _ _ us hl => match us, hl with | [_, _], _ => rfl) (fun ds S Q h => by exact h.elim (fun ⟨_, _, e, _⟩ => by rw [e]; rfl) (fun ⟨_, _, e, _⟩ => by rw [e]; rfl)) _ (fun f cdv A outer s H E hr => (dss_cons (ds_set (ps_set (i := 2) f_law_fresh_sc.nd rfl (Or.inr rfl) de_str))
      (dss_cons (ds_set (ps_set (i := 3) f_law_fresh_sc.nd rfl (Or.inl rfl) (de_call (pe_c (cal_law_pick T) hr (by omega) rfl (da_cons (de_var (pv 0)) (da_cons (de_lst (da_cons de_int (da_cons de_int (da_cons de_int (da_cons de_int da_nil))))) da_nil))))))
      (dss_cons (ds_set (ps_set (i := 4) f_law_fresh_sc.nd rfl (Or.inl rfl) (de_join (pe_join de_str (de_lc (g := .one 5) (pe_lc (own := [("_law_k", 5)]) rfl f_law_fresh_sc.nd (di_ran1 (pi_range1 rfl T.n_range (da_cons (de_var (pv 3)) da_nil))) (blkOk_by (own := [("_law_k", 5)]) (N := f_law_fresh_N) (sc := defScope f_law_fresh_s) (by decide +kernel)) (fun _ _ _ _ _ => (pg_name (i := 5) f_law_fresh_sc.nd rfl (Or.inl rfl))) (fun _ _ _ _ _ => dts_nil) (fun _ _ _ _ _ => (de_call (pe_c (cal_law_pick T) hr (by omega) rfl (da_cons (de_var (pv 0)) (da_cons (de_var (pv 2)) da_nil)))))))))))
      (dss_cons (ds_if (PW.pt (dw_or (dt_cmp opr_in od_in1 (de_var (pv 4)) (de_var (pv 1)) (by rfl)) (dw_or1 (dt_cmp opr_in od_in1 (de_var (pv 4)) (de_call0 (pe_c0 (cal_law_reserved T) hr (by omega) rfl)) (by rfl))))) (dss_cons (ds_set (ps_set (i := 6) f_law_fresh_sc.nd rfl (Or.inl rfl) (de_lst da_nil)))
      (dss_cons (ds_for (ps_for PassesOwn.never rfl (di_row (de_slice (de_var (pv 2)) do_none (do_some de_int))) (dg_name (pg_name (i := 7) f_law_fresh_sc.nd rfl (Or.inr rfl))) (dss_one (ds_set (ps_set (i := 6) f_law_fresh_sc.nd rfl (Or.inl rfl) (de_add (de_var (pv 6)) (de_lc (g := .one 8) (pe_lc (own := [("_law_other", 8)]) rfl f_law_fresh_sc.nd (di_row (de_var (pv 2))) (blkOk_by (own := [("_law_other", 8)]) (N := f_law_fresh_N) (sc := defScope f_law_fresh_s) (by decide +kernel)) (fun _ _ _ _ _ => (pg_name (i := 8) f_law_fresh_sc.nd rfl (Or.inl rfl))) (fun _ _ _ _ _ => dts_nil) (fun _ _ _ _ _ => (de_add (de_add de_str (de_var (pv 7))) (de_var (pv 8))))))))))))
      (dss_one (ds_set (ps_set (i := 4) f_law_fresh_sc.nd rfl (Or.inl rfl) (de_item (de_lc (g := .one 7) (pe_lc (own := [("_law_one", 7)]) rfl f_law_fresh_sc.nd (di_row (de_var (pv 6))) (blkOk_by (own := [("_law_one", 7)]) (N := f_law_fresh_N) (sc := defScope f_law_fresh_s) (by decide +kernel)) (fun _ _ _ _ _ => (pg_name (i := 7) f_law_fresh_sc.nd rfl (Or.inl rfl))) (fun _ _ _ _ _ => dts_one (dt_cmp opr_notIn od_in2 (de_var (pv 7)) (de_var (pv 1)) (by rfl))) (fun _ _ _ _ _ => (de_var (pv 7))))) de_int)))))) dss_nil)
      (dss_one (ds_ret (de_var (pv 4))))))))) fun ds S Q h => ?_
  rcases h with h | h
  · obtain ⟨b, tk, rfl, rfl, hl, q⟩ := h
    walk_at "rm_stp"
    refine call_pick' (xs := [.int 1, .int 1, .int 2, .int 8]) rfl (by omega) rfl (by simp) (by decide) fun x hx => ?_
    obtain ⟨n, h1, h2, hn3, rfl⟩ : ∃ n : Nat, 1 ≤ n ∧ n ≤ 8 ∧ (n ≤ 3 ∨ n = 8) ∧ x = .int n := by
      simp only [List.mem_cons, List.not_mem_nil, or_false] at hx
      rcases hx with rfl | rfl | rfl | rfl
      · exact ⟨1, by decide, by decide, by decide, rfl⟩
      · exact ⟨1, by decide, by decide, by decide, rfl⟩
      · exact ⟨2, by decide, by decide, by decide, rfl⟩
      · exact ⟨8, by decide, by decide, by decide, rfl⟩
    walk_at "rm_stp"
    refine ⟨by rw [ranD_len]; simp; omega, ?_⟩
    refine lcL_draws' (h := 0) (P := fun p => ∃ a ∈ letters.cps.toList, p = .str ⟨#[a]⟩) rfl (by rw [ranD_len]; simp; omega) (fun x hx S c R hS r => ?_) fun ys h3 h4 => ?_
    · walk_at "rm_stp"
      refine call_pick' (xs := letters.cps.toList.map fun a => .str ⟨#[a]⟩) hS (by omega) rfl (by decide +kernel) (by decide +kernel) fun y hy => ?_
      obtain ⟨a, ha, rfl⟩ := List.mem_map.mp hy
      exact r _ ⟨a, ha, rfl⟩
    obtain ⟨cs, rfl, h5⟩ := sgn_of h4
    rw [ranD_len] at h3
    simp only [List.length_map, Int.toNat_natCast] at h3
    refine ⟨cs.map fun a => ⟨#[a]⟩, by rw [List.map_map]; rfl, by rw [sum_ones, show (Str.ofString "").length = 0 from by decide +kernel]; omega, flatP_strs _, ?_⟩
    have ej := join_one' cs
    have hS : (List.set [Ob.spr (b + 9 - 1)] 0 (Ob.spr (b + 9 - 1 - (ranD 0 ((n : Nat) : Int).toNat).length))) = [.spr (b + 8 - n)] := by
      rw [ranD_len]; simp
    rw [hS]
    have hsp := fun (x y : D) (N : Rh → Os → Prop) => spare_loop (tv := .dat (strsL tk)) (x := x) (y := y) (c := b + 8 - n) (R := []) (F := fin 1 Q) (N := N) hl rfl fun s h1 h2 => by rw [fin1_s]; exact q s _ (by omega) (spare_nm s h1) h2 (.inl (spare_len s h1))
    rw [inP_str]
    split
    · exact ⟨by decide +kernel, hsp _ _ _⟩
    · rename_i hin
      walk_at "rm_x84fbce17"
      rw [inP_str]
      split
      · exact ⟨by decide +kernel, hsp _ _ _⟩
      · rename_i hr
        rw [ej] at hin hr ⊢
        exact q _ _ (by omega) (nm_cs (by omega) (by omega) h5 (by simpa using hr)) (by simpa using hin) (by show cs.length ≤ 3 ∨ cs.length = 8; omega)
  · obtain ⟨b, tk, rfl, rfl, hl, q⟩ := h
    walk_at "rm_stp"
    refine call_pick' (xs := [.int 1, .int 1, .int 2, .int 8]) rfl (by omega) rfl (by simp) (by decide) fun x hx => ?_
    obtain ⟨n, h1, h2, hn3, rfl⟩ : ∃ n : Nat, 1 ≤ n ∧ n ≤ 8 ∧ (n ≤ 3 ∨ n = 8) ∧ x = .int n := by
      simp only [List.mem_cons, List.not_mem_nil, or_false] at hx
      rcases hx with rfl | rfl | rfl | rfl
      · exact ⟨1, by decide, by decide, by decide, rfl⟩
      · exact ⟨1, by decide, by decide, by decide, rfl⟩
      · exact ⟨2, by decide, by decide, by decide, rfl⟩
      · exact ⟨8, by decide, by decide, by decide, rfl⟩
    walk_at "rm_stp"
    refine ⟨by rw [ranD_len]; simp; omega, ?_⟩
    refine lcL_draws' (h := 0) (P := fun p => ∃ a ∈ letters.cps.toList, p = .str ⟨#[a]⟩) rfl (by rw [ranD_len]; simp; omega) (fun x hx S c R hS r => ?_) fun ys h3 h4 => ?_
    · walk_at "rm_stp"
      refine call_pick' (xs := letters.cps.toList.map fun a => .str ⟨#[a]⟩) hS (by omega) rfl (by decide +kernel) (by decide +kernel) fun y hy => ?_
      obtain ⟨a, ha, rfl⟩ := List.mem_map.mp hy
      exact r _ ⟨a, ha, rfl⟩
    obtain ⟨cs, rfl, h5⟩ := sgn_of h4
    rw [ranD_len] at h3
    simp only [List.length_map, Int.toNat_natCast] at h3
    refine ⟨cs.map fun a => ⟨#[a]⟩, by rw [List.map_map]; rfl, by rw [sum_ones, show (Str.ofString "").length = 0 from by decide +kernel]; omega, ?_⟩
    have ej := join_one' cs
    have hS : (List.set [Ob.spr (b + 9 - 1), Ob.lst (tk.map PyData.str)] 0 (Ob.spr (b + 9 - 1 - (ranD 0 ((n : Nat) : Int).toNat).length))) = [.spr (b + 8 - n), .lst (tk.map PyData.str)] := by
      rw [ranD_len]; simp
    rw [hS]
    refine ⟨_, rfl, .inl ⟨_, rfl, flatP_strs _, ?_⟩⟩
    have hsp := fun (x y : D) (N : Rh → Os → Prop) => spare_loop (tv := .ref 1) (x := x) (y := y) (c := b + 8 - n) (R := [.lst (tk.map PyData.str)]) (F := fin 2 Q) (N := N) hl rfl fun s h1 h2 => by rw [fin2_sl]; exact q s _ (by omega) (spare_nm s h1) h2 (.inl (spare_len s h1))
    rw [inP_str]
    split
    · exact ⟨by decide +kernel, hsp _ _ _⟩
    · rename_i hin
      walk_at "rm_x84fbce17"
      rw [inP_str]
      split
      · exact ⟨by decide +kernel, hsp _ _ _⟩
      · rename_i hr
        rw [ej] at hin hr ⊢
        exact q _ _ (by omega) (nm_cs (by omega) (by omega) h5 (by simpa using hr)) (by simpa using hin) (by show cs.length ≤ 3 ∨ cs.length = 8; omega)
theorem sFresh_mono : sFresh.Mono := fun _ _ _ _ h g => by
  rcases g with ⟨b, tk, h1, h2, h3, q⟩ | ⟨b, tk, h1, h2, h3, q⟩
  · exact .inl ⟨b, tk, h1, h2, h3, fun x c a d e f => h _ _ (q x c a d e f)⟩
  · exact .inr ⟨b, tk, h1, h2, h3, fun x c a d e f => h _ _ (q x c a d e f)⟩
theorem call_fresh {h c : Nat} {tk : List Str} {S : Os} {Q : DQ} (hS : S[h]? = some (.spr c)) (hc : 9 ≤ c) (hl : tk.length ≤ 250) (q : ∀ x c', c ≤ c' + 9 → nm x = true → x ∉ tk → Q (.dat (.str x)) (S.set h (.spr c'))) :
    callS sFresh [.ref h, .dat (strsL tk)] S Q := by
  obtain ⟨b, rfl⟩ : ∃ b, c = b + 9 := ⟨c - 9, by omega⟩
  exact callS_1 (ps := [strsL tk]) sFresh_mono hS rfl (.inl ⟨b, tk, rfl, rfl, hl, fun x c a d e _ => ⟨_, _, rfl, rfl, rfl, q x c (by omega) d e⟩⟩)
end
theorem lcL_cost {te : DE} {j h : Nat} {ρ : Rh} {P : PyData → Prop} {m : Nat} : ∀ {xs : List D} {S : Os} {c : Nat} {Q : List PyData → Os → Prop}, S[h]? = some (.spr c) → m * xs.length ≤ c →
    (∀ x ∈ xs, ∀ (S : Os) (c : Nat) (R : DQ), S[h]? = some (.spr c) → m ≤ c → (∀ p c', c ≤ c' + m → P p → R (.dat p) (S.set h (.spr c'))) → te (ρ.set j (some x)) S R) →
    (∀ ys c', c ≤ c' + m * xs.length → ys.length = xs.length → (∀ y ∈ ys, P y) → Q ys (S.set h (.spr c'))) → lcL (.one j) dYes te ρ xs S Q
  | [], S, c, Q, hS, _, _, q => by
    have := q [] c (by simp) rfl (by simp)
    rw [show S.set h (.spr c) = S from set_self hS] at this
    exact this
  | x :: xs, S, c, Q, hS, hc, hte, q => by
    simp only [List.length_cons, Nat.mul_succ] at hc
    simp only [lcL, Tg.put, dYes, if_true]
    refine hte x (List.mem_cons_self ..) S c _ hS (by omega) fun p c1 h1 hp => ⟨p, rfl, ?_⟩
    refine lcL_cost (set_get hS) (m := m) (by omega) (fun y hy => hte y (List.mem_cons_of_mem _ hy)) fun ys c2 h2 hl hy => ?_
    rw [List.set_set]
    exact q (p :: ys) c2 (by simp only [List.length_cons, Nat.mul_succ]; omega) (by simp [hl]) fun y hm => by
      rcases List.mem_cons.mp hm with rfl | hm
      · exact hp
      · exact hy y hm
def sNumb : Fs := fun ds S Q => ∃ b : Nat, ds = [.ref 0] ∧ S = [.spr (b + 2)] ∧ ∀ (i : Int) c, b ≤ c → i.natAbs < 10 ^ 30 → Q (.dat (.int i)) [.spr c]
section
variable {P : Program} {w : World} {K : PySem.W.Frag} {mg : Str → Option Value} {base : Heap}
theorem cal_law_number (T : Tx K mg) : Cal P w K mg base 3 "_law_number" (upF K (sNumb)) := by
  refine T.number.calD f_law_number_sc (fun _ _ _ _ _ _ us hl => match us, hl with | [_], _ => rfl) (fun ds S Q h => by obtain ⟨_, rfl, _⟩ := h; rfl) _ (fun f cdv A outer s H E hr => (dss_cons (ds_set (ps_set (i := 1) f_law_number_sc.nd rfl (Or.inl rfl) (de_call (pe_c (cal_law_draw T) hr (by omega) rfl (da_cons (de_var (pv 0)) (da_cons de_int da_nil))))))
      (dss_cons (ds_if (dt_cmp op_lt od_lt (de_var (pv 1)) de_int (nomark _)) (dss_one (ds_ret (de_sub (de_call (pe_c (cal_law_draw T) hr (by omega) rfl (da_cons (de_var (pv 0)) (da_cons de_int da_nil)))) de_int))) dss_nil)
      (dss_one (ds_ret (de_call (pe_c (cal_law_pick T) hr (by omega) rfl (da_cons (de_var (pv 0)) (da_cons (de_lst (da_cons (de_sub (de_pow de_int de_int) de_int) (da_cons (de_sub de_int (de_pow de_int de_int)) (da_cons (de_pow de_int de_int) (da_cons (de_neg de_int) (da_cons de_int da_nil)))))) da_nil))))))))) fun ds S Q h => ?_
  obtain ⟨b, rfl, rfl, q⟩ := h
  walk_at "rm_stp"
  refine call_draw' rfl (by omega) (by decide) (by decide) fun i hi => ?_
  walk_at "rm_stp"
  by_cases h : i < 10
  · rw [if_pos (by simp; omega)]
    refine call_draw' rfl (by simp) (by decide) (by decide) fun j hj => ?_
    walk_at "rm_stp"
    exact q _ _ (by omega) (by omega)
  · rw [if_neg (by simp; omega)]
    walk_at "rm_stp"
    refine call_pick' (c := b + 2 - 1) (xs := [_, _, _, _, _]) rfl (by omega) rfl (by simp) (by simp) fun x hx => ?_
    have : ∃ i : Int, x = .int i ∧ i.natAbs < 10 ^ 30 := by
      simp only [List.mem_cons, List.not_mem_nil, or_false] at hx
      rcases hx with rfl | rfl | rfl | rfl | rfl <;> exact ⟨_, rfl, by decide⟩
    obtain ⟨i, rfl, hi⟩ := this
    simp only [List.set_cons_zero]
    rw [fin1_s]
    exact q _ _ (by omega) hi
theorem resv_same (z : Str) : lresv.contains z = resv.contains z := by
  have h1 : ∀ x ∈ resv, x ∈ lresv := by decide +kernel
  have h2 : ∀ x ∈ lresv, x ∈ resv := by decide +kernel
  cases a : lresv.contains z with
  | true => exact (List.contains_iff_mem.mpr (h2 z (List.contains_iff_mem.mp a))).symm
  | false =>
    cases b : resv.contains z with
    | false => rfl
    | true => rw [List.contains_iff_mem.mpr (h1 z (List.contains_iff_mem.mp b))] at a; cases a
def sLNm : Fs := Pf (fun x : Str => x.length ≤ 1000) (fun x => [.str x]) fun x => .bool (nm x)
theorem cal_law_is_name (T : Tx K mg) : Cal P w K mg base 2 "_law_is_name" (upF K (sLNm)) := by
  refine T.lis_name.calD f_law_is_name_sc (fun _ _ _ _ _ _ us hl => match us, hl with | [_], _ => rfl) (fun ds S Q h => by obtain ⟨_, a, rfl, _⟩ := h; rfl) _ (fun f cdv A outer s H E hr => (dss_cons (ds_if (PW.pt (dw_or (dt_not (dt_val (de_isi (n := "str") (pe_callB call_isi rfl T.n_isinstance (by decide +kernel) (pa_cons (de_var (pv 0)) (pa_cons (pe_bltn (v := .ty "str") (u := .type "str") rfl T.n_str (by decide +kernel) rfl) pa_nil))) (by simp)))) (dw_or (dt_not (dt_chain op_lt od_lt op_lt od_lt de_int (de_callB call_len cd_len rfl T.n_len (by decide +kernel) (da_cons (de_var (pv 0)) da_nil)) de_int)) (dw_or1 (dt_cmp opr_in od_in1 (de_var (pv 0)) (de_call0 (pe_c0 (cal_law_reserved T) hr (by omega) rfl)) (by rfl)))))) (dss_one (ds_ret de_bl)) dss_nil)
      (dss_one (ds_ret (de_callB (cr_all rfl) cd_all rfl T.n_all (by decide +kernel) (da_cons (de_lc (g := .one 1) (pe_lc (own := [("_law_letter", 1)]) rfl f_law_is_name_sc.nd (di_row (de_var (pv 0))) (blkOk_by (own := [("_law_letter", 1)]) (N := f_law_is_name_N) (sc := defScope f_law_is_name_s) (by decide +kernel)) (fun _ _ _ _ _ => (pg_name (i := 1) f_law_is_name_sc.nd rfl (Or.inl rfl))) (fun _ _ _ _ _ => dts_nil) (fun _ _ _ _ _ => (de_cmp opr_in od_in1 (de_var (pv 1)) de_str (by rfl))))) da_nil)))))) fun ds S Q h => ?_
  obtain ⟨rfl, z, rfl, hz, q⟩ := h
  have hz' : z.length ≤ sizeLine := small hz
  walk_at "rm_xde606bb4"
  have q' : Q (.dat (.bool (nm z))) [] := q
  unfold nm at q'
  rw [if_neg (by simp [isT_str])]
  refine ⟨hz', ?_⟩
  by_cases h1 : 1 ≤ z.length
  · rw [if_pos (by simp; omega)]
    rw [decide_eq_true h1] at q'
    by_cases h2 : z.length ≤ 8
    · rw [if_neg (by simp; omega)]
      rw [decide_eq_true h2] at q'
      refine ⟨flatP_strs _, ?_⟩
      cases h3 : resv.contains z with
      | true =>
        rw [h3] at q'
        simpa using q'
      | false =>
        rw [h3] at q'
        rw [if_neg (by decide)]
        simp only [Bool.not_false, Bool.true_and] at q'
        refine ⟨by rw [sgnD_len]; omega, ?_⟩
        unfold sgnD
        refine lcL_sgn (f := fun c => .bool (decide (c ∈ letters.cps.toList))) (fun c hc R hR => ?_) ?_
        · walk_at "rm_stp"
          exact hR
        · refine ⟨z.cps.toList.map fun c => decide (c ∈ letters.cps.toList), by simp, ?_⟩
          rw [List.all_map]
          exact q'
    · rw [if_pos (by simp; omega)]
      rw [decide_eq_false h2] at q'
      simpa using q'
  · rw [if_neg (by simp; omega)]
    rw [decide_eq_false h1] at q'
    simpa using q'
end
end Rm

set_option Elab.async false
set_option linter.all false
set_option maxRecDepth 100000
set_option maxHeartbeats 4000000
local macro_rules | `(tactic| walk_at "rm_xd4bb41f5") => `(tactic| ((repeat (first | simp only [cSortI, ↓sSeq, ↓sNext, ↓sDrop, ↓sRet, ↓sRetN, ↓sIf, ↓sAsg, ↓sAug, ↓sPar, ↓sFrz, ↓sBreak, ↓sCont, ↓sFor, ↓dgName, ↓dgTup, ↓dgCons, ↓dgNil, ↓dgSub, ↓dVar, ↓dC, ↓dNil, ↓dCons, ↓dTup, ↓dLst, ↓dLstO, ↓dats, ↓dOp, ↓dUn, ↓dCB, ↓dT, ↓dAnd, ↓dOr, ↓dNot, ↓dAndV, ↓dOrV, ↓dNotV, ↓dIf, ↓dChain, ↓rAdd, ↓rInts, ↓rSub, ↓rMod, ↓rFdiv, ↓rMul, ↓rNeg, ↓rEqB, ↓rLt, ↓rLe, ↓rGt, ↓rGe, ↓rIsN, ↓rInB, ↓rIxD, ↓dSl, ↓dPart, ↓dNoPart, ↓cLen, ↓cInt, ↓cStr, ↓cAbs, ↓cMin, ↓cMax, ↓cAll, ↓cAny, ↓cSum, ↓cList, ↓cListO, ↓cTuple, ↓dIsi, ↓dSplit, ↓dJoin, ↓dAppend, ↓dPop, ↓dExtend, ↓dCall, ↓callS_Pf, ↓iRow, ↓iRan1, ↓iRan2, ↓iEnu, ↓iZp, ↓iZpM, ↓sPar3, ↓dDget1, ↓dDget2, ↓sDputD, ↓dDnew, ↓dSplitO, ↓rInTd, ↓dLstR1, ↓cSumLR, ↓xE, ↓xA, ↓xF, ↓xCons, ↓xTup, ↓xCB, ↓xMeth, ↓dIsX, ↓sAsgX, ↓sDropX, ↓sRetX, ↓sTry, ↓dCallX, ↓dXf, startD, List.map_cons, List.map_nil, List.cons_append, List.nil_append, List.length_cons, List.length_nil, List.replicate, List.set_cons_zero, List.set_cons_succ, List.getElem?_cons_zero, List.getElem?_cons_succ, List.getElem?_nil, Option.map_some, Option.some.injEq, D.dat.injEq, D.ref.injEq, PyData.int.injEq, PyData.bool.injEq, PyData.str.injEq, PyData.list.injEq, PyData.tuple.injEq, exists_and_left, exists_eq_left, exists_eq_left', exists_eq, exists_const, if_true, if_false, Bool.not_true, Bool.not_false, Bool.false_eq_true, ↓reduceIte, List.cons.injEq, and_true, true_and, List.take_nil, List.take_zero, List.all_nil, List.length_map, Nat.le_refl, Nat.zero_le, Nat.reduceSub, Nat.reduceAdd, Nat.sub_self, ge_iff_le, Nat.lt_irrefl, reduceCtorEq, false_and, and_false, or_false, false_or, or_true, true_or, rd_dat, ↓dLenSet, ↓dDisp, ↓dDispL, ↓cStr2, strQ_int, strQ_str, strB_int, strB_str, ↓dPopI, ↓cLenR, ↓rAddO, ↓cSumL, ↓cSumLO, ↓dAppendR, ↓dPopR, ↓rIxR, ↓dLstR, ↓cDict, ↓dDin, ↓dDget, Ob.ins.injEq, Ob.lst.injEq, Ob.spr.injEq, Ob.dk.injEq, Ob.refs.injEq, ↓dFld, ↓sFldD, ↓dMeth, ↓dMake, ↓dCallW, ↓dLc, rowP_str, ↓wipeD, Tg.own, Tg.put, ↓setsD, exists_false, rd_ref, isN_int, isN_str, isN_bl, isN_non, isN_lst, isN_tup, isN_ref, flatP_int, flatP_str, flatP_bl, flatP_non, lenP_str, lenP_lst, lenP_tup, rowP_lst, rowP_tup, itP_lst, itP_tup, itP_str, ixB_str, ixB_lst, ixB_tup, slP_lst, slP_tup, slP_str, atP_lst, atP_tup, addP_int, addP_str, addP_lst, addP_tup, addB_int, addB_str, addB_lst, addB_tup, fin0, eqOk_ss, eqOk_ii, eqv_ss, eqv_ii, atI_0, atI_1, atI_2, atI_3, atI_4, atI_5, atI_6, atI_7, cutP_f1, cutP_f2, cutP_f3, cutP_f4, cutP_f5, cutP_t1, cutP_t2, cutP_t3, cutP_t4, cutP_t5, atI_last', and_assoc, List.drop_succ_cons, List.drop_zero, List.take_succ_cons, f_pow30, f_pow29, f_pow15, ↓dTried, toldD_dat, toldD_ref, ↓dIsK, ↓dXk, ↓rIxK, itmK_0, itmK_1, D.tupK.injEq, D.exk.injEq, ↓dgTupK, tupX_dat, tupX_K, fin1_s, fin2_sl] | ((with_reducible refine Exists.intro ?w (And.intro ?h ?_)); case h => exact rfl) | ((with_reducible refine And.intro ?h ?_); case h => exact ⟨_, rfl⟩) | ((with_reducible refine And.intro ?h ?_); case h => first | exact trivial | exact rfl | decide | omega | (exact eqOk_flat rfl rfl) | (refine Nat.le_trans (m := 1000000) ?_ (by decide); (try simp only [List.length_append, List.length_cons, List.length_nil, List.length_map]); omega) | (refine Nat.lt_of_le_of_lt (m := 1000000) ?_ (by decide); (try simp only [List.length_append, List.length_cons, List.length_nil, List.length_map]); omega))))))
local macro_rules | `(tactic| walk_at "rm_xf786d136") => `(tactic| ((repeat (first | simp only [dgLst, ↓sSeq, ↓sNext, ↓sDrop, ↓sRet, ↓sRetN, ↓sIf, ↓sAsg, ↓sAug, ↓sPar, ↓sFrz, ↓sBreak, ↓sCont, ↓sFor, ↓dgName, ↓dgTup, ↓dgCons, ↓dgNil, ↓dgSub, ↓dVar, ↓dC, ↓dNil, ↓dCons, ↓dTup, ↓dLst, ↓dLstO, ↓dats, ↓dOp, ↓dUn, ↓dCB, ↓dT, ↓dAnd, ↓dOr, ↓dNot, ↓dAndV, ↓dOrV, ↓dNotV, ↓dIf, ↓dChain, ↓rAdd, ↓rInts, ↓rSub, ↓rMod, ↓rFdiv, ↓rMul, ↓rNeg, ↓rEqB, ↓rLt, ↓rLe, ↓rGt, ↓rGe, ↓rIsN, ↓rInB, ↓rIxD, ↓dSl, ↓dPart, ↓dNoPart, ↓cLen, ↓cInt, ↓cStr, ↓cAbs, ↓cMin, ↓cMax, ↓cAll, ↓cAny, ↓cSum, ↓cList, ↓cListO, ↓cTuple, ↓dIsi, ↓dSplit, ↓dJoin, ↓dAppend, ↓dPop, ↓dExtend, ↓dCall, ↓callS_Pf, ↓iRow, ↓iRan1, ↓iRan2, ↓iEnu, ↓iZp, ↓iZpM, ↓sPar3, ↓dDget1, ↓dDget2, ↓sDputD, ↓dDnew, ↓dSplitO, ↓rInTd, ↓dLstR1, ↓cSumLR, ↓xE, ↓xA, ↓xF, ↓xCons, ↓xTup, ↓xCB, ↓xMeth, ↓dIsX, ↓sAsgX, ↓sDropX, ↓sRetX, ↓sTry, ↓dCallX, ↓dXf, startD, List.map_cons, List.map_nil, List.cons_append, List.nil_append, List.length_cons, List.length_nil, List.replicate, List.set_cons_zero, List.set_cons_succ, List.getElem?_cons_zero, List.getElem?_cons_succ, List.getElem?_nil, Option.map_some, Option.some.injEq, D.dat.injEq, D.ref.injEq, PyData.int.injEq, PyData.bool.injEq, PyData.str.injEq, PyData.list.injEq, PyData.tuple.injEq, exists_and_left, exists_eq_left, exists_eq_left', exists_eq, exists_const, if_true, if_false, Bool.not_true, Bool.not_false, Bool.false_eq_true, ↓reduceIte, List.cons.injEq, and_true, true_and, List.take_nil, List.take_zero, List.all_nil, List.length_map, Nat.le_refl, Nat.zero_le, Nat.reduceSub, Nat.reduceAdd, Nat.sub_self, ge_iff_le, Nat.lt_irrefl, reduceCtorEq, false_and, and_false, or_false, false_or, or_true, true_or, rd_dat, ↓dLenSet, ↓dDisp, ↓dDispL, ↓cStr2, strQ_int, strQ_str, strB_int, strB_str, ↓dPopI, ↓cLenR, ↓rAddO, ↓cSumL, ↓cSumLO, ↓dAppendR, ↓dPopR, ↓rIxR, ↓dLstR, ↓cDict, ↓dDin, ↓dDget, Ob.ins.injEq, Ob.lst.injEq, Ob.spr.injEq, Ob.dk.injEq, Ob.refs.injEq, ↓dFld, ↓sFldD, ↓dMeth, ↓dMake, ↓dCallW, ↓dLc, rowP_str, ↓wipeD, Tg.own, Tg.put, ↓setsD, exists_false, rd_ref, isN_int, isN_str, isN_bl, isN_non, isN_lst, isN_tup, isN_ref, flatP_int, flatP_str, flatP_bl, flatP_non, lenP_str, lenP_lst, lenP_tup, rowP_lst, rowP_tup, itP_lst, itP_tup, itP_str, ixB_str, ixB_lst, ixB_tup, slP_lst, slP_tup, slP_str, atP_lst, atP_tup, addP_int, addP_str, addP_lst, addP_tup, addB_int, addB_str, addB_lst, addB_tup, fin0, eqOk_ss, eqOk_ii, eqv_ss, eqv_ii, atI_0, atI_1, atI_2, atI_3, atI_4, atI_5, atI_6, atI_7, cutP_f1, cutP_f2, cutP_f3, cutP_f4, cutP_f5, cutP_t1, cutP_t2, cutP_t3, cutP_t4, cutP_t5, atI_last', and_assoc, List.drop_succ_cons, List.drop_zero, List.take_succ_cons, f_pow30, f_pow29, f_pow15, ↓dTried, toldD_dat, toldD_ref, ↓dIsK, ↓dXk, ↓rIxK, itmK_0, itmK_1, D.tupK.injEq, D.exk.injEq, ↓dgTupK, tupX_dat, tupX_K, fin1_s, fin2_sl] | ((with_reducible refine Exists.intro ?w (And.intro ?h ?_)); case h => exact rfl) | ((with_reducible refine And.intro ?h ?_); case h => exact ⟨_, rfl⟩) | ((with_reducible refine And.intro ?h ?_); case h => first | exact trivial | exact rfl | decide | omega | (exact eqOk_flat rfl rfl) | (refine Nat.le_trans (m := 1000000) ?_ (by decide); (try simp only [List.length_append, List.length_cons, List.length_nil, List.length_map]); omega) | (refine Nat.lt_of_le_of_lt (m := 1000000) ?_ (by decide); (try simp only [List.length_append, List.length_cons, List.length_nil, List.length_map]); omega))))))
namespace Rm
open PySem PySem.Spec PyProof.Rows L2
structure TxS (n c : Nat) (x : Str) : Prop where
  len : x.length ≤ n
  pl : strP x
  cn : cnt (tl x) ≤ c
theorem TxS.app {n m c d : Nat} {x y : Str} (h : TxS n c x) (k : TxS m d y) : TxS (n + m) (c + d) (x ++ y) := by
  obtain ⟨a1, a2, a3⟩ := h
  obtain ⟨b1, b2, b3⟩ := k
  rw [int_len] at a1 b1
  refine ⟨by rw [int_len, tl_app, List.length_append]; omega, fun c hc => ?_, by rw [tl_app, cnt_app]; omega⟩
  rw [tl_app] at hc
  rcases List.mem_append.mp hc with hc | hc
  · exact a2 c hc
  · exact b2 c hc
theorem TxS.le {n m c d : Nat} {x : Str} (h : TxS n c x) (h1 : n ≤ m) (h2 : c ≤ d) : TxS m d x := ⟨Nat.le_trans h.len h1, h.pl, Nat.le_trans h.cn h2⟩
theorem TxS.of {x : Str} {l : List Nat} (e : tl x = l) (h : ∀ c ∈ l, c < 128) : TxS l.length (cnt l) x := ⟨by rw [int_len, e]; exact Nat.le_refl _, fun c hc => h c (by rw [← e]; exact hc), by rw [e]; exact Nat.le_refl _⟩
def tL : Nat → Nat
  | 0 => 31
  | n + 1 => 18 + 2 * (tL n + 1)
def tK : Nat → Nat
  | 0 => 0
  | n + 1 => 1 + 2 * tK n
def tC : Nat → Nat
  | 0 => 2
  | n + 1 => 14 + 2 * tC n
def isTx (n c : Nat) (p : PyData) : Prop := ∃ x, p = .str x ∧ TxS n c x
def sText (n : Nat) : Fs := fun ds S Q => ∃ b : Nat, ds = [.ref 0, .dat (.int (n : Nat))] ∧ S = [.spr (b + tC n)] ∧ ∀ x c, b ≤ c → TxS (tL n) (tK n) x → Q (.dat (.str x)) [.spr c]
theorem sText_mono {n : Nat} : (sText n).Mono := fun _ _ _ _ h ⟨b, h1, h2, q⟩ => ⟨b, h1, h2, fun x c a d => h _ _ (q x c a d)⟩
theorem call_text {n h c : Nat} {S : Os} {Q : DQ} (hS : S[h]? = some (.spr c)) (hc : tC n ≤ c) (q : ∀ x c', c ≤ c' + tC n → TxS (tL n) (tK n) x → Q (.dat (.str x)) (S.set h (.spr c'))) : callS (sText n) [.ref h, .dat (.int (n : Nat))] S Q := by
  obtain ⟨b, rfl⟩ : ∃ b, c = b + tC n := ⟨c - tC n, by omega⟩
  exact callS_1 (ps := [.int (n : Nat)]) sText_mono hS rfl ⟨b, rfl, rfl, fun x c a d => ⟨_, _, rfl, rfl, rfl, q x c (by omega) d⟩⟩
theorem call_num {h c : Nat} {S : Os} {Q : DQ} (hS : S[h]? = some (.spr c)) (hc : 2 ≤ c) (q : ∀ (i : Int) c', c ≤ c' + 2 → i.natAbs < 10 ^ 30 → Q (.dat (.int i)) (S.set h (.spr c'))) : callS sNumb [.ref h] S Q := by
  obtain ⟨b, rfl⟩ : ∃ b, c = b + 2 := ⟨c - 2, by omega⟩
  exact callS_1 (ps := []) (fun _ _ _ _ h ⟨b, h1, h2, q⟩ => ⟨b, h1, h2, fun x c a d => h _ _ (q x c a d)⟩) hS rfl ⟨b, rfl, rfl, fun x c a d => ⟨_, _, rfl, rfl, rfl, q x c (by omega) d⟩⟩
theorem tL_ge : ∀ n, 31 ≤ tL n
  | 0 => Nat.le_refl _
  | n + 1 => by
    have := tL_ge n
    simp only [tL]
    omega
theorem tL_le {n : Nat} (h : n ≤ 5) : tL n ≤ 100000 := by
  have : n = 0 ∨ n = 1 ∨ n = 2 ∨ n = 3 ∨ n = 4 ∨ n = 5 := by omega
  rcases this with rfl | rfl | rfl | rfl | rfl | rfl <;> decide
theorem cnt_pln : ∀ {l : List Nat}, pln l → cnt l = 0
  | [], _ => rfl
  | a :: l, h => by
    have h1 := h a (by simp)
    have h2 := cnt_pln (l := l) fun c hc => h c (by simp [hc])
    unfold cnt at *
    rw [List.map_cons, List.sum_cons, h2, if_neg h1.1]
theorem joinL_of : ∀ (ps : List (List Nat)) (c : Nat), c ∈ TL.joinL [32] ps → c = 32 ∨ ∃ p ∈ ps, c ∈ p
  | [], c, h => by cases h
  | [p], c, h => .inr ⟨p, by simp, h⟩
  | p :: q :: r, c, h => by
    have h' : c ∈ p ++ ([32] ++ TL.joinL [32] (q :: r)) := h
    rcases List.mem_append.mp h' with h' | h'
    · exact .inr ⟨p, by simp, h'⟩
    rcases List.mem_append.mp h' with h' | h'
    · exact .inl (List.mem_singleton.mp h')
    · rcases joinL_of (q :: r) c h' with e | ⟨x, hx, hc⟩
      · exact .inl e
      · exact .inr ⟨x, List.mem_cons_of_mem _ hx, hc⟩
theorem join_tx {ws : List Str} (h : ∀ w ∈ ws, strP w) : TxS ((ws.map fun w => w.length + 1).sum) ((ws.map fun w => cnt (tl w)).sum) (Txt.join " " ws) := by
  refine ⟨join_len ws, fun c hc => ?_, ?_⟩
  · rw [tl_join] at hc
    rcases joinL_of _ c hc with rfl | ⟨p, hp, hc⟩
    · decide
    · obtain ⟨w, hw, rfl⟩ := List.mem_map.mp hp
      exact h w hw c hc
  · rw [tl_join, cnt_joinL, List.map_map]
    exact Nat.le_refl _
theorem txs_of {n c : Nat} : ∀ {ys : List PyData}, (∀ y ∈ ys, isTx n c y) → ∃ ws : List Str, ys = ws.map PyData.str ∧ ∀ w ∈ ws, TxS n c w
  | [], _ => ⟨[], rfl, fun _ h => by cases h⟩
  | y :: ys, h => by
    obtain ⟨x, rfl, hx⟩ := h y (by simp)
    obtain ⟨ws, rfl, hw⟩ := txs_of fun z hz => h z (List.mem_cons_of_mem _ hz)
    exact ⟨x :: ws, rfl, fun w hm => by
      rcases List.mem_cons.mp hm with rfl | hm
      · exact hx
      · exact hw w hm⟩
theorem txs_sum {n c : Nat} : ∀ {ws : List Str}, (∀ w ∈ ws, TxS n c w) → (ws.map fun w => w.length + 1).sum ≤ (n + 1) * ws.length ∧ (ws.map fun w => cnt (tl w)).sum ≤ c * ws.length
  | [], _ => by simp
  | w :: ws, h => by
    obtain ⟨h1, h2⟩ := txs_sum fun z hz => h z (List.mem_cons_of_mem _ hz)
    obtain ⟨a1, a2, a3⟩ := h w (by simp)
    simp only [List.map_cons, List.sum_cons, List.length_cons, Nat.mul_succ]
    omega
theorem row_tx {n c : Nat} {cl ws : List Str} {x : Str} (hcl : cl = [] ∨ cl = [Str.ofString "close"]) (hx : nm x = true) (hw : ∀ w ∈ ws, TxS n c w) (hl : ws.length ≤ 2) : TxS (18 + 2 * (n + 1)) (1 + 2 * c) (Str.ofString "(" ++ Txt.join (Str.ofString " ") (cl ++ x :: ws) ++ Str.ofString ")") ∧
    ((cl ++ x :: ws).map fun w => w.length).sum ≤ 15 + 2 * (n + 1) ∧ (cl ++ x :: ws).length ≤ 4 := by
  have s1 : TxS 1 1 (Str.ofString "(") := ⟨by decide +kernel, by unfold strP; decide +kernel, by decide +kernel⟩
  have s2 : TxS 1 0 (Str.ofString ")") := ⟨by decide +kernel, by unfold strP; decide +kernel, by decide +kernel⟩
  have scl : TxS 5 0 (Str.ofString "close") := ⟨by decide +kernel, by unfold strP; decide +kernel, by decide +kernel⟩
  obtain ⟨w1, w2⟩ := txs_sum hw
  have m1 : (n + 1) * ws.length ≤ (n + 1) * 2 := Nat.mul_le_mul_left _ hl
  have m2 : c * ws.length ≤ c * 2 := Nat.mul_le_mul_left _ hl
  have hxl := (nm_facts hx).2.2
  have hxc := cnt_pln (letters_pln (nm_facts hx).1)
  have key : ∀ w ∈ cl ++ x :: ws, strP w := fun w hm => by
    rcases List.mem_append.mp hm with hm | hm
    · rcases hcl with rfl | rfl
      · cases hm
      · rw [List.mem_singleton.mp hm]; exact scl.pl
    · rcases List.mem_cons.mp hm with rfl | hm
      · exact nm_plain hx
      · exact (hw w hm).pl
  have hlen : ((cl ++ x :: ws).map fun w => w.length + 1).sum ≤ 15 + 2 * (n + 1) ∧ ((cl ++ x :: ws).map fun w => cnt (tl w)).sum ≤ 2 * c ∧ (cl ++ x :: ws).length ≤ 4 := by
    rcases hcl with rfl | rfl
    · simp only [List.nil_append, List.map_cons, List.sum_cons, List.length_cons]
      omega
    · have e5 : (Str.ofString "close").length = 5 := by decide +kernel
      have e6 : cnt (tl (Str.ofString "close")) = 0 := by decide +kernel
      simp only [List.cons_append, List.nil_append, List.map_cons, List.sum_cons, List.length_cons, e5, e6]
      omega
  refine ⟨((s1.app (join_tx key)).app s2).le (by omega) (by omega), ?_, hlen.2.2⟩
  have : ∀ l : List Str, (l.map fun w => w.length).sum ≤ (l.map fun w => w.length + 1).sum := fun l => by
    induction l with
    | nil => simp
    | cons a l ih => rw [List.map_cons, List.sum_cons, List.map_cons, List.sum_cons]; omega
  exact Nat.le_trans (this _) hlen.1
theorem int_tx {i : Int} (h : i.natAbs < 10 ^ 30) {n c : Nat} (hn : 31 ≤ n) : TxS n c (Str.ofString (toString i)) := by
  refine ⟨Nat.le_trans (len_int h) hn, fun c hc => ?_, ?_⟩
  · rw [tl_int] at hc
    unfold sg at hc
    split at hc
    · rcases List.mem_cons.mp hc with e | e
      · omega
      · have := TL.numL_digits _ c e; omega
    · have := TL.numL_digits _ c hc; omega
  · rw [tl_int]
    rw [cnt_pln (sg_pln i)]
    omega
section
variable {P : Program} {w : World} {K : PySem.W.Frag} {mg : Str → Option Value} {base : Heap}
theorem text_zero (T : Tx K mg) : Cal P w K mg base 4 "_law_text" (upF K (sText 0)) := by
  have ih : Cal P w K mg base 1 "_law_text" (upF K fun _ _ _ => False) := T.text.zeroD (ps := f_law_text_P) (fun _ _ _ _ _ _ us hl => match us, hl with | [_, _], _ => rfl) fun ds S Q h => h.elim
  refine T.text.calD f_law_text_sc (fun _ _ _ _ _ _ us hl => match us, hl with | [_, _], _ => rfl) (fun ds S Q h => by obtain ⟨_, rfl, _⟩ := h; rfl) _ (fun f cdv A outer s H E hr => (dss_cons (ds_if (PW.pt (dw_or (dt_cmp (opr_eq hr.units) od_eq (de_var (pv 1)) de_int (nomark _)) (dw_or1 (dt_cmp (opr_eq hr.units) od_eq (de_call (pe_c (cal_law_draw T) hr (by omega) rfl (da_cons (de_var (pv 0)) (da_cons de_int da_nil)))) de_int (nomark _))))) (dss_one (ds_ret (de_callTy cr_str2 cd_str2 rfl T.n_str (by decide +kernel) (da_cons (de_call (pe_c (cal_law_number T) hr (by omega) rfl (da_cons (de_var (pv 0)) da_nil))) da_nil)))) dss_nil)
      (dss_cons (ds_set (ps_set (i := 2) f_law_text_sc.nd rfl (Or.inl rfl) (de_add (de_lst (da_cons (de_call (pe_c (cal_law_fresh T) hr (by omega) rfl (da_cons (de_var (pv 0)) (da_cons (de_lst da_nil) da_nil)))) da_nil)) (de_lc (g := .one 3) (pe_lc (own := [("_law_k", 3)]) rfl f_law_text_sc.nd (di_ran1 (pi_range1 rfl T.n_range (da_cons (de_call (pe_c (cal_law_draw T) hr (by omega) rfl (da_cons (de_var (pv 0)) (da_cons de_int da_nil)))) da_nil))) (blkOk_by (own := [("_law_k", 3)]) (N := f_law_text_N) (sc := defScope f_law_text_s) (by decide +kernel)) (fun _ _ _ _ _ => (pg_name (i := 3) f_law_text_sc.nd rfl (Or.inl rfl))) (fun _ _ _ _ _ => dts_nil) (fun _ _ _ _ _ => (de_call (pe_c ih hr (by omega) rfl (da_cons (de_var (pv 0)) (da_cons (de_sub (de_var (pv 1)) de_int) da_nil))))))))))
      (dss_one (ds_ret (de_add (de_add de_str (de_join (pe_join de_str (de_add (de_mul (de_lst (da_cons de_str da_nil)) (de_callTy cr_int cd_int rfl T.n_int (by decide +kernel) (da_cons (de_cmp (opr_eq hr.units) od_eq (de_call (pe_c (cal_law_draw T) hr (by omega) rfl (da_cons (de_var (pv 0)) (da_cons de_int da_nil)))) de_int (nomark _)) da_nil))) (de_var (pv 2)))))) de_str)))))) fun ds S Q h => ?_
  obtain ⟨b, rfl, rfl, q⟩ := h
  walk_at "rm_stp"
  rw [if_pos (by rfl)]
  refine call_num rfl (by simp [tC]) fun i c' h1 h2 => ⟨_, rfl, _, rfl, log_lt h2, ?_⟩
  simp only [List.set_cons_zero]
  rw [fin1_s]
  exact q _ _ (by simp only [tC] at h1; omega) (int_tx h2 (by simp [tL]))
theorem text_succ (T : Tx K mg) (n : Nat) (hn5 : n ≤ 5) (ih : Cal P w K mg base (n + 4) "_law_text" (upF K (sText n))) : Cal P w K mg base (n + 5) "_law_text" (upF K (sText (n + 1))) := by
  refine T.text.calD f_law_text_sc (fun _ _ _ _ _ _ us hl => match us, hl with | [_, _], _ => rfl) (fun ds S Q h => by obtain ⟨_, rfl, _⟩ := h; rfl) _ (fun f cdv A outer s H E hr => (dss_cons (ds_if (PW.pt (dw_or (dt_cmp (opr_eq hr.units) od_eq (de_var (pv 1)) de_int (nomark _)) (dw_or1 (dt_cmp (opr_eq hr.units) od_eq (de_call (pe_c (cal_law_draw T) hr (by omega) rfl (da_cons (de_var (pv 0)) (da_cons de_int da_nil)))) de_int (nomark _))))) (dss_one (ds_ret (de_callTy cr_str2 cd_str2 rfl T.n_str (by decide +kernel) (da_cons (de_call (pe_c (cal_law_number T) hr (by omega) rfl (da_cons (de_var (pv 0)) da_nil))) da_nil)))) dss_nil)
      (dss_cons (ds_set (ps_set (i := 2) f_law_text_sc.nd rfl (Or.inl rfl) (de_add (de_lst (da_cons (de_call (pe_c (cal_law_fresh T) hr (by omega) rfl (da_cons (de_var (pv 0)) (da_cons (de_lst da_nil) da_nil)))) da_nil)) (de_lc (g := .one 3) (pe_lc (own := [("_law_k", 3)]) rfl f_law_text_sc.nd (di_ran1 (pi_range1 rfl T.n_range (da_cons (de_call (pe_c (cal_law_draw T) hr (by omega) rfl (da_cons (de_var (pv 0)) (da_cons de_int da_nil)))) da_nil))) (blkOk_by (own := [("_law_k", 3)]) (N := f_law_text_N) (sc := defScope f_law_text_s) (by decide +kernel)) (fun _ _ _ _ _ => (pg_name (i := 3) f_law_text_sc.nd rfl (Or.inl rfl))) (fun _ _ _ _ _ => dts_nil) (fun _ _ _ _ _ => (de_call (pe_c ih hr (by omega) rfl (da_cons (de_var (pv 0)) (da_cons (de_sub (de_var (pv 1)) de_int) da_nil))))))))))
      (dss_one (ds_ret (de_add (de_add de_str (de_join (pe_join de_str (de_add (de_mul (de_lst (da_cons de_str da_nil)) (de_callTy cr_int cd_int rfl T.n_int (by decide +kernel) (da_cons (de_cmp (opr_eq hr.units) od_eq (de_call (pe_c (cal_law_draw T) hr (by omega) rfl (da_cons (de_var (pv 0)) (da_cons de_int da_nil)))) de_int (nomark _)) da_nil))) (de_var (pv 2)))))) de_str)))))) fun ds S Q h => ?_
  obtain ⟨b, rfl, rfl, q⟩ := h
  have ec : tC (n + 1) = 14 + 2 * tC n := rfl
  walk_at "rm_stp"
  rw [if_neg (by simp; omega)]
  refine call_draw' rfl (by omega) (by decide) (by decide) fun k hk => ?_
  walk_at "rm_stp"
  by_cases h0 : k = 0
  · rw [if_pos (by simp [PyData.eqv, h0])]
    refine call_num rfl (by omega) fun i c' h1 h2 => ⟨_, rfl, _, rfl, log_lt h2, ?_⟩
    simp only [List.set_cons_zero]
    rw [fin1_s]
    exact q _ _ (by omega) (int_tx h2 (tL_ge _))
  · rw [if_neg (by simp [PyData.eqv]; omega)]
    refine call_fresh (tk := []) rfl (by omega) (by simp) fun x c1 h1 hn _ => ?_
    walk_at "rm_stp"
    refine call_draw' rfl (by omega) (by decide) (by decide) fun j hj => ?_
    walk_at "rm_stp"
    have hj2 : tC n * j ≤ tC n * 2 := Nat.mul_le_mul_left _ (by omega)
    have hjl : (ranD 0 ((j : Nat) : Int).toNat).length = j := by rw [ranD_len, Int.toNat_natCast]
    have t18 := tL_ge n
    refine ⟨by rw [hjl]; omega, ?_⟩
    refine lcL_cost (h := 0) (m := tC n) (P := isTx (tL n) (tK n)) rfl (by rw [hjl]; omega) (fun x hx S c R hS hc r => ?_) fun ys c2 h2 h3 h4 => ?_
    · walk_at "rm_stp"
      rw [show ((n + 1 : Nat) : Int) - 1 = ((n : Nat) : Int) by omega]
      exact call_text hS hc fun x c' a d => r _ _ a ⟨x, rfl, d⟩
    rw [hjl] at h2 h3
    obtain ⟨ws, rfl, hws⟩ := txs_of h4
    rw [List.length_map] at h3
    simp only [List.set_cons_zero]
    refine ⟨Nat.le_trans (m := 3) (by rw [List.length_map]; omega) (by decide), by decide, call_draw' rfl (by omega) (by decide) (by decide) fun m hm => ?_⟩
    walk_at "rm_stp"
    obtain ⟨cl, hcl, e⟩ : ∃ cl : List Str, (cl = [] ∨ cl = [Str.ofString "close"]) ∧ (List.replicate (if (((m : Nat) : Int) == 0) = true then (1 : Int) else 0).toNat [PyData.str (Str.ofString "close")]).flatten = cl.map PyData.str := by
      by_cases h : m = 0
      · subst h
        exact ⟨[Str.ofString "close"], .inr rfl, rfl⟩
      · refine ⟨[], .inl rfl, ?_⟩
        rw [if_neg (by simp; omega)]
        rfl
    rw [e]
    have hcll : cl.length ≤ 1 := by rcases hcl with rfl | rfl <;> simp
    obtain ⟨r1, r2, r3⟩ := row_tx (cl := cl) hcl hn hws (by omega)
    have t20 : tL n ≤ 100000 := tL_le hn5
    refine ⟨Nat.le_trans (m := 4) (by rw [List.length_map]; omega) (by decide), cl ++ x :: ws, by simp, ?_, ?_, ?_, ?_⟩
    · rw [show (Str.ofString " ").length = 1 from by decide +kernel]; omega
    · rw [show (Str.ofString "(").length = 1 from by decide +kernel]
      exact Nat.le_trans (m := 300000) (by
        have := r1.len
        rw [str_len_app, str_len_app, show (Str.ofString "(").length = 1 from by decide +kernel] at this
        omega) (by decide)
    · exact Nat.le_trans (m := 300000) (by have := r1.len; rw [str_len_app] at this; omega) (by decide)
    · exact q _ _ (by omega) r1
theorem cal_law_text (T : Tx K mg) : ∀ n, n ≤ 5 → Cal P w K mg base (n + 4) "_law_text" (upF K (sText n))
  | 0, _ => text_zero T
  | n + 1, h => text_succ T n (by omega) (cal_law_text T n (by omega))
def sgns : List Str := ["(", ")", " ", "-", "0", "7", "a", "A", "_", "close", "own", " (", ") ", "()"]
theorem sgns_tx : ∀ z ∈ sgns, TxS 5 1 z := fun z hz => by
  have h1 : ∀ z ∈ sgns, z.length ≤ 5 ∧ (∀ c ∈ tl z, c < 128) ∧ cnt (tl z) ≤ 1 := by decide +kernel
  obtain ⟨a, b, c⟩ := h1 z hz
  exact ⟨a, b, c⟩
def sBent : Fs := fun ds S Q => ∃ (b n c : Nat) (x : Str), ds = [.ref 0, .dat (.str x)] ∧ S = [.spr (b + 4)] ∧ TxS n c x ∧ n ≤ 800 ∧ ∀ y d, b ≤ d → TxS (n + 5) (c + 1) y → Q (.dat (.str y)) [.spr d]
theorem cal_law_bent (T : Tx K mg) : Cal P w K mg base 3 "_law_bent" (upF K (sBent)) := by
  refine T.bent.calD f_law_bent_sc (fun _ _ _ _ _ _ us hl => match us, hl with | [_, _], _ => rfl) (fun ds S Q h => by obtain ⟨_, _, _, _, rfl, _⟩ := h; rfl) _ (fun f cdv A outer s H E hr => (dss_cut (ds_par (ps_par (i := 2) (j := 3) (by rfl) f_law_bent_sc.nd rfl rfl (by decide) rfl rfl (da_cons (de_call (pe_c (cal_law_draw T) hr (by omega) rfl (da_cons (de_var (pv 0)) (da_cons (de_add (de_callB call_len cd_len rfl T.n_len (by decide +kernel) (da_cons (de_var (pv 1)) da_nil)) de_int) da_nil)))) (da_cons (de_call (pe_c (cal_law_draw T) hr (by omega) rfl (da_cons (de_var (pv 0)) (da_cons (de_add (de_callB call_len cd_len rfl T.n_len (by decide +kernel) (da_cons (de_var (pv 1)) da_nil)) de_int) da_nil)))) da_nil)) (by rfl)))
      (dss_cut (ds_set (ps_set (i := 4) f_law_bent_sc.nd rfl (Or.inl rfl) (de_call (pe_c (cal_law_pick T) hr (by omega) rfl (da_cons (de_var (pv 0)) (da_cons (de_lst (da_cons de_str (da_cons de_str (da_cons de_str (da_cons de_str (da_cons de_str (da_cons de_str (da_cons de_str (da_cons de_str (da_cons de_str (da_cons de_str (da_cons de_str (da_cons de_str (da_cons de_str (da_cons de_str da_nil))))))))))))))) da_nil))))))
      (dss_cut (ds_par3 (ps_par3 (i := 5) (j := 6) (l := 7) (by rfl) f_law_bent_sc.nd rfl rfl rfl (by decide) (by decide) (by decide) rfl rfl rfl (da_cons (de_slice (de_var (pv 1)) do_none (do_some (de_var (pv 2)))) (da_cons (de_slice (de_var (pv 1)) (do_some (de_var (pv 2))) (do_some (de_add (de_var (pv 2)) de_int))) (da_cons (de_slice (de_var (pv 1)) (do_some (de_add (de_var (pv 2)) de_int)) do_none) da_nil))) (by rfl)))
      (dss_cut (ds_set (ps_set (i := 8) f_law_bent_sc.nd rfl (Or.inl rfl) (de_lstO (da_cons (de_add (de_var (pv 5)) (de_var (pv 7))) (da_cons (de_add (de_add (de_add (de_var (pv 5)) (de_var (pv 4))) (de_var (pv 6))) (de_var (pv 7))) (da_cons (de_add (de_add (de_var (pv 5)) (de_var (pv 4))) (de_var (pv 7))) (da_cons (de_var (pv 4)) (da_cons (de_add (de_add (de_add (de_var (pv 5)) (de_var (pv 6))) (de_var (pv 6))) (de_var (pv 7))) da_nil))))))))
      (dss_cut (ds_asg (ps_asg (de_callB cr_sorted cd_sortI rfl T.n_sorted (by decide +kernel) (da_cons (de_lst (da_cons (de_var (pv 2)) (da_cons (de_var (pv 3)) da_nil))) da_nil)) (dg_lst (n := 2) rfl (dgs_cons (dg_name (pg_name (i := 9) f_law_bent_sc.nd rfl (Or.inl rfl))) (dgs_cons (dg_name (pg_name (i := 10) f_law_bent_sc.nd rfl (Or.inl rfl))) dgs_nil)))))
      (dss_cut (ds_expr (de_append (pe_bm PySem.F.plainAttrs_list PySem.F.slot_list_append PySem.F.type_list_append mt_append (de_var (pv 8)) (pa_cons (de_add (de_slice (de_var (pv 1)) do_none (do_some (de_var (pv 9)))) (de_slice (de_var (pv 1)) (do_some (de_var (pv 10))) do_none)) pa_nil))))
      (dss_frz (i := 8) (dss_one (ds_ret (de_call (pe_c (cal_law_pick T) hr (by omega) rfl (da_cons (de_var (pv 0)) (da_cons (de_var (pv 8)) da_nil)))))))))))))) fun ds S Q h => ?_
  obtain ⟨b, n, c, x, rfl, rfl, hx, hn, q⟩ := h
  have hxl := hx.len
  walk_at "rm_stp"
  refine sCut_ev fun N hN => ?_
  walk_at "rm_stp"
  refine call_draw' rfl (by omega) (by omega) (by omega) fun i hi => ?_
  walk_at "rm_stp"
  refine call_draw' rfl (by omega) (by omega) (by omega) fun j hj => ?_
  walk_at "rm_stp"
  subst hN
  refine sCut_ev fun N hN => ?_
  walk_at "rm_stp"
  refine call_pick' (c := b + 4 - 1 - 1) (p := .list (sgns.map PyData.str)) (xs := sgns.map PyData.str) rfl (by omega) rfl (by decide) (by decide) fun y hy => ?_
  obtain ⟨z, rfl, hz⟩ : ∃ z : Str, y = .str z ∧ TxS 5 1 z := by
    obtain ⟨z, hz, rfl⟩ := List.mem_map.mp hy
    exact ⟨z, rfl, sgns_tx z hz⟩
  walk_at "rm_stp"
  subst hN
  refine sCut_ev fun N hN => ?_
  walk_at "rm_stp"
  obtain ⟨A, hA⟩ : ∃ A, A = cutS x none (some (i : Int)) := ⟨_, rfl⟩
  obtain ⟨B, hB⟩ : ∃ B, B = cutS x (some (i : Int)) (some ((i : Int) + 1)) := ⟨_, rfl⟩
  obtain ⟨C, hC⟩ : ∃ C, C = cutS x (some ((i : Int) + 1)) none := ⟨_, rfl⟩
  rw [← hA, ← hB, ← hC]
  have tA : tl A = (tl x).take i := by rw [hA, cutS_take]
  have tB : tl B = ((tl x).drop i).take 1 := by rw [hB, show (i : Int) + 1 = ((i + 1 : Nat) : Int) from by omega, cutS_mid (by omega) (by omega), show i + 1 - i = 1 by omega]
  have tC : tl C = (tl x).drop (i + 1) := by rw [hC, show (i : Int) + 1 = ((i + 1 : Nat) : Int) from by omega, cutS_drop]
  have eX : tl x = tl A ++ (tl B ++ tl C) := by
    rw [tA, tB, tC, show (tl x).drop (i + 1) = ((tl x).drop i).drop 1 by rw [List.drop_drop], List.take_append_drop, List.take_append_drop]
  obtain ⟨x1, x2, x3⟩ := hx
  rw [int_len, eX, List.length_append, List.length_append] at x1
  rw [eX, cnt_app, cnt_app] at x3
  have pA : strP A := fun c hc => x2 c (by rw [eX]; simp [hc])
  have pB : strP B := fun c hc => x2 c (by rw [eX]; simp [hc])
  have pC : strP C := fun c hc => x2 c (by rw [eX]; simp [hc])
  have lB : (tl B).length ≤ 1 := by rw [tB, List.length_take]; omega
  have cB : cnt (tl B) ≤ 1 := by
    cases h : tl B with
    | nil => decide
    | cons a r =>
      rw [h, List.length_cons] at lB
      have : r = [] := List.length_eq_zero_iff.mp (by omega)
      subst this
      unfold cnt
      rw [List.map_cons, List.sum_cons]
      simp only [List.map_nil, List.sum_nil]
      split <;> omega
  have TA : TxS A.length (cnt (tl A)) A := ⟨Nat.le_refl _, pA, Nat.le_refl _⟩
  have TB : TxS B.length (cnt (tl B)) B := ⟨Nat.le_refl _, pB, Nat.le_refl _⟩
  have TC : TxS C.length (cnt (tl C)) C := ⟨Nat.le_refl _, pC, Nat.le_refl _⟩
  rw [← int_len, ← int_len, ← int_len] at x1
  rw [← int_len] at lB
  have k1 : TxS (n + 5) (c + 1) (A ++ C) := (TA.app TC).le (by omega) (by omega)
  have k2 : TxS (n + 5) (c + 1) (A ++ z ++ B ++ C) := (((TA.app hz).app TB).app TC).le (by omega) (by omega)
  have k3 : TxS (n + 5) (c + 1) (A ++ z ++ C) := ((TA.app hz).app TC).le (by omega) (by omega)
  have k4 : TxS (n + 5) (c + 1) z := hz.le (by omega) (by omega)
  have k5 : TxS (n + 5) (c + 1) (A ++ B ++ B ++ C) := (((TA.app TB).app TB).app TC).le (by omega) (by omega)
  have hzl := hz.len
  subst hN
  refine sCut_ev fun N hN => ?_
  walk_at "rm_stp"
  have sm : ∀ k, k ≤ 5000 → k ≤ sizeLine := fun k h => Nat.le_trans h (by decide)
  simp only [str_len_app]
  refine ⟨sm _ (by omega), sm _ (by omega), sm _ (by omega), sm _ (by omega), sm _ (by omega), sm _ (by omega), sm _ (by omega), by decide, ?_⟩
  subst hN
  refine sCut_ev fun N hN => ?_
  walk_at "rm_xd4bb41f5"
  refine ⟨[(i : Int), (j : Int)], rfl, by simp, fun ms hp hs => ?_⟩
  obtain ⟨lo, hi', rfl, hlh, hlx, hhx⟩ : ∃ lo hi : Nat, ms = [(lo : Int), (hi : Int)] ∧ lo ≤ hi ∧ lo ≤ x.length ∧ hi ≤ x.length := by
    have hl2 := hp.length_eq
    match ms, hl2 with
    | [u, v], _ =>
      have hu := (hp.mem_iff (a := u)).mp (by simp)
      have hv := (hp.mem_iff (a := v)).mp (by simp)
      simp only [List.pairwise_cons, List.mem_singleton, forall_eq] at hs
      have huv := hs.1
      simp only [List.mem_cons, List.not_mem_nil, or_false] at hu hv
      refine ⟨u.toNat, v.toNat, ?_, ?_, ?_, ?_⟩
      · rw [show ((u.toNat : Nat) : Int) = u by omega, show ((v.toNat : Nat) : Int) = v by omega]
      · omega
      · omega
      · omega
  walk_at "rm_xf786d136"
  subst hN
  refine sCut_ev fun N hN => ?_
  walk_at "rm_stp"
  have k6 : TxS (n + 5) (c + 1) (cutS x none (some (lo : Int)) ++ cutS x (some (hi' : Int)) none) := by
    have e1 : tl x = (tl x).take lo ++ (((tl x).drop lo).take (hi' - lo) ++ (tl x).drop hi') := by
      rw [show (tl x).drop hi' = ((tl x).drop lo).drop (hi' - lo) by rw [List.drop_drop]; congr 1; omega, List.take_append_drop, List.take_append_drop]
    have e2 := congrArg cnt e1
    have e3 := congrArg List.length e1
    rw [cnt_app, cnt_app] at e2
    rw [List.length_append, List.length_append] at e3
    have x3' : cnt (tl x) ≤ c := by rw [eX, cnt_app, cnt_app]; exact x3
    have e4 := int_len x
    refine ⟨?_, fun c hc => ?_, ?_⟩
    · rw [str_len_app, int_len, int_len, cutS_take, cutS_drop]
      omega
    · rw [tl_app, cutS_take, cutS_drop] at hc
      rcases List.mem_append.mp hc with hc | hc
      · exact x2 c (List.mem_of_mem_take hc)
      · exact x2 c (List.mem_of_mem_drop hc)
    · rw [tl_app, cnt_app, cutS_take, cutS_drop]
      omega
  have l6 := k6.len
  rw [str_len_app] at l6
  refine ⟨sm _ (by omega), by decide, ?_⟩
  subst hN
  walk_at "rm_stp"
  have hbb : b + 4 - 1 - 1 - 1 = b + 1 := by omega
  rw [hbb]
  refine call_pick' (c := b + 1) rfl (by omega) rfl (by simp) (by simp) fun y hy => ?_
  have hy' : isTx (n + 5) (c + 1) y := by
    simp only [List.mem_cons, List.not_mem_nil, or_false] at hy
    rcases hy with rfl | rfl | rfl | rfl | rfl | rfl
    · exact ⟨_, rfl, k1⟩
    · exact ⟨_, rfl, k2⟩
    · exact ⟨_, rfl, k3⟩
    · exact ⟨_, rfl, k4⟩
    · exact ⟨_, rfl, k5⟩
    · exact ⟨_, rfl, k6⟩
  obtain ⟨t, rfl, ht⟩ := hy'
  exact ⟨by simp, by simp [Ob.cl], q t b (Nat.le_refl _) ht⟩
theorem sBent_mono : sBent.Mono := fun _ _ _ _ h ⟨b, n, c, x, h1, h2, h3, h4, q⟩ => ⟨b, n, c, x, h1, h2, h3, h4, fun y d a e => h _ _ (q y d a e)⟩
theorem call_bent {h k n c : Nat} {x : Str} {S : Os} {Q : DQ} (hS : S[h]? = some (.spr k)) (hk : 4 ≤ k) (hx : TxS n c x) (hn : n ≤ 800) (q : ∀ y k', k ≤ k' + 4 → TxS (n + 5) (c + 1) y → Q (.dat (.str y)) (S.set h (.spr k'))) : callS sBent [.ref h, .dat (.str x)] S Q := by
  obtain ⟨b, rfl⟩ : ∃ b, k = b + 4 := ⟨k - 4, by omega⟩
  exact callS_1 (ps := [.str x]) sBent_mono hS rfl ⟨b, n, c, x, rfl, rfl, hx, hn, fun y d a e => ⟨_, _, rfl, rfl, rfl, q y d (by omega) e⟩⟩
end
end Rm

set_option Elab.async false
set_option linter.all false
set_option maxRecDepth 100000
set_option maxHeartbeats 4000000
namespace Rm
open PySem PySem.Spec PyProof.Rows L2
inductive SmD : Nat → PyData → Prop
  | int {n : Nat} (i : Int) : SmD (n + 1) (.int i)
  | str {n : Nat} (x : Str) : SmD (n + 1) (.str x)
  | non {n : Nat} : SmD (n + 1) .none
  | lst {n : Nat} {ds : List PyData} : ds.length ≤ 1000 → (∀ d ∈ ds, SmD n d) → SmD (n + 1) (.list ds)
  | tup {n : Nat} {ds : List PyData} : ds.length ≤ 1000 → (∀ d ∈ ds, SmD n d) → SmD (n + 1) (.tuple ds)
def sSame (n : Nat) : Fs := Pf (fun d : PyData => SmD n d) (fun d => [d, d]) fun _ => .bool true
section
variable {P : Program} {w : World} {K : PySem.W.Frag} {mg : Str → Option Value} {base : Heap}
theorem same_zip {n : Nat} {ds : List PyData} {v0 v1 v2 : Option D} {Q : DQ} (hl : ds.length ≤ 1000) (hs : ∀ d ∈ ds, SmD n d) (q : Q (.dat (.bool true)) []) :
    (ds.zip ds).length ≤ 1000000 ∧ lcL (.tup [3, 4]) dYes (dCall (sSame n) (dCons (dVar 3) (dCons (dVar 4) dNil))) [v0, v1, v2, none, none] (((ds.zip ds).map fun p => PyData.tuple [p.1, p.2]).map .dat) [] fun ys S2 =>
      ∃ x : List Bool, ys = x.map PyData.bool ∧ Q (.dat (.bool (x.all id))) [] := by
  have hz : ds.zip ds = ds.map fun d => (d, d) := by
    clear hl hs
    induction ds with
    | nil => rfl
    | cons a r ih => rw [List.zip_cons_cons, ih, List.map_cons]
  rw [hz, List.map_map, List.map_map]
  refine ⟨by simp; omega, lcL_map (f := fun _ => .bool true) (fun x hx R hR => ?_) ⟨ds.map fun _ => true, by simp [Function.comp_def], ?_⟩⟩
  · obtain ⟨d, hd, rfl⟩ := List.mem_map.mp hx
    refine ⟨[d, d], rfl, rfl, ?_⟩
    simp only [setsD]
    walk_at "rm_stp"
    exact callS_Pf.mpr ⟨d, rfl, hs d hd, hR⟩
  · have e : (ds.map fun _ => true).all id = true := by simp
    rw [e]
    exact q
theorem same_body (T : Tx K mg) (n : Nat) (ih : Cal P w K mg base (n + 1) "_law_same" (upF K (sSame n))) : Cal P w K mg base (n + 2) "_law_same" (upF K (sSame (n + 1))) := by
  refine T.same.calD f_law_same_sc (fun _ _ _ _ _ _ us hl => match us, hl with | [_, _], _ => rfl) (fun ds S Q h => by obtain ⟨_, a, rfl, _⟩ := h; rfl) _ (fun f cdv A outer s H E hr => (dss_cons (ds_if (dt_val (de_isiT (ts := ["list", "tuple"]) (pe_callB call_isiT rfl T.n_isinstance (by decide +kernel) (pa_cons (de_var (pv 1)) (pa_cons (pe_tup (pa_cons (pe_bltn (v := .ty "list") (u := .type "list") rfl T.n_list (by decide +kernel) rfl) (pa_cons (pe_bltn (v := .ty "tuple") (u := .type "tuple") rfl T.n_tuple (by decide +kernel) rfl) pa_nil))) pa_nil))) (by simp))) (dss_cons (ds_if (PW.pt (dw_or (dt_cmp (opr_ne hr.units) od_ne (de_isi (n := "list") (pe_callB call_isi rfl T.n_isinstance (by decide +kernel) (pa_cons (de_var (pv 0)) (pa_cons (pe_bltn (v := .ty "list") (u := .type "list") rfl T.n_list (by decide +kernel) rfl) pa_nil))) (by simp)) (de_isi (n := "list") (pe_callB call_isi rfl T.n_isinstance (by decide +kernel) (pa_cons (de_var (pv 1)) (pa_cons (pe_bltn (v := .ty "list") (u := .type "list") rfl T.n_list (by decide +kernel) rfl) pa_nil))) (by simp)) (nomark _)) (dw_or1 (dt_cmp (opr_ne hr.units) od_ne (de_isi (n := "tuple") (pe_callB call_isi rfl T.n_isinstance (by decide +kernel) (pa_cons (de_var (pv 0)) (pa_cons (pe_bltn (v := .ty "tuple") (u := .type "tuple") rfl T.n_tuple (by decide +kernel) rfl) pa_nil))) (by simp)) (de_isi (n := "tuple") (pe_callB call_isi rfl T.n_isinstance (by decide +kernel) (pa_cons (de_var (pv 1)) (pa_cons (pe_bltn (v := .ty "tuple") (u := .type "tuple") rfl T.n_tuple (by decide +kernel) rfl) pa_nil))) (by simp)) (nomark _))))) (dss_one (ds_ret de_bl)) dss_nil)
      (dss_cons (ds_set (ps_set (i := 2) f_law_same_sc.nd rfl (Or.inl rfl) (de_lzip (pe_lzip rfl rfl T.n_list rfl T.n_zip (da_cons (de_var (pv 0)) (da_cons (de_var (pv 1)) da_nil))))))
      (dss_one (ds_ret (de_and (de_cmp (opr_eq hr.units) od_eq (de_callB call_len cd_len rfl T.n_len (by decide +kernel) (da_cons (de_var (pv 0)) da_nil)) (de_callB call_len cd_len rfl T.n_len (by decide +kernel) (da_cons (de_var (pv 1)) da_nil)) (nomark _)) (de_one (de_callB (cr_all rfl) cd_all rfl T.n_all (by decide +kernel) (da_cons (de_lc (g := .tup [3, 4]) (pe_lc (own := [("_law_one", 3), ("_law_other", 4)]) rfl f_law_same_sc.nd (di_row (de_var (pv 2))) (blkOk_by (own := [("_law_one", 3), ("_law_other", 4)]) (N := f_law_same_N) (sc := defScope f_law_same_s) (by decide +kernel)) (fun _ _ _ _ _ => (pg_tup rfl (pgs_cons (pg_name (i := 3) f_law_same_sc.nd rfl (Or.inl rfl)) (pgs_cons (pg_name (i := 4) f_law_same_sc.nd rfl (Or.inl rfl)) pgs_nil)))) (fun _ _ _ _ _ => dts_nil) (fun _ _ _ _ _ => (de_call (pe_c ih hr (by omega) rfl (da_cons (de_var (pv 3)) (da_cons (de_var (pv 4)) da_nil))))))) da_nil)))))))) dss_nil)
      (dss_cons (ds_if (dt_val (de_isiT (ts := ["bool", "int"]) (pe_callB call_isiT rfl T.n_isinstance (by decide +kernel) (pa_cons (de_var (pv 1)) (pa_cons (pe_tup (pa_cons (pe_bltn (v := .ty "bool") (u := .type "bool") rfl T.n_bool (by decide +kernel) rfl) (pa_cons (pe_bltn (v := .ty "int") (u := .type "int") rfl T.n_int (by decide +kernel) rfl) pa_nil))) pa_nil))) (by simp))) (dss_one (ds_ret (de_and (de_isi (n := "int") (pe_callB call_isi rfl T.n_isinstance (by decide +kernel) (pa_cons (de_var (pv 0)) (pa_cons (pe_bltn (v := .ty "int") (u := .type "int") rfl T.n_int (by decide +kernel) rfl) pa_nil))) (by simp)) (de_and (de_cmp (opr_eq hr.units) od_eq (de_isi (n := "bool") (pe_callB call_isi rfl T.n_isinstance (by decide +kernel) (pa_cons (de_var (pv 0)) (pa_cons (pe_bltn (v := .ty "bool") (u := .type "bool") rfl T.n_bool (by decide +kernel) rfl) pa_nil))) (by simp)) (de_isi (n := "bool") (pe_callB call_isi rfl T.n_isinstance (by decide +kernel) (pa_cons (de_var (pv 1)) (pa_cons (pe_bltn (v := .ty "bool") (u := .type "bool") rfl T.n_bool (by decide +kernel) rfl) pa_nil))) (by simp)) (nomark _)) (de_one (de_cmp (opr_eq hr.units) od_eq (de_var (pv 0)) (de_var (pv 1)) (nomark _))))))) dss_nil)
      (dss_one (ds_ret (de_and (de_not (de_isiT (ts := ["bool", "int", "list", "tuple"]) (pe_callB call_isiT rfl T.n_isinstance (by decide +kernel) (pa_cons (de_var (pv 0)) (pa_cons (pe_tup (pa_cons (pe_bltn (v := .ty "bool") (u := .type "bool") rfl T.n_bool (by decide +kernel) rfl) (pa_cons (pe_bltn (v := .ty "int") (u := .type "int") rfl T.n_int (by decide +kernel) rfl) (pa_cons (pe_bltn (v := .ty "list") (u := .type "list") rfl T.n_list (by decide +kernel) rfl) (pa_cons (pe_bltn (v := .ty "tuple") (u := .type "tuple") rfl T.n_tuple (by decide +kernel) rfl) pa_nil))))) pa_nil))) (by simp))) (de_one (de_cmp (opr_eq hr.units) od_eq (de_var (pv 0)) (de_var (pv 1)) (nomark _))))))))) fun ds S Q h => ?_
  obtain ⟨rfl, d, rfl, hd, q⟩ := h
  cases hd with
  | int i =>
    walk_at "rm_stp"
    simp [isT, isTn, tyN, PyData.eqv, eqOk, flatP]
    exact q
  | str x =>
    walk_at "rm_stp"
    simp [isT, isTn, tyN, PyData.eqv, eqOk, flatP]
    exact q
  | non =>
    walk_at "rm_stp"
    simp [isT, isTn, tyN, PyData.eqv, eqOk, flatP]
    exact q
  | lst hl hs =>
    rename_i ds
    walk_at "rm_stp"
    rw [if_pos (by simp [isT, isTn, tyN])]
    refine ⟨.inl ⟨rfl, rfl⟩, ?_⟩
    rw [if_neg (by simp [isT, isTn, tyN, PyData.eqv])]
    refine ⟨.inl ⟨rfl, rfl⟩, ?_⟩
    rw [if_neg (by simp [isT, isTn, tyN, PyData.eqv])]
    simp only [dLZip]
    walk_at "rm_stp"
    rw [if_pos (by simp)]
    exact same_zip hl hs q
  | tup hl hs =>
    rename_i ds
    walk_at "rm_stp"
    rw [if_pos (by simp [isT, isTn, tyN])]
    refine ⟨.inl ⟨rfl, rfl⟩, ?_⟩
    rw [if_neg (by simp [isT, isTn, tyN, PyData.eqv])]
    refine ⟨.inl ⟨rfl, rfl⟩, ?_⟩
    rw [if_neg (by simp [isT, isTn, tyN, PyData.eqv])]
    simp only [dLZip]
    walk_at "rm_stp"
    rw [if_pos (by simp)]
    exact same_zip hl hs q
theorem cal_law_same (T : Tx K mg) : ∀ n, Cal P w K mg base (n + 1) "_law_same" (upF K (sSame n))
  | 0 => T.same.zeroD (ps := f_law_same_P) (fun _ _ _ _ _ _ us hl => match us, hl with | [_, _], _ => rfl) fun ds S Q h => by
    obtain ⟨rfl, d, rfl, hd, q⟩ := h
    cases hd
  | n + 1 => same_body T n (cal_law_same T n)
end
end Rm

set_option Elab.async false
set_option linter.all false
set_option maxRecDepth 100000
set_option maxHeartbeats 4000000
namespace Rm
open PySem PySem.Spec PyProof.Rows L2
theorem cnt_mem {f : PyData → Str} {d : PyData} : ∀ {ds : List PyData}, d ∈ ds → cnt (tl (wordOf f d)) ≤ ((ds.map fun d => tl (wordOf f d)).map cnt).sum
  | a :: r, h => by
    rw [List.map_cons, List.map_cons, List.sum_cons]
    rcases List.mem_cons.mp h with rfl | h
    · omega
    · have := cnt_mem (f := f) h; omega
theorem vt_cnt : ∀ (n : Nat) (v : PyData), vt n v → ∀ m, cnt (tl (txt n v)) ≤ m → vt m v ∧ txt m v = txt n v
  | n, .int i, h, m, _ => by
    have hz : i.natAbs < 10 ^ 30 := by cases n <;> exact h
    refine ⟨by cases m <;> exact hz, ?_⟩
    cases m <;> cases n <;> rfl
  | n + 1, .tuple ds, h, m, hm => by
    have e : tl (txt (n + 1) (.tuple ds)) = 40 :: (jw n ds ++ [41]) := txt_tl
    have e2 : cnt (40 :: (jw n ds ++ [41])) = 1 + cnt (jw n ds) := by
      rw [show 40 :: (jw n ds ++ [41]) = [40] ++ (jw n ds ++ [41]) from rfl, cnt_app, cnt_app]
      rfl
    rw [e, e2] at hm
    obtain ⟨m, rfl⟩ : ∃ k, m = k + 1 := ⟨m - 1, by omega⟩
    obtain ⟨hd, es, rfl, hh, hl, he⟩ := h
    have key : ∀ d ∈ es, vt m d ∧ txt m d = txt n d := fun d hd' => by
      refine vt_cnt n d (he d hd') m ?_
      have := cnt_mem (f := txt n) (ds := hd.map PyData.str ++ es) (List.mem_append.mpr (.inr hd'))
      rw [← cnt_joinL, vt_nostr' (he d hd')] at this
      have h2 : cnt (TL.joinL [32] ((hd.map PyData.str ++ es).map fun d => tl (wordOf (txt n) d))) = cnt (jw n (hd.map PyData.str ++ es)) := rfl
      omega
    refine ⟨⟨hd, es, rfl, hh, hl, fun d hd' => (key d hd').1⟩, ?_⟩
    show rowT (txt m) _ = rowT (txt n) _
    unfold rowT
    have e3 : (hd.map PyData.str ++ es).map (wordOf (txt m)) = (hd.map PyData.str ++ es).map (wordOf (txt n)) := List.map_congr_left fun d hm => by
      rcases List.mem_append.mp hm with hm | hm
      · obtain ⟨x, _, rfl⟩ := List.mem_map.mp hm
        rfl
      · rw [vt_nostr' (key d hm).1, vt_nostr' (he d hm), (key d hm).2]
    rw [e3]
  | 0, .tuple _, h, _, _ => by cases h
  | n, .none, h, _, _ => by cases n <;> cases h
  | n, .bool _, h, _, _ => by cases n <;> cases h
  | n, .str _, h, _, _ => by cases n <;> cases h
  | n, .list _, h, _, _ => by cases n <;> cases h
  | n, .dict _, h, _, _ => by cases n <;> cases h
theorem reads_iff {x : Str} (hc : cnt (tl x) ≤ 9) {v : PyData} : lrd 10 (tl x) = some (v, []) ↔ readP 11 x = some v := by
  constructor
  · exact lrd_readP (n := 9)
  · intro h
    obtain ⟨a, b⟩ := readP_some h
    obtain ⟨a1, b1⟩ := vt_cnt 11 v a 9 (by rw [b]; exact hc)
    have := lrd_txt 9 v a1 [] (.inl rfl)
    rw [b1, b, List.append_nil] at this
    exact this
end Rm

set_option Elab.async false
set_option linter.all false
set_option maxRecDepth 100000
set_option maxHeartbeats 4000000
namespace Rm
open PySem PySem.Spec PyProof.Rows L2
def rdD (x : Str) : Option (PyData × List Nat) → PyData
  | none => .none
  | some (v, r) => .tuple [v, .int ((x.length : Int) - r.length)]
def sRead (n : Nat) : Fs := Pf (fun a : Str × Nat => a.1.length ≤ 900 ∧ strP a.1 ∧ a.2 ≤ a.1.length ∧ cnt ((tl a.1).drop a.2) < n) (fun a => [.str a.1, .int (a.2 : Nat)]) fun a => rdD a.1 (lrd n ((tl a.1).drop a.2))
def sIsNumb : Fs := Pf (fun x : Str => x.length ≤ 1000) (fun x => [.str x]) fun x => .bool (wi x)
section
variable {P : Program} {w : World} {K : PySem.W.Frag} {mg : Str → Option Value} {base : Heap}
theorem num_rest {x y : Str} {Q : DQ} (hx : x.length ≤ 1000) (e : y = dgt x) (q : Q (.dat (.bool (wi x))) []) :
    y.length ≤ sizeLine ∧ if decide (0 < (y.length : Int)) = true then
      if (!decide ((y.length : Int) < 31)) = true then Q (.dat (.bool false)) []
      else (sgnD y).length ≤ 1000000 ∧ lcL (.one 2) dYes (dOp (rInB false) (dVar 2) (dC (.dat (.str (Str.ofString "0123456789"))))) [some (.dat (.str x)), some (.dat (.str y)), none] (sgnD y) [] fun ps S1 =>
        ∃ x_1 : List Bool, ps = x_1.map PyData.bool ∧ if (!x_1.all id) = true then Q (.dat (.bool false)) []
          else y.length ≤ sizeLine ∧ ∃ z, atP (.str y) 0 = some z ∧ eqOk z (.str (Str.ofString "0")) ∧
            if (!z.eqv (.str (Str.ofString "0"))) = true then Q (.dat (.bool true)) [] else Q (.dat (.bool (x == Str.ofString "0"))) []
      else Q (.dat (.bool false)) [] := by
  have hy : y.length ≤ 1000 := by
    rw [e]; unfold dgt; split
    · exact Nat.le_trans cutS_len hx
    · exact hx
  have e1 : decide ((0 : Int) < ↑y.length) = decide (1 ≤ y.length) := by congr 1; simp; omega
  have e2 : decide ((y.length : Int) < 31) = decide (y.length ≤ 30) := by congr 1; simp; omega
  rw [e1, e2]
  unfold wi at q
  rw [← e] at q
  refine ⟨small hy, ?_⟩
  by_cases h1 : 1 ≤ y.length
  · rw [decide_eq_true h1] at q ⊢
    by_cases h2 : y.length ≤ 30
    · rw [decide_eq_true h2] at q ⊢
      simp only [Bool.not_true, Bool.false_eq_true, if_false, if_true, Bool.true_and] at q ⊢
      refine ⟨by rw [sgnD_len]; omega, ?_⟩
      unfold sgnD
      refine lcL_sgn (f := fun c => .bool (decide (c ∈ digs.cps.toList))) (fun c hc R hR => ?_) ?_
      · walk_at "rm_stp"
        exact hR
      · refine ⟨y.cps.toList.map fun c => decide (c ∈ digs.cps.toList), by simp, ?_⟩
        rw [List.all_map]
        show if (!(tl y).all fun c => decide (c ∈ digs.cps.toList)) = true then _ else _
        cases h3 : (tl y).all fun c => decide (c ∈ digs.cps.toList) with
        | false => rw [h3] at q; simpa using q
        | true =>
          rw [h3] at q
          simp only [Bool.not_true, Bool.false_eq_true, if_false, Bool.true_and] at q ⊢
          obtain ⟨c, r, ec⟩ : ∃ c r, tl y = c :: r := List.exists_cons_of_ne_nil fun e => by rw [int_len, e] at h1; simp at h1
          refine ⟨small hy, .str ⟨#[c]⟩, ?_, .inl ⟨rfl, rfl⟩, ?_⟩
          · show (atI y.cps.toList 0).map _ = _
            rw [show y.cps.toList = c :: r from ec, atI_0]
            rfl
          · rw [ec] at q
            rw [eqv_ss]
            have : ((⟨#[c]⟩ : Str) == ("0" : Str)) = ((c :: r).head? == some 48) := by
              rw [beq_tl]
              have : tl ("0" : Str) = [48] := by decide +kernel
              rw [this]
              show decide ([c] = [48]) = _
              by_cases h : c = 48
              · subst h; simp
              · rw [decide_eq_false (by simpa using h)]
                simp [h]
            rw [this]
            cases h4 : (c :: r).head? == some 48 with
            | true =>
              rw [h4] at q
              simpa using q
            | false =>
              rw [h4] at q
              simpa using q
    · rw [decide_eq_false h2] at q ⊢
      simpa using q
  · rw [decide_eq_false h1] at q ⊢
    simpa using q
theorem cal_law_is_number (T : Tx K mg) : Cal P w K mg base 1 "_law_is_number" (upF K (sIsNumb)) := by
  refine T.is_number.calD f_law_is_number_sc (fun _ _ _ _ _ _ us hl => match us, hl with | [_], _ => rfl) (fun ds S Q h => by obtain ⟨_, a, rfl, _⟩ := h; rfl) _ (fun f cdv A outer s H E hr => (dss_cons (ds_set (ps_set (i := 1) f_law_is_number_sc.nd rfl (Or.inl rfl) (de_ifExp (dt_cmp (opr_eq hr.units) od_eq (de_slice (de_var (pv 0)) do_none (do_some de_int)) de_str (nomark _)) (de_slice (de_var (pv 0)) (do_some de_int) do_none) (de_var (pv 0)))))
      (dss_cons (ds_if (PW.pt (dw_or (dt_not (dt_chain op_lt od_lt op_lt od_lt de_int (de_callB call_len cd_len rfl T.n_len (by decide +kernel) (da_cons (de_var (pv 1)) da_nil)) de_int)) (dw_or1 (dt_not (dt_val (de_callB (cr_all rfl) cd_all rfl T.n_all (by decide +kernel) (da_cons (de_lc (g := .one 2) (pe_lc (own := [("_law_one", 2)]) rfl f_law_is_number_sc.nd (di_row (de_var (pv 1))) (blkOk_by (own := [("_law_one", 2)]) (N := f_law_is_number_N) (sc := defScope f_law_is_number_s) (by decide +kernel)) (fun _ _ _ _ _ => (pg_name (i := 2) f_law_is_number_sc.nd rfl (Or.inl rfl))) (fun _ _ _ _ _ => dts_nil) (fun _ _ _ _ _ => (de_cmp opr_in od_in1 (de_var (pv 2)) de_str (by rfl))))) da_nil))))))) (dss_one (ds_ret de_bl)) dss_nil)
      (dss_one (ds_ret (de_or (de_cmp (opr_ne hr.units) od_ne (de_item (de_var (pv 1)) de_int) de_str (nomark _)) (de_one (de_cmp (opr_eq hr.units) od_eq (de_var (pv 0)) de_str (nomark _))))))))) fun ds S Q h => ?_
  obtain ⟨rfl, x, rfl, hx, q⟩ := h
  walk_at "rm_stp"
  by_cases h : (cutS x none (some 1) == ("-" : Str)) = true
  · rw [if_pos h]
    exact ⟨small hx, num_rest hx (by unfold dgt; rw [if_pos h]) q⟩
  · rw [if_neg h]
    exact num_rest hx (by unfold dgt; rw [if_neg h]) q
end
theorem while_go {c : DT} {tb : DSm} {E : DEnds} (I : Nat → Rh → Os → Prop) {n : Nat} {ρ : Rh} {S : Os} (step : ∀ (n : Nat) (ρ : Rh) (S : Os) (N : Rh → Os → Prop), I n ρ S → (∀ m ρ' S', m < n → I m ρ' S' → N ρ' S') → c ρ S fun b S1 => if b = true then tb { E with nx := N, ct := N, bk := E.nx } ρ S1 else E.nx ρ S1) (h : I n ρ S) : sWhile c tb E ρ S := by
  have key : ∀ (k n : Nat) (ρ : Rh) (S : Os), n < k → I n ρ S → wloop c tb E k ρ S := fun k => by
    induction k with
    | zero => intro n ρ S h; exact absurd h (Nat.not_lt_zero _)
    | succ k ih =>
      intro n ρ S hk hI
      exact step n ρ S (wloop c tb E k) hI fun m ρ' S' hm hI' => ih m ρ' S' (by omega) hI'
  exact ⟨n + 1, key (n + 1) n ρ S (Nat.lt_succ_self _) h⟩
abbrev wcond : DT := dT (dOp (rInB true) (dSl (dVar 0) (dPart (dVar 2)) (dPart (dOp rAdd (dVar 2) (dC (D.dat (PyData.int 1)))))) (dTup (dCons (dC (D.dat (PyData.str (Str.ofString "")))) (dCons (dC (D.dat (PyData.str (Str.ofString " ")))) (dCons (dC (D.dat (PyData.str (Str.ofString "(")))) (dCons (dC (D.dat (PyData.str (Str.ofString ")")))) dNil))))))
abbrev wbody : DSm := sAsg (dOp rAdd (dVar 2) (dC (D.dat (PyData.int 1)))) (dgName 2)
def seps : List Str := ["", " ", "(", ")"]
theorem sep_at (s : List Nat) : seps.contains (mkS (s.take 1)) = match s with
    | [] => true
    | c :: _ => sepc c := by
  cases s with
  | nil => decide +kernel
  | cons c r =>
    show seps.contains (mkS [c]) = sepc c
    have e0 : tl ("" : Str) = [] := by decide +kernel
    have e1 : tl (" " : Str) = [32] := by decide +kernel
    have e2 : tl ("(" : Str) = [40] := by decide +kernel
    have e3 : tl (")" : Str) = [41] := by decide +kernel
    simp only [seps, List.contains_cons, List.contains_nil, beq_tl, e0, e1, e2, e3, sepc, mkS, tl, Bool.or_false]
    by_cases h1 : c = 32 <;> by_cases h2 : c = 40 <;> by_cases h3 : c = 41 <;> simp [h1, h2, h3]
theorem wd_sep {c : Nat} {r : List Nat} (h : sepc c = true) : wd (c :: r) = [] := by unfold wd; rw [List.takeWhile_cons]; simp [h]
theorem wd_con {c : Nat} {r : List Nat} (h : sepc c = false) : wd (c :: r) = c :: wd r := by unfold wd; rw [List.takeWhile_cons]; simp [h]
theorem sgn_at {x : Str} {k : Nat} (h : k ≤ x.length) : cutS x (some (k : Int)) (some ((k : Int) + 1)) = mkS (((tl x).drop k).take 1) := by
  refine tl_inj ?_
  rw [show (k : Int) + 1 = ((k + 1 : Nat) : Int) from by omega, cutS_mid h (by omega), show k + 1 - k = 1 by omega]
  rfl
theorem word_loop {x : Str} {e : Nat} {a1 a3 a4 a5 : Option D} {E : DEnds} {S : Os} (hx : x.length ≤ 900) (he : e ≤ x.length) (q : E.nx [some (.dat (.str x)), a1, some (.dat (.int ((e + (wd ((tl x).drop e)).length : Nat)))), a3, a4, a5] S) :
    sWhile wcond wbody E [some (.dat (.str x)), a1, some (.dat (.int (e : Nat))), a3, a4, a5] S := by
  refine while_go (fun n ρ S' => ∃ k : Nat, n = x.length - k ∧ ρ = [some (.dat (.str x)), a1, some (.dat (.int (k : Nat))), a3, a4, a5] ∧ S' = S ∧ k ≤ x.length ∧ k + (wd ((tl x).drop k)).length = e + (wd ((tl x).drop e)).length) (fun n ρ S' N h hN => ?_) ⟨e, rfl, rfl, rfl, he, rfl⟩
  obtain ⟨k, rfl, rfl, rfl, hk, hs⟩ := h
  walk_at "rm_stp"
  rw [sgn_at hk, show [PyData.str (Str.ofString ""), PyData.str (Str.ofString " "), PyData.str (Str.ofString "("), PyData.str (Str.ofString ")")] = seps.map PyData.str from rfl, inP_str, sep_at]
  have stop : (wd ((tl x).drop k)).length = 0 → E.nx [some (.dat (.str x)), a1, some (.dat (.int (k : Nat))), a3, a4, a5] S' := fun z => by
    rw [z, Nat.add_zero] at hs
    rw [← hs] at q
    exact q
  cases hd : (tl x).drop k with
  | nil =>
    rw [if_neg (by simp)]
    exact stop (by rw [hd]; rfl)
  | cons c r =>
    have hlt : k < x.length := by
      rw [int_len]
      refine Nat.lt_of_not_le fun z => ?_
      rw [List.drop_of_length_le z] at hd
      cases hd
    have hr : (tl x).drop (k + 1) = r := by rw [← List.drop_drop, hd]; rfl
    dsimp only
    by_cases h : sepc c = true
    · rw [if_neg (by simp [h])]
      exact stop (by rw [hd, wd_sep h]; rfl)
    · rw [Bool.not_eq_true] at h
      rw [if_pos (by simp [h])]
      refine hN (x.length - (k + 1)) _ _ (by omega) ⟨k + 1, rfl, rfl, rfl, by omega, ?_⟩
      rw [hr]
      rw [hd, wd_con h, List.length_cons] at hs
      omega
theorem wd_take (s : List Nat) : s.take (wd s).length = wd s := by
  have := List.take_left' (l₁ := wd s) (l₂ := wr s) rfl
  rwa [wd_wr] at this
theorem wd_drop (s : List Nat) : s.drop (wd s).length = wr s := by
  have := List.drop_left' (l₁ := wd s) (l₂ := wr s) rfl
  rwa [wd_wr] at this
theorem wd_len (s : List Nat) : (wd s).length + (wr s).length = s.length := by
  rw [← List.length_append, wd_wr]
theorem cut_wd {x : Str} {a : Nat} {s : List Nat} (ha : a ≤ x.length) (e : (tl x).drop a = s) : cutS x (some (a : Int)) (some ((a + (wd s).length : Nat) : Int)) = mkS (wd s) := by
  refine tl_inj ?_
  rw [cutS_mid ha (by omega), e, show a + (wd s).length - a = (wd s).length by omega, wd_take]
  rfl
theorem sgn_is {x : Str} {k c : Nat} {y : Str} (hk : k ≤ x.length) (hy : tl y = [c]) : (cutS x (some (k : Int)) (some ((k : Int) + 1)) == y) = decide (((tl x).drop k).head? = some c) := by
  rw [sgn_at hk, beq_tl, hy]
  show decide (((tl x).drop k).take 1 = [c]) = _
  cases (tl x).drop k with
  | nil => simp
  | cons a r => simp
theorem lrd_word {n : Nat} {s : List Nat} (h : s.head? ≠ some 40) : lrd (n + 1) s = if wi (mkS (wd s)) = true then some (.int (intOf (mkS (wd s))), wr s) else none := by
  unfold lrd
  split
  · rename_i e; cases e
  · exact absurd rfl h
  · rename_i e _
    cases e
    rfl
theorem prt_sp {f : List Nat → Option (PyData × List Nat)} {k : Nat} {fd : List PyData} {r : List Nat} : prt f (k + 1) fd (32 :: r) = match f r with
    | some (v, r') => if fd.length = 7 then none else prt f k (fd ++ [v]) r'
    | none => none := rfl
theorem prt_cl {f : List Nat → Option (PyData × List Nat)} {k : Nat} {fd : List PyData} {r : List Nat} : prt f k fd (41 :: r) = some (.tuple fd, r) := by cases k <;> rfl
theorem prt_no {f : List Nat → Option (PyData × List Nat)} {k : Nat} {fd : List PyData} {s : List Nat} (h1 : s.head? ≠ some 32) (h2 : s.head? ≠ some 41) : prt f k fd s = none := by
  unfold prt
  split
  · exact absurd rfl h1
  · exact absurd rfl h2
  · rfl
section
variable {P : Program} {w : World} {K : PySem.W.Frag} {mg : Str → Option Value} {base : Heap}
abbrev pcond : DT := dT (dOp (rEqB false) (dSl (dVar 0) (dPart (dVar 2)) (dPart (dOp rAdd (dVar 2) (dC (D.dat (PyData.int 1)))))) (dC (D.dat (PyData.str (Str.ofString " ")))))
abbrev pbody (n : Nat) : DSm := sSeq (sAsg (dCall (sRead n) (dCons (dVar 0) (dCons (dOp rAdd (dVar 2) (dC (D.dat (PyData.int 1)))) dNil))) (dgName 5))
  (sSeq (sIf (dOr (dT (dOp (rIsN false) (dVar 5) (dC (D.dat PyData.none)))) (dT (dOp (rEqB false) (dCB cLen (dCons (dVar 3) dNil)) (dC (D.dat (PyData.int 7)))))) (sRet (dC (D.dat PyData.none))) sNext)
    (sSeq (sDrop (dAppend (dVar 3) (dOp rIxD (dVar 5) (dC (D.dat (PyData.int 0)))))) (sAsg (dOp rIxD (dVar 5) (dC (D.dat (PyData.int 1)))) (dgName 2))))
abbrev pret : DSm := sRet (dIf (dT (dOp (rEqB false) (dSl (dVar 0) (dPart (dVar 2)) (dPart (dOp rAdd (dVar 2) (dC (D.dat (PyData.int 1)))))) (dC (D.dat (PyData.str (Str.ofString ")")))))) (dTup (dCons (dCB cTuple (dCons (dVar 3) dNil)) (dCons (dOp rAdd (dVar 2) (dC (D.dat (PyData.int 1)))) dNil))) (dC (D.dat PyData.none)))
theorem part_loop {n k e : Nat} {x : Str} {a1 a4 a5 : Option D} {N : Rh → Os → Prop} {Q : DQ} {fd : List PyData} (hx : x.length ≤ 900) (hpx : strP x) (he : e ≤ x.length) (hc : cnt ((tl x).drop e) < n) (h7 : fd.length ≤ 7) (hk : 9 ≤ k + fd.length)
    (q : Q (.dat (rdD x (prt (lrd n) k fd ((tl x).drop e)))) []) : sWhile pcond (pbody n) { nx := pret { nx := N, rt := fin 0 Q }, rt := fin 0 Q } [some (.dat (.str x)), a1, some (.dat (.int (e : Nat))), some (.ref 0), a4, a5] [.lst fd] := by
  refine while_go (fun m ρ S' => ∃ (k e : Nat) (fd : List PyData) (a5 : Option D), m = 8 - fd.length ∧ ρ = [some (.dat (.str x)), a1, some (.dat (.int (e : Nat))), some (.ref 0), a4, a5] ∧ S' = [.lst fd] ∧ e ≤ x.length ∧ cnt ((tl x).drop e) < n ∧ fd.length ≤ 7 ∧ 9 ≤ k + fd.length ∧ Q (.dat (rdD x (prt (lrd n) k fd ((tl x).drop e)))) []) (fun m ρ S' N h hN => ?_) ⟨k, e, fd, a5, rfl, rfl, rfl, he, hc, h7, hk, q⟩
  clear q hk h7 hc he
  obtain ⟨k, e, fd, a5, rfl, rfl, rfl, he, hc, h7, hk, q⟩ := h
  walk_at "rm_stp"
  rw [sgn_is he (c := 32) (by decide +kernel)]
  by_cases h32 : ((tl x).drop e).head? = some 32
  · rw [decide_eq_true h32, if_pos rfl]
    obtain ⟨r, es⟩ : ∃ r, (tl x).drop e = 32 :: r := by
      cases hd : (tl x).drop e with
      | nil => rw [hd] at h32; cases h32
      | cons a r =>
        rw [hd] at h32
        simp only [List.head?_cons, Option.some.injEq] at h32
        exact ⟨r, by rw [h32]⟩
    have e1 : (tl x).drop (e + 1) = r := by rw [← List.drop_drop, es]; rfl
    have hsl : ((tl x).drop e).length = x.length - e := by rw [List.length_drop, ← int_len]
    have hlt : e < x.length := by rw [es, List.length_cons] at hsl; omega
    have hc1 : cnt r < n := by
      rw [es] at hc
      have : cnt (32 :: r) = 0 + cnt r := by unfold cnt; rw [List.map_cons, List.sum_cons, if_neg (by decide)]
      omega
    obtain ⟨k, rfl⟩ : ∃ j, k = j + 1 := ⟨k - 1, by omega⟩
    rw [es, prt_sp] at q
    walk_at "rm_stp"
    rw [show (e : Int) + 1 = ((e + 1 : Nat) : Int) from by omega]
    refine callS_Pf.mpr ⟨(x, e + 1), rfl, ⟨hx, hpx, by show e + 1 ≤ x.length; omega, by show cnt ((tl x).drop (e + 1)) < n; rw [e1]; exact hc1⟩, ?_⟩
    generalize hp : rdD (x, e + 1).1 (lrd n (List.drop (x, e + 1).2 (tl (x, e + 1).1))) = p
    have hp' : p = rdD x (lrd n r) := by rw [← hp, ← e1]
    clear hp
    cases hl : lrd n r with
    | none =>
      rw [hl] at q hp'
      simp only [rdD] at hp'
      subst hp'
      rw [if_pos (show isN (D.dat PyData.none) = true from rfl)]
      exact q
    | some z =>
      obtain ⟨v, r'⟩ := z
      rw [hl] at q hp'
      dsimp only at q
      simp only [rdD] at hp'
      subst hp'
      rw [if_neg (by simp [isN])]
      refine ⟨_, rfl, _, rfl, itemsP_ixB (xs := fd) rfl (by omega), ?_⟩
      by_cases h : fd.length = 7
      · rw [if_pos h] at q
        rw [if_pos (by simp [h])]
        exact q
      · rw [if_neg h] at q
        rw [if_neg (by simp; omega)]
        obtain ⟨_, er⟩ := lrd_ok n _ _ _ hl
        have hr' : r'.length ≤ r.length := by rw [er, List.length_append]; omega
        have hrl : r.length = x.length - (e + 1) := by rw [← e1, List.length_drop, ← int_len]
        have e3 : x.length - r'.length = e + 1 + (tl (txt n v)).length := by
          have := congrArg List.length er
          rw [List.length_append] at this
          omega
        have e2 : (tl x).drop (x.length - r'.length) = r' := by
          rw [e3, ← List.drop_drop, e1, er, List.drop_left' rfl]
        refine ⟨⟨_, rfl⟩, _, rfl, itemsP_ixB (xs := [_, _]) rfl (by simp), _, rfl, fd, rfl, small (by omega), _, rfl, itemsP_ixB (xs := [_, _]) rfl (by simp), _, rfl, ?_⟩
        refine hN (8 - (fd ++ [v]).length) _ _ (by simp; omega) ⟨k, x.length - r'.length, fd ++ [v], some (.dat (.tuple [v, .int ((x.length : Int) - r'.length)])), rfl, ?_, rfl, by omega, ?_, by simp; omega, by simp; omega, ?_⟩
        · rw [show (x.length : Int) - r'.length = ((x.length - r'.length : Nat) : Int) by omega]
        · rw [e2]
          rw [er, cnt_app] at hc1
          omega
        · rw [e2]
          exact q
  · rw [decide_eq_false h32, if_neg (by simp)]
    walk_at "rm_stp"
    rw [sgn_is he (c := 41) (by decide +kernel)]
    by_cases h41 : ((tl x).drop e).head? = some 41
    · rw [decide_eq_true h41, if_pos rfl]
      obtain ⟨r, es⟩ : ∃ r, (tl x).drop e = 41 :: r := by
        cases hd : (tl x).drop e with
        | nil => rw [hd] at h41; cases h41
        | cons a r =>
          rw [hd] at h41
          simp only [List.head?_cons, Option.some.injEq] at h41
          exact ⟨r, by rw [h41]⟩
      have hsl : ((tl x).drop e).length = x.length - e := by rw [List.length_drop, ← int_len]
      rw [es, prt_cl] at q
      rw [es, List.length_cons] at hsl
      simp only [rdD] at q
      rw [show (x.length : Int) - r.length = (e : Int) + 1 by omega] at q
      exact ⟨by decide, q⟩
    · rw [decide_eq_false h41, if_neg (by simp)]
      rw [prt_no h32 h41] at q
      exact q
theorem name_end {n e : Nat} {x w : Str} {a1 a4 : Option D} {N : Rh → Os → Prop} {Q : DQ} {fd : List PyData} (hx : x.length ≤ 900) (hpx : strP x) (he : e ≤ x.length) (hc : cnt ((tl x).drop e) < n) (h7 : fd.length ≤ 7) (h1 : 1 ≤ fd.length) (hw : w.length ≤ 1000) (hl : fd.getLast? = some (.str w))
    (q : Q (.dat (rdD x (if nm w = true then prt (lrd n) 8 fd ((tl x).drop e) else none))) []) : ∃ z, fd.getLast? = some z ∧ callS sLNm [D.dat z] [Ob.lst fd] fun x_1 S1 => ∃ b, x_1 = D.dat (PyData.bool b) ∧ if (!b) = true then Q (D.dat PyData.none) [] else
      sWhile pcond (pbody n) { nx := pret { nx := N, rt := fin 0 Q }, rt := fin 0 Q } [some (.dat (.str x)), a1, some (.dat (.int (e : Nat))), some (.ref 0), a4, none] S1 := by
  refine ⟨_, hl, callS_Pf.mpr ⟨w, rfl, hw, _, rfl, ?_⟩⟩
  by_cases h : nm w = true
  · rw [if_pos h] at q
    rw [if_neg (by simp [h])]
    exact part_loop hx hpx he hc h7 (by omega) q
  · rw [if_neg h] at q
    rw [if_pos (by simpa using h)]
    exact q
theorem eqv_l1 {a b : Str} : PyData.eqv (.list [.str a]) (.list [.str b]) = decide (a = b) := by
  simp [PyData.eqv, PyData.eqvAll]
  rfl
theorem read_body (T : Tx K mg) (n : Nat) (ih : Cal P w K mg base (n + 3) "_law_read" (upF K (sRead n))) : Cal P w K mg base (n + 4) "_law_read" (upF K (sRead (n + 1))) := by
  refine T.read.calD f_law_read_sc (fun _ _ _ _ _ _ us hl => match us, hl with | [_, _], _ => rfl) (fun ds S Q h => by obtain ⟨_, a, rfl, _⟩ := h; rfl) _ (fun f cdv A outer s H E hr => (dss_cons (ds_if (dt_cmp (opr_ne hr.units) od_ne (de_slice (de_var (pv 0)) (do_some (de_var (pv 1))) (do_some (de_add (de_var (pv 1)) de_int))) de_str (nomark _)) (dss_cons (ds_set (ps_set (i := 2) f_law_read_sc.nd rfl (Or.inl rfl) (de_var (pv 1))))
      (dss_cons (ds_while (ps_while PassesOwn.never (dt_cmp opr_notIn od_in2 (de_slice (de_var (pv 0)) (do_some (de_var (pv 2))) (do_some (de_add (de_var (pv 2)) de_int))) (de_tup (da_cons de_str (da_cons de_str (da_cons de_str (da_cons de_str da_nil))))) (by rfl)) (dss_one (ds_set (ps_set (i := 2) f_law_read_sc.nd rfl (Or.inl rfl) (de_add (de_var (pv 2)) de_int))))))
      (dss_one (ds_ret (de_ifExp (dt_val (de_call (pe_c (cal_law_is_number T) hr (by omega) rfl (da_cons (de_slice (de_var (pv 0)) (do_some (de_var (pv 1))) (do_some (de_var (pv 2)))) da_nil)))) (de_tup (da_cons (de_callTy cr_int cd_int rfl T.n_int (by decide +kernel) (da_cons (de_slice (de_var (pv 0)) (do_some (de_var (pv 1))) (do_some (de_var (pv 2)))) da_nil)) (da_cons (de_var (pv 2)) da_nil))) de_non))))) dss_nil)
      (dss_cons (ds_set (ps_set (i := 2) f_law_read_sc.nd rfl (Or.inl rfl) (de_add (de_var (pv 1)) de_int)))
      (dss_cons (ds_while (ps_while PassesOwn.never (dt_cmp opr_notIn od_in2 (de_slice (de_var (pv 0)) (do_some (de_var (pv 2))) (do_some (de_add (de_var (pv 2)) de_int))) (de_tup (da_cons de_str (da_cons de_str (da_cons de_str (da_cons de_str da_nil))))) (by rfl)) (dss_one (ds_set (ps_set (i := 2) f_law_read_sc.nd rfl (Or.inl rfl) (de_add (de_var (pv 2)) de_int))))))
      (dss_cons (ds_set (ps_set (i := 3) f_law_read_sc.nd rfl (Or.inl rfl) (de_lstO (da_cons (de_slice (de_var (pv 0)) (do_some (de_add (de_var (pv 1)) de_int)) (do_some (de_var (pv 2)))) da_nil))))
      (dss_cons (ds_if (PW.pt (dw_and (dt_cmp (opr_eq hr.units) od_eq (de_var (pv 3)) (de_lst (da_cons de_str da_nil)) (nomark _)) (dw_and1 (dt_cmp (opr_eq hr.units) od_eq (de_slice (de_var (pv 0)) (do_some (de_var (pv 2))) (do_some (de_add (de_var (pv 2)) de_int))) de_str (nomark _))))) (dss_cons (ds_set (ps_set (i := 4) f_law_read_sc.nd rfl (Or.inl rfl) (de_add (de_var (pv 2)) de_int)))
      (dss_cons (ds_set (ps_set (i := 2) f_law_read_sc.nd rfl (Or.inl rfl) (de_var (pv 4))))
      (dss_cons (ds_while (ps_while PassesOwn.never (dt_cmp opr_notIn od_in2 (de_slice (de_var (pv 0)) (do_some (de_var (pv 2))) (do_some (de_add (de_var (pv 2)) de_int))) (de_tup (da_cons de_str (da_cons de_str (da_cons de_str (da_cons de_str da_nil))))) (by rfl)) (dss_one (ds_set (ps_set (i := 2) f_law_read_sc.nd rfl (Or.inl rfl) (de_add (de_var (pv 2)) de_int))))))
      (dss_one (ds_expr (de_append (pe_bm PySem.F.plainAttrs_list PySem.F.slot_list_append PySem.F.type_list_append mt_append (de_var (pv 3)) (pa_cons (de_slice (de_var (pv 0)) (do_some (de_var (pv 4))) (do_some (de_var (pv 2)))) pa_nil)))))))) dss_nil)
      (dss_cons (ds_if (dt_not (dt_val (de_call (pe_c (cal_law_is_name T) hr (by omega) rfl (da_cons (de_item (de_var (pv 3)) (de_neg de_int)) da_nil))))) (dss_one (ds_ret de_non)) dss_nil)
      (dss_cons (ds_while (ps_while PassesOwn.never (dt_cmp (opr_eq hr.units) od_eq (de_slice (de_var (pv 0)) (do_some (de_var (pv 2))) (do_some (de_add (de_var (pv 2)) de_int))) de_str (nomark _)) (dss_cons (ds_set (ps_set (i := 5) f_law_read_sc.nd rfl (Or.inl rfl) (de_call (pe_c ih hr (by omega) rfl (da_cons (de_var (pv 0)) (da_cons (de_add (de_var (pv 2)) de_int) da_nil))))))
      (dss_cons (ds_if (PW.pt (dw_or (dt_cmp op_isN od_isN (de_var (pv 5)) de_non (nomark _)) (dw_or1 (dt_cmp (opr_eq hr.units) od_eq (de_callB call_len cd_len rfl T.n_len (by decide +kernel) (da_cons (de_var (pv 3)) da_nil)) de_int (nomark _))))) (dss_one (ds_ret de_non)) dss_nil)
      (dss_cons (ds_expr (de_append (pe_bm PySem.F.plainAttrs_list PySem.F.slot_list_append PySem.F.type_list_append mt_append (de_var (pv 3)) (pa_cons (de_item (de_var (pv 5)) de_int) pa_nil))))
      (dss_one (ds_set (ps_set (i := 2) f_law_read_sc.nd rfl (Or.inl rfl) (de_item (de_var (pv 5)) de_int)))))))))
      (dss_one (ds_ret (de_ifExp (dt_cmp (opr_eq hr.units) od_eq (de_slice (de_var (pv 0)) (do_some (de_var (pv 2))) (do_some (de_add (de_var (pv 2)) de_int))) de_str (nomark _)) (de_tup (da_cons (de_callTy call_tuple_of cd_tuple rfl T.n_tuple (by decide +kernel) (da_cons (de_var (pv 3)) da_nil)) (da_cons (de_add (de_var (pv 2)) de_int) da_nil))) de_non))))))))))) fun ds S Q h => ?_
  obtain ⟨rfl, ⟨x, i⟩, rfl, ⟨hx, hpx, hi, hc⟩, q⟩ := h
  dsimp only at hx hpx hi hc q
  walk_at "rm_stp"
  rw [sgn_is hi (c := 40) (by decide +kernel)]
  have hsl : ((tl x).drop i).length = x.length - i := by rw [List.length_drop, ← int_len]
  by_cases h40 : ((tl x).drop i).head? = some 40
  · rw [decide_eq_true h40, if_neg (by simp)]
    obtain ⟨s1, es⟩ : ∃ s1, (tl x).drop i = 40 :: s1 := by
      cases hd : (tl x).drop i with
      | nil => rw [hd] at h40; cases h40
      | cons a r =>
        rw [hd] at h40
        simp only [List.head?_cons, Option.some.injEq] at h40
        exact ⟨r, by rw [h40]⟩
    have e1 : (tl x).drop (i + 1) = s1 := by rw [← List.drop_drop, es]; rfl
    have hlt : i < x.length := by rw [es, List.length_cons] at hsl; omega
    rw [es, lrd_40] at q
    have hc1 : cnt s1 < n := by
      rw [es] at hc
      have : cnt (40 :: s1) = 1 + cnt s1 := by unfold cnt; rw [List.map_cons, List.sum_cons, if_pos rfl]
      omega
    walk_at "rm_stp"
    rw [show (i : Int) + 1 = ((i + 1 : Nat) : Int) from by omega]
    refine word_loop hx (by omega) ?_
    walk_at "rm_stp"
    rw [show (i : Int) + 1 = ((i + 1 : Nat) : Int) from by omega, cut_wd (by omega) rfl, e1]
    have hwl := wd_len s1
    have hs1 : s1.length = x.length - (i + 1) := by rw [← e1, List.length_drop, ← int_len]
    have hp1 : ∀ c ∈ s1, c < 128 := fun c hc => hpx c (by rw [← e1] at hc; exact List.mem_of_mem_drop hc)
    have hpw : strP (mkS (wd s1)) := fun c hc => hp1 c ((List.takeWhile_sublist _).mem hc)
    have e2 : (tl x).drop (i + 1 + (wd s1).length) = wr s1 := by rw [← List.drop_drop, e1, wd_drop]
    have hcw : cnt (wd s1) + cnt (wr s1) = cnt s1 := by rw [← cnt_app, wd_wr]
    have hsh : SeqAt.shaped (.list [.str (mkS (wd s1))]) = true := OE.sh (n := 2) (.row (.inr rfl) (by simp) fun d hd => by
      rw [List.mem_singleton.mp hd]
      exact .str (by show (wd s1).length ≤ 900; omega) hpw) (by decide)
    have hsc : SeqAt.shaped (.list [.str (Str.ofString "close")]) = true := OE.sh (n := 2) (.row (.inr rfl) (by decide) fun d hd => by
      rw [List.mem_singleton.mp hd]
      exact .str (by decide +kernel) (by decide +kernel)) (by decide)
    refine ⟨.inr ⟨hsh, hsc⟩, ?_⟩
    rw [eqv_l1]
    have len1' : (mkS (wd s1)).length ≤ 1000 := by show (wd s1).length ≤ 1000; omega
    by_cases hcl : mkS (wd s1) = "close"
    · rw [decide_eq_true hcl, if_pos rfl]
      refine ⟨small (by omega), ?_⟩
      rw [sgn_is (by omega) (c := 32) (by decide +kernel), e2]
      by_cases hsp : (wr s1).head? = some 32
      · rw [decide_eq_true hsp, if_pos rfl]
        rw [if_pos ⟨hcl, hsp⟩] at q
        obtain ⟨s2, es2⟩ : ∃ r, wr s1 = 32 :: r := by
          cases hd : wr s1 with
          | nil => rw [hd] at hsp; cases hsp
          | cons a r =>
            rw [hd] at hsp
            simp only [List.head?_cons, Option.some.injEq] at hsp
            exact ⟨r, by rw [hsp]⟩
        rw [es2, List.drop_succ_cons, List.drop_zero] at q
        have hc2 : cnt s2 = cnt (wr s1) := by
          rw [es2]
          unfold cnt
          rw [List.map_cons, List.sum_cons, if_neg (by decide)]
          omega
        have hl2 : (wr s1).length = s2.length + 1 := by rw [es2]; rfl
        have e3 : (tl x).drop (i + 1 + (wd s1).length + 1) = s2 := by rw [← List.drop_drop, e2, es2]; rfl
        rw [show ((i + 1 + (wd s1).length : Nat) : Int) + 1 = ((i + 1 + (wd s1).length + 1 : Nat) : Int) from by omega]
        refine word_loop hx (by omega) ?_
        walk_at "rm_stp"
        rw [cut_wd (by omega) rfl, e3]
        have hwl2 := wd_len s2
        have hcw2 : cnt (wd s2) + cnt (wr s2) = cnt s2 := by rw [← cnt_app, wd_wr]
        have e4 : (tl x).drop (i + 1 + (wd s1).length + 1 + (wd s2).length) = wr s2 := by rw [← List.drop_drop, e3, wd_drop]
        obtain ⟨z, hz, h⟩ := name_end (n := n) (w := mkS (wd s2)) (a1 := some (.dat (.int (i : Nat)))) (a4 := some (D.dat (PyData.int ((i + 1 + (wd s1).length + 1 : Nat))))) (N := fun x S' => Q (D.dat PyData.none) []) (Q := Q) (fd := [.str (mkS (wd s1)), .str (mkS (wd s2))]) (e := i + 1 + (wd s1).length + 1 + (wd s2).length) hx hpx (by omega) (by rw [e4]; omega) (by simp) (by simp) (by show (wd s2).length ≤ 1000; omega) rfl (by rw [e4]; exact q)
        have ez : z = .str (mkS (wd s2)) := (Option.some.inj hz).symm
        subst ez
        exact h
      · rw [decide_eq_false hsp, if_neg (by simp)]
        rw [if_neg (fun z => hsp z.2)] at q
        exact name_end (fd := [.str (mkS (wd s1))]) hx hpx (by omega) (by rw [e2]; omega) (by simp) (by simp) len1' rfl (by rw [e2]; exact q)
    · rw [decide_eq_false hcl, if_neg (by simp)]
      rw [if_neg (fun z => hcl z.1)] at q
      exact name_end (fd := [.str (mkS (wd s1))]) hx hpx (by omega) (by rw [e2]; omega) (by simp) (by simp) len1' rfl (by rw [e2]; exact q)
  · rw [decide_eq_false h40, if_pos (by simp)]
    rw [lrd_word h40] at q
    refine word_loop hx hi ?_
    walk_at "rm_stp"
    rw [cut_wd hi rfl]
    have hwl := wd_len ((tl x).drop i)
    have hl : (mkS (wd ((tl x).drop i))).length ≤ 1000 := by
      show (wd ((tl x).drop i)).length ≤ 1000
      omega
    refine callS_Pf.mpr ⟨_, rfl, hl, _, rfl, ?_⟩
    by_cases hw : wi (mkS (wd ((tl x).drop i))) = true
    · rw [if_pos hw] at q ⊢
      obtain ⟨z1, z2⟩ := wi_int_text hw
      refine ⟨small (by omega), _, z1, by omega, by decide, ?_⟩
      simp only [rdD] at q
      rw [show (x.length : Int) - (wr ((tl x).drop i)).length = ((i + (wd ((tl x).drop i)).length : Nat) : Int) by omega] at q
      exact q
    · rw [if_neg hw] at q ⊢
      exact q
theorem cal_law_read (T : Tx K mg) : ∀ n, Cal P w K mg base (n + 3) "_law_read" (upF K (sRead n))
  | 0 => T.read.zeroD (ps := f_law_read_P) (fun _ _ _ _ _ _ us hl => match us, hl with | [_, _], _ => rfl) fun ds S Q h => by
    obtain ⟨rfl, a, rfl, ⟨_, _, _, h⟩, q⟩ := h
    exact absurd h (Nat.not_lt_zero _)
  | n + 1 => read_body T n (cal_law_read T n)
end
end Rm

set_option Elab.async false
set_option linter.all false
set_option maxRecDepth 100000
set_option maxHeartbeats 4000000
namespace Rm
open PySem PySem.Spec PyProof.Rows L2 LamX
structure KpX (K : PySem.W.Frag) (mg : Str → Option Value) : Prop where
  is : IsC K (He.ga K "BadValue")
  xf : XfC K (He.ga K "BadValue")
  nof_text : PySem.W.findIn K (.ref (He.ga K "BadValue")) "text" = some none
  ex : PySem.W.exmOne K (.ref (He.ga K "BadValue")) (.ref (He.ga K "ModeError")) = some true
  k_BadValue : PySem.W.kitOne K (.ref (He.ga K "BadValue")) (.ref (He.ga K "BadValue")) = some true
  k_BadValues_BadCode : PySem.W.kitAny K (.ref (He.ga K "BadValue")) [.ref (He.ga K "BadValues"), .ref (He.ga K "BadCode")] = some false
  g_BadValue : mg "BadValue" = some (.ref (He.ga K "BadValue"))
  g_BadValues : mg "BadValues" = some (.ref (He.ga K "BadValues"))
  g_BadCode : mg "BadCode" = some (.ref (He.ga K "BadCode"))
  g_ModeError : mg "ModeError" = some (.ref (He.ga K "ModeError"))
theorem kpE_ok {P : Program} {K : PySem.W.Frag} {mg : Str → Option Value} (h : kpE K = true) (FU : ExF P K mg "BadValue" x_BadValue_s ["text"]) (XU : XcF K "BadValue") (g1 : mg "BadValue" = some (.ref (He.ga K "BadValue"))) (g2 : mg "BadValues" = some (.ref (He.ga K "BadValues"))) (g3 : mg "BadCode" = some (.ref (He.ga K "BadCode")))
    (g4 : mg "ModeError" = some (.ref (He.ga K "ModeError"))) : KpX K mg := by
  unfold kpE at h
  simp only [Bool.and_eq_true, decide_eq_true_eq] at h
  obtain ⟨h1, h2, h3, h4, h5, h6, h7, h8, h9, h10, h11⟩ := h
  obtain ⟨_, _, _, _, _, _, _, _, _, _, _, _, _, _, _, _, hno⟩ := FU.ex
  exact ⟨⟨He.eqO_ok h1, He.eqO_ok h2, h3, h4, He.eqO_ok h5, He.eqO_ok h6, h7, h8⟩, XU.xf, hno _ (by simp), h9, h10, h11, g1, g2, g3, g4⟩
theorem gives_tried {X : Cx} {CM g : Addr} {q : Str} {cdv : Value} (hm : X.mg "ModeError" = some (.ref CM)) : GivesTo X f_law_tried_N "_law_tried" (defScope f_law_tried_s) g cdv (defBody f_law_tried_s) "_law_deed" q (TTried X.K CM) :=
  tried_gives (fn := "_law_found") (en := "e") (y := "ModeError") rfl (by decide) (.inl rfl) rfl rfl rfl hm (by decide) rfl ⟨by decide, by decide⟩ ⟨by decide, by decide⟩ ⟨by decide, by decide⟩
end Rm

set_option Elab.async false
set_option linter.all false
set_option maxRecDepth 100000
set_option maxHeartbeats 4000000
namespace Rm
open PySem PySem.Spec PyProof.Rows L2 LamX
theorem setW0 {X : Cx} {st : List Stmt} {t : DSm} (h : PSs X st (upS X.K W0 t)) : PSs X st (upS X.K W0 t) := h
theorem vt_sm : ∀ {n : Nat} {v : PyData}, vt n v → SmD (n + 2) v
  | n, .int i, h => .int i
  | n + 1, .tuple ds, h => by
    obtain ⟨hd, es, rfl, hh, hl, he⟩ := h
    refine .tup (by omega) fun d hd' => ?_
    rcases List.mem_append.mp hd' with hm | hm
    · obtain ⟨x, _, rfl⟩ := List.mem_map.mp hm
      exact .str x
    · exact vt_sm (he d hm)
  | 0, .tuple _, h => by cases h
  | n, .none, h => by cases n <;> cases h
  | n, .bool _, h => by cases n <;> cases h
  | n, .str _, h => by cases n <;> cases h
  | n, .list _, h => by cases n <;> cases h
  | n, .dict _, h => by cases n <;> cases h
def I05 (PL : Addr) (xs : List D) (ρ : Rh) (S : Os) : Prop := ∃ (c : Nat) (a2 a3 a4 a5 a6 a7 : Option D), ρ = [none, some (.ref 0), a2, a3, a4, a5, a6, a7] ∧ S = [.spr c, .tab PL "law.<locals>.<lambda>"] ∧ 200 * xs.length ≤ c
section
variable {P : Program} {w : World} {K : PySem.W.Frag} {mg : Str → Option Value} {base : Heap}
theorem body_law (T : Tx K mg) (FV : ExF P K mg "BadValue" x_BadValue_s ["text"]) (XM : KpX K mg) {PL : Addr} (TL : TabB base mg (He.codeOf K ("law", none)) PL)
    (f : Addr) (A : Around) (outer : List Env) (s : Shared) (H : Hp) (vs : List V) (Q : VK) (E : XK) (hr : Room 110 (A.deeper (envOfC "law" (defScope f_law_s) s.heap.objs.size f (.ref (He.codeOf K ("law", none)))))) (h : spLawT K [(He.codeOf K ("law", none), PL)] vs H Q E) :
    ∃ t, PSs (cxOf CX0 P w K mg base f_law_N "law" (defScope f_law_s) f (.ref (He.codeOf K ("law", none))) A outer s H E) (defBody f_law_s) t ∧ t { nx := fun _ H' => Q .non H', rt := Q } (start f_law_N vs) H := by
  obtain ⟨a, ns, rfl, hS, hl, hT, q⟩ := h
  have main : ∃ t, PSs (cxOf CX0 P w K mg base f_law_N "law" (defScope f_law_s) f (.ref (He.codeOf K ("law", none))) A outer s H E).nox (defBody f_law_s) t ∧ t { nx := fun _ H' => Q .non H', rt := Q } (start f_law_N [.ref a]) H := by
    refine ⟨_, pss_cons (ps_set (i := 1) f_law_sc.nd rfl (Or.inl rfl) (pe_c (cal_law_start T) hr (by omega) rfl (pa_cons (pv 0) pa_nil))) (setW0 (dss_cut (ds_for (ps_for PassesOwn.never rfl (di_ran1 (pi_range1 rfl T.n_range (da_cons de_int da_nil))) (dg_name (pg_name (i := 2) f_law_sc.nd rfl (Or.inl rfl))) (dss_cut (ds_set (ps_set (i := 3) f_law_sc.nd rfl (Or.inr rfl) (de_call (pe_c (cal_law_text T 3 (by decide)) hr (by omega) rfl (da_cons (de_var (pv 1)) (da_cons de_int da_nil))))))
      (dss_cut (ds_for (ps_for PassesOwn.never rfl (di_ran1 (pi_range1 rfl T.n_range (da_cons (de_call (pe_c (cal_law_draw T) hr (by omega) rfl (da_cons (de_var (pv 1)) (da_cons de_int da_nil)))) da_nil))) (dg_name (pg_name (i := 4) f_law_sc.nd rfl (Or.inl rfl))) (dss_one (ds_set (ps_set (i := 3) f_law_sc.nd rfl (Or.inr rfl) (de_call (pe_c (cal_law_bent T) hr (by omega) rfl (da_cons (de_var (pv 1)) (da_cons (de_var (pv 3)) da_nil)))))))))
      (dss_cut (ds_set (ps_set (i := 3) f_law_sc.nd rfl (Or.inr rfl) (de_slice (de_var (pv 3)) do_none (do_some de_int))))
      (dss_cut (ds_set (ps_set (i := 5) f_law_sc.nd rfl (Or.inl rfl) (de_call (pe_c (cal_law_read T 10) hr (by omega) rfl (da_cons (de_var (pv 3)) (da_cons de_int da_nil))))))
      (dss_cut (ds_asg (ps_asg (pe_triedD (q := "law.<locals>.<lambda>") T.tried rfl (fun _ _ _ _ _ _ us hl => match us, hl with | [_], _ => rfl) f_law_tried_sc rfl (.inl rfl) (fun g cdv => gives_tried XM.g_ModeError) (by first | kernel_rfl | rfl) TL rfl hr (lamS_by (sc := defScope f_law_s) (by decide +kernel)) rfl (by intros; rfl) (fun A outer s H E f c' hr tk => (de_callX (pe_callW (cal_read_value T FV) hr (by omega) tk rfl (da_cons (de_var (pe_var (i := 3) rfl (.inr (.inr rfl)))) da_nil))))) (dg_tupK (n := 2) rfl (dgs_cons (dg_name (pg_name (i := 6) f_law_sc.nd rfl (Or.inl rfl))) (dgs_cons (dg_name (pg_name (i := 7) f_law_sc.nd rfl (Or.inl rfl))) dgs_nil)))))
      (dss_one (ds_if (PW.pt (dw_and (dt_cmp op_notN od_notN (de_var (pv 5)) de_non (nomark _)) (dw_and1 (dt_cmp (opr_eq hr.units) od_eq (de_item (de_var (pv 5)) de_int) (de_callB call_len cd_len rfl T.n_len (by decide +kernel) (da_cons (de_var (pv 3)) da_nil)) (nomark _))))) (dss_one (ds_if (PW.pt (dw_or (dt_cmp (opr_ne hr.units) od_ne (de_var (pv 6)) de_str (nomark _)) (dw_or1 (dt_not (dt_val (de_call (pe_c (cal_law_same T 13) hr (by omega) rfl (da_cons (de_var (pv 7)) (da_cons (de_item (de_var (pv 5)) de_int) da_nil))))))))) (dss_one (ds_ret de_bl)) dss_nil)) (dss_one (ds_if (PW.pt (dw_or (dt_not (dt_val (de_isK XM.is (.own (He.ga _ "BadValue")) XM.k_BadValue rfl T.n_isinstance (de_var (pv 7)) (pe_glob rfl XM.g_BadValue rfl rfl)))) (dw_or (dt_val (de_isKT XM.is (.own (He.ga _ "BadValues")) (.own (He.ga _ "BadCode")) XM.k_BadValues_BadCode rfl T.n_isinstance (de_var (pv 7)) (pe_glob rfl XM.g_BadValues rfl rfl) (pe_glob rfl XM.g_BadCode rfl rfl))) (dw_or1 (dt_cmp (opr_ne hr.units) od_ne (de_xk XM.xf XM.nof_text (de_var (pv 7))) (de_var (pv 3)) (nomark _)))))) (dss_one (ds_ret de_bl)) dss_nil)))))))))))
      (dss_one (ds_ret de_bl)))), ?_⟩
    refine ⟨.ref a, rfl, a, ns, rfl, hS, hl, fun st sl H' sm hk => law_inT [(PL, "law.<locals>.<lambda>")] (by simp) (fun p hp => ?_) hk rfl rfl q ?_⟩
    · rw [List.mem_singleton.mp hp]
      exact sm _ _ (hT _ (List.mem_cons_self ..))
    simp only [List.map_cons, List.map_nil]
    walk_at "rm_stp"
    refine sCut_ev fun N0 hN0 => ?_
    walk_at "rm_stp"
    refine loop_inv (I05 PL) ⟨1000000, _, _, _, _, _, _, rfl, rfl, ?_⟩ (fun ρ S h => ?_) fun x rest ρ S N h hN => ?_
    · rw [ranD_len]; decide
    · obtain ⟨c, a2, a3, a4, a5, a6, a7, rfl, rfl, hc⟩ := h
      subst hN0
      walk_at "rm_stp"
    obtain ⟨c, a2, a3, a4, a5, a6, a7, rfl, rfl, hc⟩ := h
    simp only [List.length_cons] at hc
    walk_at "rm_stp"
    refine sCut_ev fun N1 hN1 => ?_
    walk_at "rm_stp"
    refine call_text (n := 3) (c := c) rfl (by have : tC 3 = 114 := rfl; omega) fun y c1 h1 hy => ?_
    walk_at "rm_stp"
    have t3 : tC 3 = 114 := rfl
    have hy : TxS 388 7 y := hy
    subst hN1
    refine sCut_ev fun N1 hN1 => ?_
    walk_at "rm_stp"
    refine call_draw' (c := c1) rfl (by omega) (by decide) (by decide) fun k hk => ?_
    walk_at "rm_stp"
    have hkl : (ranD 0 ((k : Nat) : Int).toNat).length ≤ 2 := by rw [ranD_len, Int.toNat_natCast]; omega
    refine loop_inv (fun xs ρ S => ∃ (c j : Nat) (y : Str) (b4 : Option D), ρ = [none, some (.ref 0), some x, some (.dat (.str y)), b4, a5, a6, a7] ∧ S = [.spr c, .tab PL "law.<locals>.<lambda>"] ∧ TxS (388 + 5 * j) (7 + j) y ∧ j + xs.length ≤ 2 ∧ 200 * rest.length + 4 * xs.length + 10 ≤ c) ⟨c1 - 1, 0, y, _, rfl, rfl, hy, by omega, by omega⟩ (fun ρ S h => ?_) fun z rest' ρ S N2 h hN2 => ?_
    · obtain ⟨c, j, y, b4, rfl, rfl, hy, hj, hc⟩ := h
      simp only [List.length_nil] at hj hc
      subst hN1
      refine sCut_ev fun N1 hN1 => ?_
      walk_at "rm_stp"
      have hyl := hy.len
      obtain ⟨Y, hY⟩ : ∃ Y, Y = cutS y none (some 399) := ⟨_, rfl⟩
      have tY : tl Y = (tl y).take 399 := by rw [hY]; exact cutS_take (k := 399)
      have lY : Y.length ≤ 399 := by rw [int_len, tY, List.length_take]; omega
      have pY : strP Y := fun c hc => hy.pl c (by rw [tY] at hc; exact List.mem_of_mem_take hc)
      have cY : cnt (tl Y) ≤ 9 := by
        have e1 : tl y = (tl y).take 399 ++ (tl y).drop 399 := (List.take_append_drop ..).symm
        have e2 := congrArg cnt e1
        rw [cnt_app] at e2
        have := hy.cn
        rw [tY]
        omega
      rw [← hY]
      refine ⟨small (by omega), ?_⟩
      subst hN1
      refine sCut_ev fun N1 hN1 => ?_
      walk_at "rm_stp"
      refine callS_Pf.mpr ⟨(Y, 0), rfl, ⟨by show Y.length ≤ 900; omega, pY, Nat.zero_le _, by show cnt ((tl Y).drop 0) < 10; rw [List.drop_zero]; omega⟩, ?_⟩
      dsimp only
      rw [List.drop_zero]
      subst hN1
      refine sCut_ev fun N1 hN1 => ?_
      walk_at "rm_stp"
      refine ⟨⟨1, rfl⟩, fun h hh => by simp [hsOf] at hh, rfl, Y, rfl, by omega, pY, cY, ?_⟩
      cases e : readP 11 Y with
      | some v =>
        have e' := (reads_iff cY).mpr e
        rw [e']
        refine ⟨rfl, .inl ⟨rfl, ⟨_, rfl⟩, ?_⟩⟩
        simp only [rdD, List.length_nil]
        walk_at "rm_stp"
        subst hN1
        walk_at "rm_stp"
        rw [if_pos (by simp), if_neg (by simp)]
        refine callS_Pf.mpr ⟨v, rfl, vt_sm (readP_some e).1, true, rfl, ?_⟩
        rw [if_neg (by simp)]
        exact hN _ _ ⟨c, _, _, _, _, _, _, rfl, rfl, by omega⟩
      | none =>
        refine ⟨rfl, rfl, XM.ex, ?_⟩
        subst hN1
        cases e' : lrd 10 (tl Y) with
        | none =>
          simp only [rdD]
          walk_at "rm_stp"
          rw [if_neg (by simp)]
          exact hN _ _ ⟨c, _, _, _, _, _, _, rfl, rfl, by omega⟩
        | some z =>
          obtain ⟨v, r⟩ := z
          simp only [rdD]
          walk_at "rm_stp"
          have hr : 1 ≤ r.length := by
            cases r with
            | nil =>
              rw [(reads_iff cY).mp e'] at e
              cases e
            | cons a b => simp
          rw [if_neg (by simp; omega)]
          refine ⟨.str Y, List.lookup_cons_self, .inl ⟨rfl, rfl⟩, ?_⟩
          rw [if_neg (by simp [PyData.eqv])]
          exact hN _ _ ⟨c, _, _, _, _, _, _, rfl, rfl, by omega⟩
    · obtain ⟨c, j, y, b4, rfl, rfl, hy, hj, hc⟩ := h
      simp only [List.length_cons] at hj hc
      walk_at "rm_stp"
      refine call_bent (k := c) rfl (by omega) hy (by omega) fun y' c' h1 h2 => ?_
      walk_at "rm_stp"
      exact hN2 _ _ ⟨c', j + 1, y', _, rfl, rfl, h2.le (by omega) (by omega), by omega, by omega⟩
  obtain ⟨t, h1, h2⟩ := main
  exact ⟨t, h1.nox, h2⟩
end
end Rm

set_option Elab.async false
set_option linter.all false
set_option maxRecDepth 100000
set_option maxHeartbeats 0
namespace Rm
open PySem PySem.Spec PyProof.Rows L2
theorem mkDf {K : PySem.W.Frag} {mg : Str → Option Value} {x : Str} {st : Stmt} (d : He.DefD) (h : ∃ fd, FunD K x x (defArgs st) (defBody st) (defScope st) [] [] (He.ga K x) fd) (hm : mg x = some (.ref (He.ga K x))) : Df K mg x st := by
  obtain ⟨fd, F⟩ := h
  exact ⟨_, fd, F, hm⟩
theorem mkDfCd {K : PySem.W.Frag} {mg : Str → Option Value} {x : Str} {st : Stmt} (d : He.DefD) (h : ∃ fd, FunD K x x (defArgs st) (defBody st) (defScope st) [] [] (He.fAd K (x, none)) fd) (hm : mg x = some (.ref (He.fAd K (x, none)))) : DfC K mg x st (He.codeOf K (x, none)) := mkDfC h hm
theorem DfC.fn {P : Program} {w : World} {K : PySem.W.Frag} {mg : Str → Option Value} {base : Heap} {x : Str} {st : Stmt} {N ps : List Str} {k : Nat} {c f : Addr} {fd : FuncData} {CX : CXT} {sp : Sp} (F : FunD K x x (defArgs st) (defBody st) (defScope st) [] [] f fd) (hc : fd.code = .ref c) (S : FnScope N ps (defScope st)) (len : ∀ vs H Q E, sp vs H Q E → vs.length = ps.length)
    (hbody : ∀ (A : Around) (outer : List Env) (s : Shared) (H : Hp) (vs : List V) (Q : VK) (E : XK), Room k (A.deeper (envOfC x (defScope st) s.heap.objs.size f (.ref c))) → sp vs H Q E →
      ∃ t, PSs (cxOf CX P w K mg base N x (defScope st) f (.ref c) A outer s H E) (defBody st) t ∧ t { nx := fun _ H' => Q .non H', rt := Q } (start N vs) H) : FnOk P w K mg base CX (k + 1) f fd ps sp := by
  obtain ⟨oc, od, dV, kV, doc, pm, an, cdv, ct, osl, rfl, lk, hcd, _, _⟩ := F.ex
  have hc' : cdv = .ref c := hc
  subst hc'
  exact fn_of lk hcd S len hbody
theorem hex_parts {K : PySem.W.Frag} (ce : hex K = true) : excE PySem.Challenge.rw_refmodes_k05_texts_of_no_value.prog.main.file K "BadValue" ["text"] = true ∧ kpE K = true := by
  have e := (Bool.and_eq_true_iff.mp ce).2
  exact Bool.and_eq_true_iff.mp e
theorem mkT {K : PySem.W.Frag} {h : Heap} {mg : Str → Option Value} (X : K.In h) (G : h.Ns mainGlobals mg) (c : He.SaysD hfa hfn K) (ce : hex K = true) : Tx K mg where
  n_zip := He.free_ok X G (c.fact 26 (f := .free "zip") rfl)
  n_isinstance := He.free_ok X G (c.fact 27 (f := .free "isinstance") rfl)
  n_tuple := He.free_ok X G (c.fact 28 (f := .free "tuple") rfl)
  n_list := He.free_ok X G (c.fact 29 (f := .free "list") rfl)
  n_int := He.free_ok X G (c.fact 30 (f := .free "int") rfl)
  n_str := He.free_ok X G (c.fact 31 (f := .free "str") rfl)
  n_len := He.free_ok X G (c.fact 32 (f := .free "len") rfl)
  n_all := He.free_ok X G (c.fact 33 (f := .free "all") rfl)
  n_any := He.free_ok X G (c.fact 34 (f := .free "any") rfl)
  n_range := He.free_ok X G (c.fact 35 (f := .free "range") rfl)
  n_abs := He.free_ok X G (c.fact 36 (f := .free "abs") rfl)
  n_sorted := He.free_ok X G (c.fact 37 (f := .free "sorted") rfl)
  n_sum := He.free_ok X G (c.fact 38 (f := .free "sum") rfl)
  n_bool := He.free_ok X G (c.fact 39 (f := .free "bool") rfl)
  n_super := He.free_ok X G (c.fact 40 (f := .free "super") rfl)
  n_ValueError := He.free_ok X G (c.fact 41 (f := .free "ValueError") rfl)
  gLONGEST_NAME := let ⟨t, h⟩ := He.int_ok X G (c.fact 42 (f := .int "LONGEST_NAME" 8) rfl); ⟨_, h, t, rfl⟩
  gMOST_DIGITS := let ⟨t, h⟩ := He.int_ok X G (c.fact 43 (f := .int "MOST_DIGITS" 30) rfl); ⟨_, h, t, rfl⟩
  gMOST_WORDS := let ⟨t, h⟩ := He.int_ok X G (c.fact 44 (f := .int "MOST_WORDS" 7) rfl); ⟨_, h, t, rfl⟩
  gLETTERS := let ⟨t, h⟩ := He.str_ok X G (c.fact 45 (f := .str "LETTERS" letters) rfl); ⟨_, h, t, rfl⟩
  gDIGITS := let ⟨t, h⟩ := He.str_ok X G (c.fact 46 (f := .str "DIGITS" digs) rfl); ⟨_, h, t, rfl⟩
  gRESERVED := ⟨_, He.glo_ok X G (c.fact 50 (f := .glo "RESERVED") rfl), fun H => by
    have z := He.tupB_ok (hex_RESERVED ce) H
    rw [List.map_map] at z
    exact z⟩
  frozen := (mkDf f_frozen_d (c.def_ 0 (d := f_frozen_d) rfl) (He.glo_ok X G (c.fact 0 (f := .glo "frozen") rfl)))
  is_row := (mkDf f_is_row_d (c.def_ 1 (d := f_is_row_d) rfl) (He.glo_ok X G (c.fact 1 (f := .glo "is_row") rfl)))
  is_integer := (mkDf f_is_integer_d (c.def_ 2 (d := f_is_integer_d) rfl) (He.glo_ok X G (c.fact 2 (f := .glo "is_integer") rfl)))
  is_small := (mkDf f_is_small_d (c.def_ 3 (d := f_is_small_d) rfl) (He.glo_ok X G (c.fact 3 (f := .glo "is_small") rfl)))
  is_name := (mkDf f_is_name_d (c.def_ 4 (d := f_is_name_d) rfl) (He.glo_ok X G (c.fact 4 (f := .glo "is_name") rfl)))
  is_written_integer := (mkDf f_is_written_integer_d (c.def_ 5 (d := f_is_written_integer_d) rfl) (He.glo_ok X G (c.fact 5 (f := .glo "is_written_integer") rfl)))
  head_of := (mkDf f_head_of_d (c.def_ 6 (d := f_head_of_d) rfl) (He.glo_ok X G (c.fact 6 (f := .glo "head_of") rfl)))
  parts_of := (mkDf f_parts_of_d (c.def_ 7 (d := f_parts_of_d) rfl) (He.glo_ok X G (c.fact 7 (f := .glo "parts_of") rfl)))
  is_value := (mkDf f_is_value_d (c.def_ 8 (d := f_is_value_d) rfl) (He.glo_ok X G (c.fact 8 (f := .glo "is_value") rfl)))
  value_text := (mkDf f_value_text_d (c.def_ 9 (d := f_value_text_d) rfl) (He.glo_ok X G (c.fact 9 (f := .glo "value_text") rfl)))
  grouped := (mkDf f_grouped_d (c.def_ 10 (d := f_grouped_d) rfl) (He.glo_ok X G (c.fact 10 (f := .glo "grouped") rfl)))
  read_value := (mkDf f_read_value_d (c.def_ 11 (d := f_read_value_d) rfl) (He.glo_ok X G (c.fact 11 (f := .glo "read_value") rfl)))
  draw := (mkDf f_law_draw_d (c.def_ 12 (d := f_law_draw_d) rfl) (He.glo_ok X G (c.fact 12 (f := .glo "_law_draw") rfl)))
  lstart := (mkDf f_law_start_d (c.def_ 13 (d := f_law_start_d) rfl) (He.glo_ok X G (c.fact 13 (f := .glo "_law_start") rfl)))
  pick := (mkDf f_law_pick_d (c.def_ 14 (d := f_law_pick_d) rfl) (He.glo_ok X G (c.fact 14 (f := .glo "_law_pick") rfl)))
  reserved := (mkDf f_law_reserved_d (c.def_ 15 (d := f_law_reserved_d) rfl) (He.glo_ok X G (c.fact 15 (f := .glo "_law_reserved") rfl)))
  lis_name := (mkDf f_law_is_name_d (c.def_ 16 (d := f_law_is_name_d) rfl) (He.glo_ok X G (c.fact 16 (f := .glo "_law_is_name") rfl)))
  fresh := (mkDf f_law_fresh_d (c.def_ 17 (d := f_law_fresh_d) rfl) (He.glo_ok X G (c.fact 17 (f := .glo "_law_fresh") rfl)))
  number := (mkDf f_law_number_d (c.def_ 18 (d := f_law_number_d) rfl) (He.glo_ok X G (c.fact 18 (f := .glo "_law_number") rfl)))
  same := (mkDf f_law_same_d (c.def_ 19 (d := f_law_same_d) rfl) (He.glo_ok X G (c.fact 19 (f := .glo "_law_same") rfl)))
  tried := (mkDf f_law_tried_d (c.def_ 20 (d := f_law_tried_d) rfl) (He.glo_ok X G (c.fact 20 (f := .glo "_law_tried") rfl)))
  text := (mkDf f_law_text_d (c.def_ 21 (d := f_law_text_d) rfl) (He.glo_ok X G (c.fact 21 (f := .glo "_law_text") rfl)))
  bent := (mkDf f_law_bent_d (c.def_ 22 (d := f_law_bent_d) rfl) (He.glo_ok X G (c.fact 22 (f := .glo "_law_bent") rfl)))
  is_number := (mkDf f_law_is_number_d (c.def_ 23 (d := f_law_is_number_d) rfl) (He.glo_ok X G (c.fact 23 (f := .glo "_law_is_number") rfl)))
  read := (mkDf f_law_read_d (c.def_ 24 (d := f_law_read_d) rfl) (He.glo_ok X G (c.fact 24 (f := .glo "_law_read") rfl)))
  law := (mkDfCd f_law_d (c.def_ 25 (d := f_law_d) rfl) (He.glo_ok X G (c.fact 25 (f := .glo "law") rfl)))
theorem mkU {K : PySem.W.Frag} {h : Heap} {mg : Str → Option Value} (X : K.In h) (G : h.Ns mainGlobals mg) (c : He.SaysD hfa hfn K) (cx : hxn.map (fnE K) = hxv) (ce : hex K = true) (T : Tx K mg) : ExF PySem.Challenge.rw_refmodes_k05_texts_of_no_value.prog K mg "BadValue" x_BadValue_s ["text"] ∧ XcF K "BadValue" :=
  excE_ok (q := "BadValue.__init__") (hex_parts ce).1 (List.cons.inj cx).1 (He.glo_ok X G (c.fact 51 (f := .glo "BadValue") rfl)) T.n_super (by kernel_rfl)
theorem mkK {K : PySem.W.Frag} {h : Heap} {mg : Str → Option Value} (X : K.In h) (G : h.Ns mainGlobals mg) (c : He.SaysD hfa hfn K) (ce : hex K = true) (FU : ExF PySem.Challenge.rw_refmodes_k05_texts_of_no_value.prog K mg "BadValue" x_BadValue_s ["text"]) (XU : XcF K "BadValue") : KpX K mg :=
  kpE_ok (hex_parts ce).2 FU XU (He.glo_ok X G (c.fact 51 (f := .glo "BadValue") rfl)) (He.glo_ok X G (c.fact 48 (f := .glo "BadValues") rfl)) (He.glo_ok X G (c.fact 49 (f := .glo "BadCode") rfl)) (He.glo_ok X G (c.fact 47 (f := .glo "ModeError") rfl))
end Rm

set_option Elab.async false
set_option linter.all false
set_option maxRecDepth 100000
set_option maxHeartbeats 0
namespace Rm
open PySem PySem.Spec PyProof.Rows L2
end Rm
open PySem PySem.W PySem.Calls PyProof.Rows
theorem PySem.Challenge.cw_refmodes_k05_texts_of_no_value_holds : PySem.Challenge.rw_refmodes_k05_texts_of_no_value.Holds := by
  w_on; o_law
  refine HandSHeadRun.head_any (r := OpenLaw.row PySem.Challenge.rw_refmodes_k05_texts_of_no_value) (q := view (OpenLaw.row PySem.Challenge.rw_refmodes_k05_texts_of_no_value).prog [39]) (H := Rm.hk) (ob := Rm.ob) (M := 100000) (loose := Rm.loose) (d := HandSHeadRun.topDef (OpenLaw.row PySem.Challenge.rw_refmodes_k05_texts_of_no_value).prog 39) (kwd := []) Rm.ob_eq
    (by kernel_rfl) (fun s => by kernel_rfl) Rm.run (by kernel_rfl) (by kernel_rfl) (by kernel_rfl) (by rfl) (by first | assumption | decide +kernel) (by decide +kernel) ⟨rfl, rfl, rfl, rfl, rfl, by decide +kernel⟩ ?hw ?hc
  case hw => w_witness2
  case hc =>
    refine LamX.walk_ofTsE (l := PySem.Challenge.rw_refmodes_k05_texts_of_no_value) (n := 63) (k := 111) (x := "_law_script") (CX := fun _ => L2.CX0) rfl (by decide) (by kernel_rfl) ⟨rfl, by decide, by decide⟩ ?F (fun _ _ _ _ _ h => h)
    intro w mg fa h Y G hmg0
    obtain ⟨K, KX, c, cx, ce, tb⟩ := Y
    have T := Rm.mkT KX G c ce
    have hmg : mg ("law" : PySem.Str) = some (.ref fa) := by
      have e : (HandSHeadRun.topDef (OpenLaw.row PySem.Challenge.rw_refmodes_k05_texts_of_no_value).prog 39).name = ("law" : PySem.Str) := by kernel_rfl
      rw [← e]
      exact hmg0
    obtain ⟨FU, XU⟩ := Rm.mkU KX G c cx ce T
    have XM := Rm.mkK KX G c ce FU XU
    obtain ⟨f, fd, F, hm, hc⟩ := T.law.ex
    obtain rfl : fa = f := by
      have := hmg.symm.trans hm
      cases this
      rfl
    refine ⟨K, KX, fd, [He.cT K ("law", none)], Rm.spLawT K [He.cT K ("law", none)], ?_, ?_, ?_, fun s u => (L2.FunD.bindsA (ps := ["_law_script"]) F fun _ _ _ _ _ _ us hl => match us, hl with | [_], _ => rfl) s [u] rfl, fun H a ns hl _ hT sq => ⟨a, ns, rfl, sq, hl, hT, fun _ => rfl⟩, fun base h1 h2 hT => ?_⟩
    · intro p hp
      rw [List.mem_singleton.mp hp]; exact tb.empty _ (List.mem_cons_self ..)
    · intro p hp
      rw [List.mem_singleton.mp hp]; exact tb.out _ (List.mem_cons_self ..)
    · intro p hp
      rw [List.mem_singleton.mp hp]; exact PySem.W.codeHd_of_K KX (tb.hd _ (List.mem_cons_self ..))
    · exact Rm.DfC.fn (k := 110) F hc Rm.f_law_sc (fun vs H Q E hs => by obtain ⟨_, _, rfl, _⟩ := hs; rfl) fun A outer s H vs Q E hr hs => Rm.body_law T FU XM (hT _ (List.mem_cons_self ..)) _ A outer s H vs Q E hr hs
