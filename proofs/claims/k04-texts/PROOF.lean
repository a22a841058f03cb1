import PyProof.Rows.All
import Wide.All
import OpenK.AllK
import Wide.FinOn
import PyProof.ReprRoads
import HandS.Base
import HandS.Call
import HandS.List
import HandS.Comp
import HandS.Ends
import HandS.Iter
import HandS.Text
import HandS.Words
import HandS.WordsList
import HandS.Flow
import HandS.IsInst
import HandS.Defaults
import HandS.TupAny
import HandS.TupMul
import HandS.Codes
import HandS.FStrTup
import PyProof.StrBlock2
import HandS.Walk
import HandS.HeadEnd
import HandS.ReplaceList
import KE.IntTextLaws
import PyProof.Rows.StrDigitsNeg
import HandS.ReplaceLit
import HandS.ReplaceDef
import HandS.Replace
import KE.GoesZip
import KE.GoesMore
import KE.GoesEnum
import KE.KDictZip
import PyProof.ListNew
import HandS.Conv
import KE.KStateDown
import Lean
import HandS.More
import HandS.WordsExc
import HandS.Head0
import HandS.Head1
import HandS.Head2
import HandS.HeadHook1
import HandS.HeadHook2
import PySem.Challenge.RW_refmodes_k04_texts_of_values
set_option Elab.async false
set_option linter.all false
set_option maxRecDepth 100000
set_option maxHeartbeats 4000000
namespace Rm
open PySem PySem.Spec PyProof.Rows L2
/-! ### a def of the top under its name, and its promise -/
structure Df (K : PySem.W.Frag) (mg : Str → Option Value) (x : Str) (st : Stmt) : Prop where
  ex : ∃ (f : Addr) (fd : FuncData), FunD K x x (defArgs st) (defBody st) (defScope st) [] [] f fd ∧ mg x = some (.ref f)
structure Cal (P : Program) (w : World) (K : PySem.W.Frag) (mg : Str → Option Value) (base : Heap) (k : Nat) (x : Str) (sp : Sp) : Prop where
  ex : ∃ (f : Addr) (fd : FuncData) (ps : List Str), FnOk P w K mg base CX0 k f fd ps sp ∧ mg x = some (.ref f) ∧ PySem.W.keepIn K (.ref f) = true ∧ Binds K fd ps []
section
variable {P : Program} {w : World} {K : PySem.W.Frag} {mg : Str → Option Value} {base : Heap} {x : Str} {st : Stmt} {N ps : List Str} {k : Nat} {sp : Sp}
theorem Df.cal (F : Df K mg x st) (S : FnScope N ps (defScope st))
    (hb : ∀ (kV doc pm : Value) (an : Option Addr) (cdv ct : Value) (us : List Value), us.length = ps.length → bindArgs (PySem.W.fnOf x x (defArgs st) (defBody st) (defScope st) .none kV doc pm an cdv ct) ⟨us, []⟩ = pure (ps.zip us))
    (len : ∀ vs H Q E, sp vs H Q E → vs.length = ps.length)
    (hbody : ∀ (f : Addr) (cdv : Value) (A : Around) (outer : List Env) (s : Shared) (H : Hp) (vs : List V) (Q : VK) (E : XK), Room k (A.deeper (envOfC x (defScope st) s.heap.objs.size f cdv)) → sp vs H Q E →
      ∃ t, PSs (cxOf CX0 P w K mg base N x (defScope st) f cdv A outer s H E).nox (defBody st) t ∧ t { nx := fun _ H' => Q .non H', rt := Q } (start N vs) H) : Cal P w K mg base (k + 1) x sp := by
  obtain ⟨f, fd, F, m⟩ := F.ex
  refine ⟨f, fd, ps, F.ok S len fun cdv A outer s H vs Q E hr hs => ?_, m, F.kp, F.bindsN hb⟩
  obtain ⟨t, h, q⟩ := hbody f cdv A outer s H vs Q E hr hs
  exact ⟨t, h.nox, q⟩
theorem Cal.mono {j : Nat} (c : Cal P w K mg base j x sp) (h : j ≤ k) : Cal P w K mg base k x sp := by
  obtain ⟨f, fd, ps, F, r⟩ := c.ex
  exact ⟨f, fd, ps, F.mono h, r⟩
theorem Cal.imp {sp' : Sp} (c : Cal P w K mg base k x sp) (h : ∀ vs H Q E, sp' vs H Q E → sp vs H Q E) : Cal P w K mg base k x sp' := by
  obtain ⟨f, fd, ps, F, r⟩ := c.ex
  exact ⟨f, fd, ps, F.imp h, r⟩
/-- nothing is asked of it: the promise of a recursion at level 0 -/
theorem Df.zero (F : Df K mg x st)
    (hb : ∀ (kV doc pm : Value) (an : Option Addr) (cdv ct : Value) (us : List Value), us.length = ps.length → bindArgs (PySem.W.fnOf x x (defArgs st) (defBody st) (defScope st) .none kV doc pm an cdv ct) ⟨us, []⟩ = pure (ps.zip us))
    (no : ∀ vs H Q E, ¬ sp vs H Q E) : Cal P w K mg base k x sp := by
  obtain ⟨f, fd, F, m⟩ := F.ex
  exact ⟨f, fd, ps, ⟨fun vs H Q E h => absurd h (no vs H Q E), fun A outer s H args us vs Q E _ _ _ _ h => absurd h (no vs H Q E)⟩, m, F.kp, F.bindsN hb⟩
end
section
variable {X : Cx} {k j : Nat} {x : Str} {sp : Sp} {p pos : Pos} {e : Expr} {es : List Expr} {t : TA}
theorem pe_c (c : Cal X.prog X.w X.K X.mg X.base k x sp) (hr : Room j X.A) (hk : k ≤ j) (hg : Gl X x) (ha : PA X (e :: es) t)
    (hdb : (x == ("__debug__" : Str)) = false := by decide) (he : starEach (e :: es) X.env = (false, eval e X.env) :: starEach es X.env := by rfl) (hpl : (backTo pos (starEach es X.env)).any (·.1) = false := by rfl) :
    PE X (.Call (.Name x p) (e :: es) [] pos) (tCall sp [] E0 t) := by
  obtain ⟨f, fd, ps, F, hm, kp, b⟩ := c.ex
  exact pe_call F (hr.mono hk) hg hm kp b .nil pass0 ha hdb he hpl
theorem pe_c0 (c : Cal X.prog X.w X.K X.mg X.base k x sp) (hr : Room j X.A) (hk : k ≤ j) (hg : Gl X x)
    (hdb : (x == ("__debug__" : Str)) = false := by decide) : PE X (.Call (.Name x p) [] [] pos) (tCall sp [] E0 tNil) := by
  obtain ⟨f, fd, ps, F, hm, kp, b⟩ := c.ex
  exact pe_call0 F (hr.mono hk) hg hm kp b .nil pass0 hdb
theorem pi_or {tg it : Expr} {a b : TI} (h : PI X tg it a) (h' : PI X tg it b) : PI X tg it (fun σ H R => a σ H R ∨ b σ H R) :=
  ⟨fun pins s σ H R I q => q.elim (h.run pins s σ H R I) (h'.run pins s σ H R I)⟩
end
theorem small {n : Nat} (h : n ≤ 1000) : n ≤ sizeLine := Nat.le_of_lt (small1000 h)
theorem same_new {H : Hp} {p : Addr} (h : H p = none) (o : HO) : Same H (upd H p o) := fun b u q => by
  rw [upd_ne (ne_of_none q h)]
  exact q
/-! ### the spring of draws: a list at st of the numbers' list at sl and three ints -/
/-- all but the spring is as it was -/
def Keep (st sl : Addr) (H H' : Hp) : Prop := ∀ b o, b ≠ st → b ≠ sl → H b = some o → H' b = some o
theorem Keep.of {st sl : Addr} {H H' : Hp} (h : ∀ b o, b ≠ st → b ≠ sl → H b = some o → H' b = some o) : Keep st sl H H' := h
theorem Keep.refl {st sl : Addr} (H : Hp) : Keep st sl H H := fun _ _ _ _ e => e
theorem Keep.trans {st sl : Addr} {H H1 H2 : Hp} (h : Keep st sl H H1) (h' : Keep st sl H1 H2) : Keep st sl H H2 := fun b o n1 n2 e => h' b o n1 n2 (h b o n1 n2 e)
theorem Keep.same {st sl : Addr} {H H' : Hp} (h : Same H H') : Keep st sl H H' := fun b o _ _ q => h b o q
theorem Keep.new {st sl p : Addr} {H : Hp} {o : HO} (h : H p = none) : Keep st sl H (upd H p o) := .same (same_new h o)
/-- the heap without some things -/
def hid (Z : List Addr) (H : Hp) : Hp := fun b => if b ∈ Z then none else H b
theorem hid_ne {Z : List Addr} {b : Addr} {H : Hp} (h : b ∉ Z) : hid Z H b = H b := if_neg h
theorem hid_some {Z : List Addr} {b : Addr} {H : Hp} {o : HO} (h : hid Z H b = some o) : H b = some o ∧ b ∉ Z := by
  unfold hid at h
  split at h
  · cases h
  · rename_i q
    exact ⟨h, q⟩
theorem hid_same (Z : List Addr) (H : Hp) : Same (hid Z H) H := fun _ _ h => (hid_some h).1
theorem hid_less {Z Y : List Addr} (h : ∀ z ∈ Z, z ∈ Y) (H : Hp) : Same (hid Y H) (hid Z H) := fun b o e => by
  obtain ⟨e1, e2⟩ := hid_some e
  rw [hid_ne fun q => e2 (h b q)]
  exact e1
theorem hid_upd {Z : List Addr} {H : Hp} {p : Addr} {o : HO} (h : p ∈ Z) : Same (hid Z H) (hid Z (upd H p o)) := fun b u e => by
  obtain ⟨e1, e2⟩ := hid_some e
  rw [hid_ne e2, upd_ne (fun (q : b = p) => e2 (by rw [q]; exact h))]
  exact e1
theorem hid_mono {Z : List Addr} {H H' : Hp} (g : Same H H') : Same (hid Z H) (hid Z H') := fun b u e => by
  obtain ⟨e1, e2⟩ := hid_some e
  rw [hid_ne e2]
  exact g _ _ e1
theorem Keep.hid {st sl : Addr} {Z : List Addr} {H H' : Hp} (k : Keep st sl H H') (h1 : st ∈ Z) (h2 : sl ∈ Z) : Same (hid Z H) (hid Z H') := fun b u e => by
  obtain ⟨e1, e2⟩ := hid_some e
  rw [hid_ne e2]
  exact k _ _ (fun q => e2 (by rw [q]; exact h1)) (fun q => e2 (by rw [q]; exact h2)) e1
structure Sk (st sl : Addr) (c : Nat) (H : Hp) : Prop where
  ne : st ≠ sl
  ex : ∃ (r m : Int) (ns : List Int), H st = some (.lst [.ref sl, .int r, .int c, .int m]) ∧ H sl = some (.lst (ns.map V.int)) ∧ 0 ≤ r ∧ 0 ≤ m ∧ m < 2147483647 ∧ ns.length ≤ 63
theorem Sk.new {st sl p : Addr} {c : Nat} {H : Hp} {o : HO} (k : Sk st sl c H) (h : H p = none) : Sk st sl c (upd H p o) := by
  obtain ⟨n, r, m, ns, h1, h2, q⟩ := k
  exact ⟨n, r, m, ns, same_new h o _ _ h1, same_new h o _ _ h2, q⟩
theorem Sk.upd {st sl p : Addr} {c : Nat} {H : Hp} {o : HO} (k : Sk st sl c H) (h1 : p ≠ st) (h2 : p ≠ sl) : Sk st sl c (upd H p o) := by
  obtain ⟨n, r, m, ns, e1, e2, q⟩ := k
  exact ⟨n, r, m, ns, by rw [upd_ne h1.symm]; exact e1, by rw [upd_ne h2.symm]; exact e2, q⟩
theorem Sk.nst {st sl p : Addr} {c : Nat} {H : Hp} (k : Sk st sl c H) (h : H p = none) : p ≠ st := by
  obtain ⟨n, r, m, ns, e1, e2, q⟩ := k
  exact (ne_of_none e1 h).symm
theorem Sk.nsl {st sl p : Addr} {c : Nat} {H : Hp} (k : Sk st sl c H) (h : H p = none) : p ≠ sl := by
  obtain ⟨n, r, m, ns, e1, e2, q⟩ := k
  exact (ne_of_none e2 h).symm
/-- what is hidden: the spring at least, all of it tracked -/
structure Liv (Z : List Addr) (st sl : Addr) (H : Hp) : Prop where
  st : st ∈ Z
  sl : sl ∈ Z
  on : ∀ z ∈ Z, H z ≠ none
theorem Liv.keep {Z : List Addr} {st sl : Addr} {c : Nat} {H H' : Hp} (l : Liv Z st sl H) (k : Keep st sl H H') (s : Sk st sl c H') : Liv Z st sl H' := by
  refine ⟨l.st, l.sl, fun z hz => ?_⟩
  obtain ⟨n, r, m, ns, e1, e2, q⟩ := s
  by_cases h1 : z = st
  · rw [h1, e1]; exact fun e => nomatch e
  by_cases h2 : z = sl
  · rw [h2, e2]; exact fun e => nomatch e
  cases e : H z with
  | none => exact absurd e (l.on z hz)
  | some o => rw [k z o h1 h2 e]; exact fun e => nomatch e
theorem Liv.cons {Z : List Addr} {st sl p : Addr} {H : Hp} {o : HO} (l : Liv Z st sl H) : Liv (p :: Z) st sl (upd H p o) := by
  refine ⟨List.mem_cons_of_mem _ l.st, List.mem_cons_of_mem _ l.sl, fun z hz => ?_⟩
  by_cases h : z = p
  · rw [h, upd_same]; exact fun e => nomatch e
  · rw [upd_ne h]
    rcases List.mem_cons.mp hz with e | e
    · exact absurd e h
    · exact l.on z e
theorem Liv.upd {Z : List Addr} {st sl p : Addr} {H : Hp} {o : HO} (l : Liv Z st sl H) : Liv Z st sl (upd H p o) := by
  refine ⟨l.st, l.sl, fun z hz => ?_⟩
  by_cases h : z = p
  · rw [h, upd_same]; exact fun e => nomatch e
  · rw [upd_ne h]; exact l.on z hz
theorem Liv.out {Z : List Addr} {st sl p : Addr} {H : Hp} (l : Liv Z st sl H) (h : H p = none) : p ∉ Z := fun q => l.on p q h
theorem Liv.same {Z : List Addr} {st sl : Addr} {H H' : Hp} (l : Liv Z st sl H) (k : Same H H') : Liv Z st sl H' := by
  refine ⟨l.st, l.sl, fun z hz => ?_⟩
  cases e : H z with
  | none => exact absurd e (l.on z hz)
  | some o => rw [k z o e]; exact fun e => nomatch e
theorem Sk.same {st sl : Addr} {c : Nat} {H H' : Hp} (k : Sk st sl c H) (g : Same H H') : Sk st sl c H' := by
  obtain ⟨n, r, m, ns, h1, h2, q⟩ := k
  exact ⟨n, r, m, ns, g _ _ h1, g _ _ h2, q⟩
theorem dp_ints {K : PySem.W.Frag} {H : Hp} : ∀ ns : List Int, DpAll K H (ns.map V.int) (ns.map PyData.int)
  | [] => .nil
  | n :: r => .cons (.int n) (dp_ints r)
theorem lay_ints : ∀ ns : List Int, PyData.canLayAll0 (ns.map PyData.int) = true
  | [] => by simp only [List.map_nil, PyData.canLayAll0]
  | n :: r => by simp only [List.map_cons, PyData.canLayAll0, PyData.canLay0, lay_ints r, Bool.and_self]
theorem depth_ints : ∀ ns : List Int, PyData.depthAll (ns.map PyData.int) = 0
  | [] => by simp only [List.map_nil, PyData.depthAll]
  | n :: r => by simp only [List.map_cons, PyData.depthAll, PyData.depth, depth_ints r, Nat.max_self]
theorem shaped_ints (ns : List Int) : SeqAt.shaped (.list (ns.map PyData.int)) = true := by
  unfold SeqAt.shaped
  simp only [PyData.canLay0, PyData.depth, lay_ints, depth_ints, Bool.true_and]
  decide
theorem eqv_ints_nil (ns : List Int) : PyData.eqv (.list (ns.map PyData.int)) (.list []) = ns.isEmpty := by
  cases ns <;> simp [PyData.eqv, PyData.eqvAll]
theorem seqIx0 (n : Nat) : seqIndex? 0 (n + 1) = some 0 := by
  have h : ixN (n + 1) 0 = some 0 := by
    unfold ixN
    rw [if_pos (by decide), if_pos (by omega)]
    rfl
  exact (ixN_seq h).1
/-- what a draw promises -/
def spDraw : Sp := fun vs H Q _ => ∃ (st sl : Addr) (c : Nat) (n : Int), vs = [.ref st, .int n] ∧ Sk st sl c H ∧ c < 1000000 ∧ 0 < n ∧ n < 1073741824 ∧
  ∀ (r : Int) (H' : Hp), 0 ≤ r → r < n → Sk st sl (c + 1) H' → Keep st sl H H' → Q (.int r) H'
end Rm

set_option Elab.async false
set_option linter.all false
set_option maxRecDepth 100000
set_option maxHeartbeats 4000000
namespace Rm
open PySem PySem.Spec PyProof.Rows L2
/-! ### data: atoms, and rows of data, up to n deep -/
def atom : PyData → Prop
  | .none => True
  | .bool _ => True
  | .int i => i.natAbs ≤ 10 ^ 30
  | .str x => x.length ≤ 9 ∧ ∀ c ∈ x.cps.toList, c < 128
  | _ => False
def ok : Nat → PyData → Prop
  | 0, d => atom d
  | n + 1, .list ds => ds.length ≤ 9 ∧ ∀ e ∈ ds, ok n e
  | n + 1, .tuple ds => ds.length ≤ 9 ∧ ∀ e ∈ ds, ok n e
  | _ + 1, d => atom d
theorem ok_atom {n : Nat} {d : PyData} (h : atom d) : ok n d := by
  cases n with
  | zero => exact h
  | succ n => cases d <;> first | exact h | exact h.elim
theorem ok_succ : ∀ {n : Nat} {d : PyData}, ok n d → ok (n + 1) d
  | 0, d, h => ok_atom h
  | n + 1, .list ds, h => ⟨h.1, fun e he => ok_succ (h.2 e he)⟩
  | n + 1, .tuple ds, h => ⟨h.1, fun e he => ok_succ (h.2 e he)⟩
  | n + 1, .none, h => h
  | n + 1, .bool _, h => h
  | n + 1, .int _, h => h
  | n + 1, .str _, h => h
  | n + 1, .dict _, h => h
theorem ok_le {n m : Nat} {d : PyData} (h : n ≤ m) (o : ok n d) : ok m d := by
  induction h with
  | refl => exact o
  | step _ ih => exact ok_succ ih
theorem lay_all {ds : List PyData} (h : ∀ d ∈ ds, d.canLay0 = true) : PyData.canLayAll0 ds = true := by
  induction ds with
  | nil => simp only [PyData.canLayAll0]
  | cons d r ih => simp only [PyData.canLayAll0, h d (List.mem_cons_self ..), ih fun e he => h e (List.mem_cons_of_mem _ he), Bool.and_self]
theorem depth_all {n : Nat} {ds : List PyData} (h : ∀ d ∈ ds, d.depth ≤ n) : PyData.depthAll ds ≤ n := by
  induction ds with
  | nil => simp only [PyData.depthAll]; omega
  | cons d r ih =>
    simp only [PyData.depthAll]
    exact Nat.max_le.mpr ⟨h d (List.mem_cons_self ..), ih fun e he => h e (List.mem_cons_of_mem _ he)⟩
theorem show_all {ds : List PyData} (h : ∀ d ∈ ds, d.showable = true) : PyData.showableAll ds = true := by
  induction ds with
  | nil => simp only [PyData.showableAll]
  | cons d r ih => simp only [PyData.showableAll, h d (List.mem_cons_self ..), ih fun e he => h e (List.mem_cons_of_mem _ he), Bool.and_self]
theorem atom_lay {d : PyData} (h : atom d) : d.canLay0 = true ∧ d.depth = 0 ∧ d.showable = true := by
  cases d with
  | none => simp [PyData.canLay0, PyData.depth, PyData.showable]
  | bool b => simp [PyData.canLay0, PyData.depth, PyData.showable]
  | int i =>
    refine ⟨by simp only [PyData.canLay0], by simp only [PyData.depth], ?_⟩
    simp only [PyData.showable, decide_eq_true_eq]
    have h1 : i.natAbs < 2 ^ 1920 := Nat.lt_of_le_of_lt (show i.natAbs ≤ 10 ^ 30 from h) (by decide)
    by_cases h0 : i.natAbs = 0
    · rw [h0]; decide
    · exact (Nat.log2_lt h0).mpr h1
  | str x =>
    refine ⟨?_, by simp only [PyData.depth], by simp only [PyData.showable]⟩
    simp only [PyData.canLay0]
    unfold PyData.strOk
    rw [← Array.all_toList, List.all_eq_true]
    intro c hc
    have := h.2 c hc
    exact decide_eq_true (by omega)
  | list ds => exact h.elim
  | tuple ds => exact h.elim
  | dict ds => exact h.elim
theorem ok_facts : ∀ {n : Nat} {d : PyData}, ok n d → d.canLay0 = true ∧ d.depth ≤ n ∧ d.showable = true
  | 0, d, h => ⟨(atom_lay h).1, Nat.le_of_eq (atom_lay h).2.1, (atom_lay h).2.2⟩
  | n + 1, .list ds, h => by
    simp only [PyData.canLay0, PyData.depth, PyData.showable]
    exact ⟨lay_all fun e he => (ok_facts (h.2 e he)).1, Nat.succ_le_succ (depth_all fun e he => (ok_facts (h.2 e he)).2.1), show_all fun e he => (ok_facts (h.2 e he)).2.2⟩
  | n + 1, .tuple ds, h => by
    simp only [PyData.canLay0, PyData.depth, PyData.showable]
    exact ⟨lay_all fun e he => (ok_facts (h.2 e he)).1, Nat.succ_le_succ (depth_all fun e he => (ok_facts (h.2 e he)).2.1), show_all fun e he => (ok_facts (h.2 e he)).2.2⟩
  | n + 1, .none, h => ⟨(atom_lay (d := .none) h).1, by rw [(atom_lay (d := .none) h).2.1]; omega, (atom_lay (d := .none) h).2.2⟩
  | n + 1, .bool b, h => ⟨(atom_lay (d := .bool b) h).1, by rw [(atom_lay (d := .bool b) h).2.1]; omega, (atom_lay (d := .bool b) h).2.2⟩
  | n + 1, .int b, h => ⟨(atom_lay (d := .int b) h).1, by rw [(atom_lay (d := .int b) h).2.1]; omega, (atom_lay (d := .int b) h).2.2⟩
  | n + 1, .str b, h => ⟨(atom_lay (d := .str b) h).1, by rw [(atom_lay (d := .str b) h).2.1]; omega, (atom_lay (d := .str b) h).2.2⟩
  | n + 1, .dict b, h => (show False from h).elim
theorem ok_shaped {n : Nat} {d : PyData} (h : ok n d) (hn : n ≤ 64) : SeqAt.shaped d = true := by
  unfold SeqAt.shaped
  rw [(ok_facts h).1, Bool.true_and]
  exact decide_eq_true (Nat.le_trans (ok_facts h).2.1 hn)
/-! ### how long a datum's text may be -/
def bnd : Nat → Nat
  | 0 => 100
  | n + 1 => 9 * (bnd n + 2) + 100
theorem piled_le {ts : List Str} {b : Nat} (h : ∀ t ∈ ts, t.length ≤ b) : piled ts ≤ ts.length * (b + 2) := by
  induction ts with
  | nil => exact Nat.zero_le _
  | cons t r ih =>
    rw [piled_cons, List.length_cons, Nat.succ_mul]
    have := h t (List.mem_cons_self ..)
    have := ih fun e he => h e (List.mem_cons_of_mem _ he)
    omega
theorem shownAll_mem {ds : List PyData} {t : Str} (h : t ∈ PyData.shownAll ds) : ∃ d ∈ ds, t = d.shown := by
  induction ds with
  | nil => simp only [PyData.shownAll] at h; cases h
  | cons d r ih =>
    simp only [PyData.shownAll] at h
    rcases List.mem_cons.mp h with e | e
    · exact ⟨d, List.mem_cons_self .., e⟩
    · obtain ⟨d', h1, h2⟩ := ih e
      exact ⟨d', List.mem_cons_of_mem _ h1, h2⟩
theorem shownAll_len (ds : List PyData) : (PyData.shownAll ds).length = ds.length := by
  induction ds with
  | nil => simp only [PyData.shownAll]; rfl
  | cons d r ih => simp only [PyData.shownAll, List.length_cons, ih]
theorem listText_len : ∀ ts : List Str, (listText ts).length ≤ piled ts + 2
  | [] => by decide +kernel
  | t :: r => by
    have e : listText (t :: r) = textFrom 1 ("[" ++ "" ++ t) r ++ "]" := rfl
    have h2 := textFrom_length_pos r 1 ("[" ++ "" ++ t) (by omega)
    have e1 : ((("[" : String) : Str)).length = 1 := rfl
    have e2 : ((("" : String) : Str)).length = 0 := rfl
    have e3 : ((("]" : String) : Str)).length = 1 := rfl
    rw [e, strLen_append, h2, strLen_append, strLen_append, piled_cons]
    omega
theorem sameT {K : PySem.W.Frag} {H H' : Hp} {a : Addr} {xs : List V} (g : Same H H') (h : SqT K H a xs) : SqT K H' a xs := by
  rcases h with (h | ⟨o, h⟩) | h
  · exact .inl (.inl (g _ _ h))
  · exact .inl (.inr ⟨o, g _ _ h⟩)
  · exact .inr h
theorem atom_shown {d : PyData} (h : atom d) : d.shown.length ≤ 100 := by
  cases d with
  | none => simp only [PyData.shown]; decide +kernel
  | bool b => cases b <;> (simp only [PyData.shown]; decide +kernel)
  | int i =>
    have h1 : i.natAbs < 10 ^ 31 := Nat.lt_of_le_of_lt (show i.natAbs ≤ 10 ^ 30 from h) (by decide)
    have h2 := int_text_length_le10 (by decide : 0 < 31) h1
    simp only [PyData.shown]
    have e : (Str.ofString (toString i)).length = (toString i).length := PySem.ofString_length _
    omega
  | str x =>
    have := StrLaws.reprText_len x fun c hc => Nat.lt_trans (h.2 c hc) (by decide)
    simp only [PyData.shown]
    have := h.1
    omega
  | list ds => exact h.elim
  | tuple ds => exact h.elim
  | dict ds => exact h.elim
theorem bnd_pos (n : Nat) : 100 ≤ bnd n := by
  cases n with
  | zero => exact Nat.le_refl _
  | succ n => show 100 ≤ 9 * (bnd n + 2) + 100; omega
theorem row_shown {n : Nat} {ds : List PyData} (h : ds.length ≤ 9) (ih : ∀ e ∈ ds, e.shown.length ≤ bnd n) : piled (PyData.shownAll ds) + 3 ≤ bnd (n + 1) := by
  have h1 : piled (PyData.shownAll ds) ≤ (PyData.shownAll ds).length * (bnd n + 2) := piled_le fun t ht => by
    obtain ⟨d, h1, rfl⟩ := shownAll_mem ht
    exact ih d h1
  rw [shownAll_len] at h1
  have h2 : ds.length * (bnd n + 2) ≤ 9 * (bnd n + 2) := Nat.mul_le_mul_right _ h
  show _ ≤ 9 * (bnd n + 2) + 100
  omega
theorem ok_shown : ∀ {n : Nat} {d : PyData}, ok n d → d.shown.length ≤ bnd n
  | 0, d, h => atom_shown h
  | n + 1, .list ds, h => by
    have h1 := row_shown h.1 fun e he => ok_shown (h.2 e he)
    have h2 := listText_len (PyData.shownAll ds)
    simp only [PyData.shown]
    omega
  | n + 1, .tuple ds, h => by
    have h1 := row_shown h.1 fun e he => ok_shown (h.2 e he)
    have h2 := fmt_text (PyData.shownAll ds)
    simp only [PyData.shown]
    omega
  | n + 1, .none, h => Nat.le_trans (atom_shown (d := .none) h) (bnd_pos _)
  | n + 1, .bool b, h => Nat.le_trans (atom_shown (d := .bool b) h) (bnd_pos _)
  | n + 1, .int b, h => Nat.le_trans (atom_shown (d := .int b) h) (bnd_pos _)
  | n + 1, .str b, h => Nat.le_trans (atom_shown (d := .str b) h) (bnd_pos _)
  | n + 1, .dict b, h => (show False from h).elim
/-! ### a datum's class -/
def tyN : PyData → String
  | .none => "NoneType"
  | .bool _ => "bool"
  | .int _ => "int"
  | .str _ => "str"
  | .list _ => "list"
  | .tuple _ => "tuple"
  | .dict _ => "dict"
theorem _root_.L2.Dp.tyx {K : PySem.W.Frag} {H : Hp} {v : V} {d : PyData} (h : Dp K H v d) : TyX K H v (.type (tyN d)) := by
  cases h with
  | non => exact .base .non
  | bl b => exact .base (.bl b)
  | int i => exact .base (.int i)
  | str x => exact .base (.str x)
  | lst q _ =>
    rcases q with (q | ⟨o, q⟩) | ⟨o, its, n, q, c, _⟩
    · exact .base (.lst q)
    · exact .base (.frz q)
    · exact .kList q c
  | tup q _ =>
    rcases q with (q | ⟨o, q⟩) | ⟨o, its, n, q, c, _⟩
    · exact .base (.tup q)
    · exact .fTuple q
    · exact .kTuple q c
def isSeq : PyData → Bool
  | .list _ => true
  | .tuple _ => true
  | _ => false
def isTn (t n : String) : Bool := n == t || (t == "int" && n == "bool")
def isT (t : String) (d : PyData) : Bool := isTn t (tyN d)
theorem tyN_of {d : PyData} (h : ∀ k, d ≠ .dict k) : tyN d = "NoneType" ∨ tyN d = "bool" ∨ tyN d = "int" ∨ tyN d = "str" ∨ tyN d = "list" ∨ tyN d = "tuple" := by
  cases d with
  | dict k => exact absurd rfl (h k)
  | _ => simp [tyN]
theorem kit_one {K : PySem.W.Frag} {d : PyData} (h : ∀ k, d ≠ .dict k) (t : String) (ht : t = "int" ∨ t = "bool" ∨ t = "str" ∨ t = "tuple" ∨ t = "list") : PySem.W.kitOne K (.type (tyN d)) (.type t) = some (isT t d) := by
  unfold isT
  rcases tyN_of h with e | e | e | e | e | e <;> rw [e] <;> rcases ht with rfl | rfl | rfl | rfl | rfl <;> exact kit_ty (by decide +kernel)
theorem kit_many {K : PySem.W.Frag} {d : PyData} (h : ∀ k, d ≠ .dict k) : ∀ ts : List String, (∀ t ∈ ts, t = "int" ∨ t = "bool" ∨ t = "str" ∨ t = "tuple" ∨ t = "list") → PySem.W.kitAny K (.type (tyN d)) (ts.map Value.type) = some (ts.any (isT · d))
  | [], _ => kitAny_nil
  | t :: r, ht => by
    refine kitAny_cons (kit_one h t (ht t (List.mem_cons_self ..))) (fun e => ?_) (fun e => ?_)
    · rw [kit_many h r fun u hu => ht u (List.mem_cons_of_mem _ hu), List.any_cons, e, Bool.false_or]
    · rw [List.any_cons, e, Bool.true_or]
theorem kit_seq {K : PySem.W.Frag} {d : PyData} (h : ∀ k, d ≠ .dict k) : PySem.W.kitAny K (.type (tyN d)) [.type "tuple", .type "list"] = some (isSeq d) := by
  have := kit_many (K := K) h ["tuple", "list"] (by simp)
  refine Eq.trans this (congrArg some ?_)
  cases d with
  | dict k => exact absurd rfl (h k)
  | _ => rfl
theorem _root_.L2.Dp.nodict {K : PySem.W.Frag} {H : Hp} {v : V} {d : PyData} (h : Dp K H v d) : ∀ k, d ≠ .dict k := fun k e => by
  subst e
  cases h
mutual
theorem dpMono {K : PySem.W.Frag} {H H' : Hp} (g : Same H H') : ∀ {d : PyData} {v : V}, Dp K H v d → Dp K H' v d
  | _, _, .non => .non
  | _, _, .bl b => .bl b
  | _, _, .int i => .int i
  | _, _, .str x => .str x
  | _, _, .lst q r => .lst (g.seq q) (dpAllMono g r)
  | _, _, .tup q r => .tup (sameT g q) (dpAllMono g r)
theorem dpAllMono {K : PySem.W.Frag} {H H' : Hp} (g : Same H H') : ∀ {ds : List PyData} {vs : List V}, DpAll K H vs ds → DpAll K H' vs ds
  | _, _, .nil => .nil
  | _, _, .cons h r => .cons (dpMono g h) (dpAllMono g r)
end
theorem _root_.L2.Dp.mono {K : PySem.W.Frag} {H H' : Hp} (g : Same H H') {d : PyData} {v : V} (h : Dp K H v d) : Dp K H' v d := dpMono g h
theorem _root_.L2.DpAll.mono {K : PySem.W.Frag} {H H' : Hp} (g : Same H H') {ds : List PyData} {vs : List V} (h : DpAll K H vs ds) : DpAll K H' vs ds := dpAllMono g h
end Rm

set_option Elab.async false
set_option linter.all false
set_option maxRecDepth 100000
set_option maxHeartbeats 4000000
namespace Rm
open PySem PySem.Spec PyProof.Rows L2
section
variable {X : Cx}
/-- repr of a datum, where no repr is under way -/
theorem call_reprD (hg : X.A.guards = some []) (hu : X.A.units + 100 < cLine) : CallR X (.builtin "repr") (fun xs H Q => ∃ (v : V) (d : PyData) (n : Nat), xs = [v] ∧ Dp X.K H v d ∧ ok n d ∧ n ≤ 64 ∧ d.shown.length ≤ sizeLine ∧ Q (.str d.shown) H) := by
  intro pins s σ H xs us Q I r h
  obtain ⟨v, d, n, rfl, hd, hok, hn, hl, q⟩ := h
  obtain ⟨u, rfl, ru⟩ := Vals.one r
  have fin : ∀ {T : PyData}, d = T → ∀ h' tk t, (∀ b o, s.heap.get? b = some o → h'.get? b = some o) → EP X pins σ Q (.str T.shown t) { s with heap := h', toks := tk } := fun e h' tk t k =>
    ⟨.str d.shown, H, I.turnedL (ch := []) (fun b o _ e => k b o e) (fun b hb => nomatch hb), ⟨t, by rw [e]⟩, q⟩
  have fin0 : ∀ tk t, EP X pins σ Q (.str d.shown t) { s with toks := tk } := fun tk t => fin rfl s.heap tk t fun _ _ e => e
  have big : ∀ a, u = .ref a → wpAny (model X.prog X.w) X.A (call (.builtin "repr") [u]) (EP X pins σ Q) X.xe s := fun a e => by
    subst e
    obtain ⟨as, rd⟩ := Dp.reads I d v _ hd ru
    obtain ⟨f1, f2, f3⟩ := ok_facts hok
    exact repr_of_reads' rd f3 (fun z => by rw [PyData.hasDict_of_canLay d f1] at z; cases z) hg (by omega) (fun _ _ e => e) (fun h' t tk k => fin rfl h' tk t k) hl
  cases hd with
  | non =>
    obtain rfl : u = Value.none := ru
    refine PySem.P.repr_of_none ?_
    have := fin0 (s.toks + 1) s.toks
    simp only [PyData.shown] at this
    exact this
  | bl b =>
    obtain rfl : u = Value.bool b := ru
    refine PySem.P.repr_of_bool ?_
    have := fin0 (s.toks + 1) s.toks
    simp only [PyData.shown] at this
    exact this
  | int i =>
    obtain ⟨t, rfl⟩ := ru
    have z := (ok_facts hok).2.2
    simp only [PyData.showable, decide_eq_true_eq] at z
    refine PySem.P.repr_of_int z ?_
    have := fin0 (s.toks + 1) s.toks
    simp only [PyData.shown] at this
    exact this
  | str x =>
    obtain ⟨t, rfl⟩ := ru
    simp only [PyData.shown] at hl
    refine PySem.P.repr_of_str ?_ hl
    have := fin0 (s.toks + 1) s.toks
    simp only [PyData.shown] at this
    exact this
  | lst a b => exact big _ ru
  | tup a b => exact big _ ru
theorem mulOk {z : Str} {n : Int} (h1 : n ≤ 1000) (h2 : z.length ≤ 1000) (h0 : -1000 ≤ n) : MulOk z n := by
  refine ⟨?_, fun h _ => ?_, fun h _ => ?_⟩
  · rw [decide_eq_false (by omega), decide_eq_false (by omega)]
    rfl
  · have h3 : (z.length : Int) * n ≤ 1000 * 1000 := Int.mul_le_mul (by omega) h1 (by omega) (by decide)
    have h4 : (z.length : Int) ≤ (2 ^ 63 - 1) / n := Int.le_ediv_of_mul_le (by omega) (by omega)
    omega
  · unfold Builtin.Str.tooLong
    refine decide_eq_false ?_
    have h3 : z.length * n.toNat ≤ 1000 * 1000 := Nat.mul_le_mul h2 (by omega)
    have h4 : 1000 * 1000 ≤ sizeLine := by decide
    omega
/-- a text times an int -/
theorem op_mul_str : OpR X (binaryOp .Mult) (fun x y H Q => ∃ (z : Str) (n : Int), x = .str z ∧ y = .int n ∧ -1000 ≤ n ∧ n ≤ 1000 ∧ z.length ≤ 1000 ∧ Q (.str (Txt.mul z n)) H) := by
  intro pins s σ H x y v u Q I rx ry h
  obtain ⟨z, n, rfl, rfl, h0, h1, h2, q⟩ := h
  obtain ⟨t, rfl⟩ := rx
  obtain ⟨t', rfl⟩ := ry
  exact PySem.SB.mul (mulOk h1 h2 h0) fun t'' k => ⟨.str _, H, I.tok _, ⟨_, rfl⟩, q⟩
/-- int(a truth) -/
theorem call_int_b : CallR X (.type "int") (fun xs H Q => ∃ k, xs = [.bl k] ∧ Q (.int (if k = true then 1 else 0)) H) := fun pins s σ H xs us Q I r h => call_int1 pins s σ H xs us Q I r (.inr h)
/-- for over a list or a tuple -/
theorem pi_seq {tg l : Expr} {tl : TE} (h : PE X l tl) : PI X tg l (fun σ H R => iList X.K tl σ H R ∨ iTup X.K tl σ H R) := pi_or (pi_list h) (pi_tup h)
end
/-! ### comprehensions of one name -/
theorem wipe1 (σ : L2.St) (j : Nat) (v : Option V) : wipe ((wipe σ [j]).set j v) [j] = wipe σ [j] := by
  show ((σ.set j none).set j v).set j none = σ.set j none
  rw [List.set_set, List.set_set]
/-- the elements make new things at most -/
theorem lc_pure {J : It} {n : Nat} {G : Hp → Prop} {Y : Nat → Hp → V → Hp → Prop} (w : Walk J n G Y) {te : TE} {j : Nat} {σ : L2.St} {H1 : Hp} {D : Addr} {Qd : Hp → Prop} (nD : H1 D = none) (hn : n ≤ 1000000)
    (R : Nat → V → Prop) (hG : ∀ H, Same H1 H → G H) (hY : ∀ i H x H', Y i H x H' → H' = H)
    (he : ∀ i x H Q, i < n → Same H1 H → Y i H x H → (∀ y H4, R i y → Same H H4 → Q y H4) → te ((wipe σ [j]).set j (some x)) H Q)
    (hd : ∀ H ys, Same H1 H → ys.length = n → (∀ i y, ys[i]? = some y → R i y) → H D = some (.lst ys) → Qd H) :
    ∃ W : Nat → Nat → Hp → Prop, (∃ m, W 0 m (upd H1 D (.lst []))) ∧ ∀ i m H, W i m H →
      (J.stop i H ∧ Qd H) ∨ (J.go i H ∧ ∃ Nx : Hp → Prop, (∀ H', Nx H' → ∃ m', m' < m ∧ W (i + 1) m' H') ∧ ∀ x H', J.yld i H x H' → gName j x (wipe σ [j]) H' fun σ2 H2 => wipe σ2 [j] = wipe σ [j] ∧ tYes σ2 H2 fun b H3 =>
        if b = true then te σ2 H3 fun y H4 => ∃ acc, H4 D = some (.lst acc) ∧ acc.length < sizeLine ∧ Nx (upd H4 D (.lst (acc ++ [y]))) else Nx H3) := by
  refine lc_it w (fun i H => Same H1 H ∧ ∃ ys, ys.length = i ∧ (∀ k y, ys[k]? = some y → R k y) ∧ H D = some (.lst ys)) ⟨same_new nD _, [], rfl, fun k y e => by simp at e, upd_same⟩ (fun i H _ p => hG H p.1) ?_ fun H p => ?_
  · rintro i x H H' hi ⟨g1, ys, hl, hR, hD⟩ hy
    obtain rfl := hY i H x H' hy
    refine ⟨wipe1 _ _ _, ?_⟩
    unfold tYes
    dsimp only
    rw [if_pos rfl]
    refine he i x H' _ hi g1 hy fun y H4 r g2 => ⟨ys, g2 _ _ hD, ?_, ?_, ys ++ [y], ?_, ?_, upd_same⟩
    · exact Nat.lt_of_lt_of_le (show ys.length < 1000000 by omega) (by decide)
    · intro b o e
      rw [upd_ne (ne_of_none e nD)]
      exact g2 _ _ (g1 _ _ e)
    · rw [List.length_append, List.length_singleton, hl]
    · intro k z e
      by_cases hk : k < ys.length
      · rw [List.getElem?_append_left hk] at e
        exact hR k z e
      · rw [List.getElem?_append_right (by omega)] at e
        have h0 : k - ys.length = 0 := by
          by_cases h : k - ys.length = 0
          · exact h
          · rw [List.getElem?_eq_none (by simp; omega)] at e
            cases e
        rw [h0] at e
        have h1 : y = z := by simpa using e
        have h2 : k = i := by omega
        rw [h2, ← h1]
        exact r
  · obtain ⟨g1, ys, hl, hR, hD⟩ := p
    exact hd H ys g1 hl hR hD
/-- the elements draw from the spring: each at most u times -/
theorem lc_draws {J : It} {n : Nat} {G : Hp → Prop} {Y : Nat → Hp → V → Hp → Prop} (w : Walk J n G Y) {te : TE} {j : Nat} {σ : L2.St} {H1 : Hp} {D : Addr} {Qd : Hp → Prop} {Z : List Addr} {st sl : Addr} {c u : Nat} (nD : H1 D = none) (hn : n ≤ 1000000) (hs : Sk st sl c H1) (hl : Liv Z st sl H1)
    (R : Hp → V → Prop) (hR : ∀ H H' v, Same H H' → R H v → R H' v) (hG : ∀ H, Keep st sl H1 H → G H) (hY : ∀ i H x H', Y i H x H' → H' = H)
    (he : ∀ i x H c' Q, i < n → Keep st sl H1 H → Sk st sl c' H → Liv (D :: Z) st sl H → c' ≤ c + i * u → Y i H x H → (∀ y H4 c4, R (hid (D :: Z) H4) y → Keep st sl H H4 → Sk st sl c4 H4 → c4 ≤ c' + u → Q y H4) → te ((wipe σ [j]).set j (some x)) H Q)
    (hd : ∀ H ys c', Keep st sl H1 H → Sk st sl c' H → c' ≤ c + n * u → ys.length = n → (∀ y ∈ ys, R (hid (D :: Z) H) y) → H D = some (.lst ys) → Liv (D :: Z) st sl H → D ∉ Z → Qd H) :
    ∃ W : Nat → Nat → Hp → Prop, (∃ m, W 0 m (upd H1 D (.lst []))) ∧ ∀ i m H, W i m H →
      (J.stop i H ∧ Qd H) ∨ (J.go i H ∧ ∃ Nx : Hp → Prop, (∀ H', Nx H' → ∃ m', m' < m ∧ W (i + 1) m' H') ∧ ∀ x H', J.yld i H x H' → gName j x (wipe σ [j]) H' fun σ2 H2 => wipe σ2 [j] = wipe σ [j] ∧ tYes σ2 H2 fun b H3 =>
        if b = true then te σ2 H3 fun y H4 => ∃ acc, H4 D = some (.lst acc) ∧ acc.length < sizeLine ∧ Nx (upd H4 D (.lst (acc ++ [y]))) else Nx H3) := by
  have d1 := hs.nst nD
  have d2 := hs.nsl nD
  have d3 := hl.out nD
  refine lc_it w (fun i H => Keep st sl H1 H ∧ ∃ ys c', ys.length = i ∧ Sk st sl c' H ∧ c' ≤ c + i * u ∧ (∀ y ∈ ys, R (hid (D :: Z) H) y) ∧ H D = some (.lst ys) ∧ Liv (D :: Z) st sl H) ⟨.new nD, [], c, rfl, hs.new nD, by omega, fun y e => (nomatch e), upd_same, hl.cons⟩ (fun i H _ p => hG H p.1) ?_ fun H p => ?_
  · rintro i x H H' hi ⟨g1, ys, c', hl', s1, s2, hRs, hD, lv⟩ hy
    obtain rfl := hY i H x H' hy
    refine ⟨wipe1 _ _ _, ?_⟩
    unfold tYes
    dsimp only
    rw [if_pos rfl]
    refine he i x H' c' _ hi g1 s1 lv s2 hy fun y H4 c4 r g2 s4 hc4 => ⟨ys, g2 _ _ d1 d2 hD, ?_, ?_, ys ++ [y], c4, ?_, s4.upd d1 d2, ?_, ?_, upd_same, ?_⟩
    · exact Nat.lt_of_lt_of_le (show ys.length < 1000000 by omega) (by decide)
    · intro b o n1 n2 e
      rw [upd_ne (ne_of_none e nD)]
      exact g2 _ _ n1 n2 (g1 _ _ n1 n2 e)
    · rw [List.length_append, List.length_singleton, hl']
    · rw [Nat.succ_mul]; omega
    · intro z hz
      have gm : Same (hid (D :: Z) H4) (hid (D :: Z) (upd H4 D (.lst (ys ++ [y])))) := hid_upd (List.mem_cons_self ..)
      rcases List.mem_append.mp hz with e | e
      · exact hR _ _ z ((g2.hid lv.st lv.sl).trans gm) (hRs z e)
      · rw [List.mem_singleton.mp e]
        exact hR _ _ y gm r
    · exact (lv.keep g2 s4).upd
  · obtain ⟨g1, ys, c', hl', h1, h2, h3, hD, lv⟩ := p
    exact hd H ys c' g1 h1 h2 hl' h3 hD lv d3
theorem ys_map {α : Type} {g : α → V} {ds : List α} {ys : List V} (hl : ys.length = ds.length) (h : ∀ (i : Nat) (y : V), ys[i]? = some y → ∃ d, ds[i]? = some d ∧ y = g d) : ys = ds.map g := by
  apply List.ext_getElem?
  intro i
  cases hi : ys[i]? with
  | none =>
    have h1 : ys.length ≤ i := List.getElem?_eq_none_iff.mp hi
    rw [List.getElem?_eq_none]
    rw [List.length_map]
    omega
  | some y =>
    obtain ⟨d, h1, rfl⟩ := h i y hi
    rw [List.getElem?_map, h1]
    rfl
/-- a comprehension over a list or a tuple whose elements make new things at most -/
theorem tLc_row {K : PySem.W.Frag} {wi : TI} {te : TE} {j : Nat} {σ : L2.St} {H : Hp} {Q : VK} {zs : List V}
    (hw : ∀ R : It → Hp → Prop, (∀ p H1, Same H H1 → SqL K H1 p zs → R (Itl K p) H1) → (∀ p H1, Same H H1 → SqT K H1 p zs → R (Itt K p) H1) → wi σ H R) (hn : zs.length ≤ 1000000) (R : Nat → V → Prop)
    (he : ∀ i x H1 Q, zs[i]? = some x → Same H H1 → (∀ y H4, R i y → Same H1 H4 → Q y H4) → te ((wipe σ [j]).set j (some x)) H1 Q)
    (hd : ∀ D H' ys, Same H H' → ys.length = zs.length → (∀ i y, ys[i]? = some y → R i y) → H' D = some (.lst ys) → Q (.ref D) H') : tLc wi (gName j) tYes te [j] σ H Q := by
  refine hw _ (fun p H1 g q D nD => ?_) (fun p H1 g q D nD => ?_)
  · refine lc_pure (walk_list (xs := zs)) nD hn R (fun H2 g2 => g2.seq q) (fun _ _ _ _ y => y.1) (fun i x H2 Q2 hi g2 y k => he i x H2 Q2 y.2 (g.trans g2) k) fun H2 ys g2 hl hR hD => hd D H2 ys (g.trans g2) hl hR hD
  · refine lc_pure (walk_tup (xs := zs)) nD hn R (fun H2 g2 => sameT g2 q) (fun _ _ _ _ y => y.1) (fun i x H2 Q2 hi g2 y k => he i x H2 Q2 y.2 (g.trans g2) k) fun H2 ys g2 hl hR hD => hd D H2 ys (g.trans g2) hl hR hD
/-- .. over a text -/
theorem tLc_str {wi : TI} {te : TE} {j : Nat} {σ : L2.St} {H : Hp} {Q : VK} {z : Str} (hw : ∀ R : It → Hp → Prop, R (Its z) H → wi σ H R) (hn : z.length ≤ 1000000) (R : Nat → V → Prop)
    (he : ∀ i c H1 Q, z.cps.toList[i]? = some c → Same H H1 → (∀ y H4, R i y → Same H1 H4 → Q y H4) → te ((wipe σ [j]).set j (some (.str ⟨#[c]⟩))) H1 Q)
    (hd : ∀ D H' ys, Same H H' → ys.length = z.cps.toList.length → (∀ i y, ys[i]? = some y → R i y) → H' D = some (.lst ys) → Q (.ref D) H') : tLc wi (gName j) tYes te [j] σ H Q := by
  refine hw _ fun D nD => ?_
  refine lc_pure (walk_str (z := z)) nD hn R (fun _ _ => trivial) (fun _ _ _ _ y => y.1) (fun i x H2 Q2 hi g2 y k => ?_) fun H2 ys g2 hl hR hD => hd D H2 ys g2 (by simpa using hl) hR hD
  obtain ⟨_, c, hc, rfl⟩ := y
  exact he i c H2 Q2 (by simpa using hc) g2 k
/-- .. over a range -/
theorem tLc_range {wi : TI} {te : TE} {j : Nat} {σ : L2.St} {H : Hp} {Q : VK} {lo : Int} {n : Nat} (hw : ∀ R : It → Hp → Prop, R (Itr lo n) H → wi σ H R) (hn : n ≤ 1000000) (R : Nat → V → Prop)
    (he : ∀ i H1 Q, i < n → Same H H1 → (∀ y H4, R i y → Same H1 H4 → Q y H4) → te ((wipe σ [j]).set j (some (.int (lo + i)))) H1 Q)
    (hd : ∀ D H' ys, Same H H' → ys.length = n → (∀ i y, ys[i]? = some y → R i y) → H' D = some (.lst ys) → Q (.ref D) H') : tLc wi (gName j) tYes te [j] σ H Q := by
  refine hw _ fun D nD => ?_
  refine lc_pure (walk_range (lo := lo) (n := n)) nD hn R (fun _ _ => trivial) (fun _ _ _ _ y => y.1) (fun i x H2 Q2 hi g2 y k => ?_) fun H2 ys g2 hl hR hD => hd D H2 ys g2 hl hR hD
  obtain ⟨_, rfl⟩ := y
  exact he i H2 Q2 hi g2 k
/-- .. over a range, with draws -/
theorem tLc_draws {wi : TI} {te : TE} {j : Nat} {σ : L2.St} {H : Hp} {Q : VK} {lo : Int} {n : Nat} {Z : List Addr} {st sl : Addr} {c u : Nat} (hw : ∀ R : It → Hp → Prop, R (Itr lo n) H → wi σ H R) (hn : n ≤ 1000000) (hs : Sk st sl c H) (hl : Liv Z st sl H)
    (R : Hp → V → Prop) (hR : ∀ H H' v, Same H H' → R H v → R H' v)
    (he : ∀ D i H1 c' Q, i < n → Keep st sl H H1 → Sk st sl c' H1 → Liv (D :: Z) st sl H1 → c' ≤ c + i * u → (∀ y H4 c4, R (hid (D :: Z) H4) y → Keep st sl H1 H4 → Sk st sl c4 H4 → c4 ≤ c' + u → Q y H4) → te ((wipe σ [j]).set j (some (.int (lo + i)))) H1 Q)
    (hd : ∀ D H' ys c', Keep st sl H H' → Sk st sl c' H' → c' ≤ c + n * u → ys.length = n → (∀ y ∈ ys, R (hid (D :: Z) H') y) → H' D = some (.lst ys) → Liv (D :: Z) st sl H' → D ∉ Z → H D = none → Q (.ref D) H') : tLc wi (gName j) tYes te [j] σ H Q := by
  refine hw _ fun D nD => ?_
  refine lc_draws (walk_range (lo := lo) (n := n)) nD hn hs hl R hR (fun _ _ => trivial) (fun _ _ _ _ y => y.1) (fun i x H2 c' Q2 hi g2 s2 l2 hc y k => ?_) fun H2 ys c' g2 s2 hc hl hR hD l2 d => hd D H2 ys c' g2 s2 hc hl hR hD l2 d nD
  obtain ⟨_, rfl⟩ := y
  exact he D i H2 c' Q2 hi g2 s2 l2 hc k
/-- .. with a test, over a list -/
theorem tLc_filter {K : PySem.W.Frag} {wi : TI} {tt : TT} {te : TE} {j : Nat} {σ : L2.St} {H : Hp} {Q : VK} {zs : List V}
    (hw : ∀ R : It → Hp → Prop, (∀ p H1, Same H H1 → SqL K H1 p zs → R (Itl K p) H1) → wi σ H R) (hn : zs.length ≤ 1000000) (p : V → Bool) (f : V → V)
    (ht : ∀ x H1 Q, x ∈ zs → Same H H1 → (∀ H2, Same H1 H2 → Q (p x) H2) → tt ((wipe σ [j]).set j (some x)) H1 Q)
    (he : ∀ x H1 Q, x ∈ zs → p x = true → Same H H1 → (∀ H2, Same H1 H2 → Q (f x) H2) → te ((wipe σ [j]).set j (some x)) H1 Q)
    (hd : ∀ D H', Same H H' → H' D = some (.lst ((zs.filter p).map f)) → Q (.ref D) H') : tLc wi (gName j) tt te [j] σ H Q := by
  refine hw _ (fun a H1 g q D nD => ?_)
  refine lc_it (walk_list (xs := zs)) (fun i H2 => Same H1 H2 ∧ H2 D = some (.lst (((zs.take i).filter p).map f))) ⟨same_new nD _, upd_same⟩ (fun i H2 _ h => h.1.seq q) ?_ fun H2 h => hd D H2 (g.trans h.1) (by rw [h.2, List.take_length])
  rintro i x H2 H3 hi ⟨g2, hD⟩ ⟨rfl, hx⟩
  have hm := List.mem_of_getElem? hx
  refine ⟨wipe1 _ _ _, ht x H3 _ hm (g.trans g2) fun H4 g4 => ?_⟩
  have tk : zs.take (i + 1) = zs.take i ++ [x] := by rw [List.take_add_one, hx]; rfl
  have out : ∀ {o : HO} {H5 : Hp}, Same H1 H5 → Same H1 (upd H5 D o) := fun g b u e => by
    rw [upd_ne (ne_of_none e nD)]
    exact g _ _ e
  refine ite2 (fun hp => ?_) (fun hp => ?_)
  · refine he x H4 _ hm hp ((g.trans g2).trans g4) fun H5 g5 => ⟨_, g5 _ _ (g4 _ _ hD), ?_, out ((g2.trans g4).trans g5), ?_⟩
    · refine Nat.lt_of_lt_of_le (show _ < 1000001 from ?_) (by decide)
      rw [List.length_map]
      have := List.length_filter_le p (zs.take i)
      rw [List.length_take] at this
      omega
    · rw [upd_same, tk, List.filter_append, List.map_append]
      simp [hp]
  · refine ⟨g2.trans g4, ?_⟩
    rw [g4 _ _ hD, tk, List.filter_append, List.map_append]
    simp [hp]
/-! ### rows of data -/
abbrev Sq (K : PySem.W.Frag) (H : Hp) (a : Addr) (xs : List V) : Prop := SqL K H a xs ∨ SqT K H a xs
theorem Sq.mono {K : PySem.W.Frag} {H H' : Hp} {a : Addr} {xs : List V} (g : Same H H') (h : Sq K H a xs) : Sq K H' a xs := h.imp (fun q => g.seq q) (fun q => sameT g q)
theorem dp_seq {K : PySem.W.Frag} {H : Hp} {v : V} {d : PyData} (h : Dp K H v d) (e : isSeq d = true) : ∃ a xs ds, v = .ref a ∧ Sq K H a xs ∧ DpAll K H xs ds ∧ (d = .list ds ∨ d = .tuple ds) := by
  cases h with
  | lst q r => exact ⟨_, _, _, rfl, .inl q, r, .inl rfl⟩
  | tup q r => exact ⟨_, _, _, rfl, .inr q, r, .inr rfl⟩
  | _ => cases e
theorem dpa_len {K : PySem.W.Frag} {H : Hp} : ∀ {xs : List V} {ds : List PyData}, DpAll K H xs ds → xs.length = ds.length
  | _, _, .nil => rfl
  | _, _, .cons _ r => congrArg (· + 1) (dpa_len r)
theorem dpa_get {K : PySem.W.Frag} {H : Hp} : ∀ {xs : List V} {ds : List PyData} {i : Nat} {x : V}, DpAll K H xs ds → xs[i]? = some x → ∃ d, ds[i]? = some d ∧ Dp K H x d
  | _, _, _, _, .nil, e => by simp at e
  | _, _, 0, _, .cons h _, e => by
    simp at e
    subst e
    exact ⟨_, rfl, h⟩
  | _, _, i + 1, x, .cons _ r, e => by
    obtain ⟨d, h1, h2⟩ := dpa_get (i := i) (x := x) r (by simpa using e)
    exact ⟨d, by simpa using h1, h2⟩
theorem dpa_drop {K : PySem.W.Frag} {H : Hp} : ∀ {xs : List V} {ds : List PyData} (n : Nat), DpAll K H xs ds → DpAll K H (xs.drop n) (ds.drop n)
  | _, _, 0, r => r
  | _, _, _ + 1, .nil => .nil
  | _, _, n + 1, .cons _ r => dpa_drop n r
theorem dpa_app {K : PySem.W.Frag} {H : Hp} : ∀ {xs ys : List V} {ds es : List PyData}, DpAll K H xs ds → DpAll K H ys es → DpAll K H (xs ++ ys) (ds ++ es)
  | _, _, _, _, .nil, s => s
  | _, _, _, _, .cons h r, s => .cons h (dpa_app r s)
theorem dpa_of {K : PySem.W.Frag} {H : Hp} {C : PyData → Prop} : ∀ {xs : List V}, (∀ x ∈ xs, ∃ d, Dp K H x d ∧ C d) → ∃ ds, DpAll K H xs ds ∧ ∀ d ∈ ds, C d
  | [], _ => ⟨[], .nil, fun _ h => nomatch h⟩
  | x :: xs, h => by
    obtain ⟨d, h1, h2⟩ := h x (List.mem_cons_self ..)
    obtain ⟨ds, h3, h4⟩ := dpa_of fun y hy => h y (List.mem_cons_of_mem _ hy)
    refine ⟨d :: ds, .cons h1 h3, fun e he => ?_⟩
    rcases List.mem_cons.mp he with z | z
    · rw [z]; exact h2
    · exact h4 e z
theorem ix_data {K : PySem.W.Frag} {H : Hp} {a : Addr} {xs : List V} {i : Int} {v : V} {Q : VK} (h : Sq K H a xs) (e : atI xs i = some v) (q : Q v H) : rIx K (.ref a) (.int i) H Q :=
  h.elim (fun h => .inl ⟨a, xs, i, v, rfl, rfl, h, e, q⟩) fun h => .inr (.inl ⟨a, xs, i, v, rfl, rfl, h, e, q⟩)
theorem len_data {K : PySem.W.Frag} {H : Hp} {a : Addr} {xs : List V} (h : Sq K H a xs) : LenV K (.ref a) H xs.length := h.elim (fun h => .inl ⟨xs, h, rfl⟩) fun h => .inr ⟨xs, h, rfl⟩
theorem cut_from (xs : List V) (k : Nat) : cutV xs (some (k : Int)) none = xs.drop k := by
  unfold cutV
  rw [HT.sIx_none, HT.sIx_nat]
  by_cases h : k ≤ xs.length
  · rw [Nat.min_eq_left h, List.take_of_length_le (by rw [List.length_drop]; omega)]
  · rw [Nat.min_eq_right (by omega), List.drop_eq_nil_of_le (Nat.le_refl _), List.drop_eq_nil_of_le (by omega), List.take_nil]
/-- t[k:] of a row that is not empty, 0 < k: a new row -/
theorem slice_L {K : PySem.W.Frag} {H : Hp} {a : Addr} {xs : List V} {k : Nat} {Q : VK} (h : SqL K H a xs) (q : ∀ p H', Same H H' → SqL K H' p (xs.drop k) → Q (.ref p) H') :
    rSlL K (.ref a) (some (k : Int)) none H Q ∨ rSlA K (.ref a) (some (k : Int)) none H Q := by
  refine .inl ⟨a, xs, rfl, h, fun p hp => ?_⟩
  rw [cut_from]
  exact q p _ (same_new hp _) (SqL.of upd_same)
theorem slice_T {K : PySem.W.Frag} {H : Hp} {a : Addr} {xs : List V} {k : Nat} {Q : VK} (h : SqT K H a xs) (hx : xs ≠ []) (hk : 0 < k) (q : ∀ p H', Same H H' → SqT K H' p (xs.drop k) → Q (.ref p) H') :
    rSlL K (.ref a) (some (k : Int)) none H Q ∨ rSlA K (.ref a) (some (k : Int)) none H Q := by
  have hl : 0 < xs.length := List.length_pos_iff.mpr hx
  refine .inr ⟨a, xs, rfl, h, fun e => ?_, fun _ p hp => ?_⟩
  · have e1 := e.1
    rw [HT.sIx_nat] at e1
    omega
  · rw [cut_from]
    exact q p _ (same_new hp _) (SqT.of upd_same)
theorem cut_upto (xs : List V) (k : Nat) : cutV xs none (some (k : Int)) = xs.take k := by
  unfold cutV
  rw [HT.sIx_none, HT.sIx_nat, List.drop_zero, Nat.sub_zero]
  by_cases h : k ≤ xs.length
  · rw [Nat.min_eq_left h]
  · rw [Nat.min_eq_right (by omega), List.take_of_length_le (Nat.le_refl _), List.take_of_length_le (by omega)]
/-- t[:k] -/
theorem slice_upto {K : PySem.W.Frag} {H : Hp} {a : Addr} {xs : List V} {k : Nat} {Q : VK} (h : Sq K H a xs) (q : ∀ p H', Same H H' → Sq K H' p (xs.take k) → Q (.ref p) H') :
    rSlL K (.ref a) none (some (k : Int)) H Q ∨ rSlA K (.ref a) none (some (k : Int)) H Q := by
  rcases h with h | h
  · refine .inl ⟨a, xs, rfl, h, fun p hp => ?_⟩
    rw [cut_upto]
    exact q p _ (same_new hp _) (.inl (SqL.of upd_same))
  · refine .inr ⟨a, xs, rfl, h, fun e => ?_, fun _ p hp => ?_⟩
    · refine q a H (Same.refl _) (.inr ?_)
      have e2 := e.2
      rw [HT.sIx_nat] at e2
      rw [List.take_of_length_le (by omega)]
      exact h
    · rw [cut_upto]
      exact q p _ (same_new hp _) (.inr (SqT.of upd_same))
theorem dpa_take {K : PySem.W.Frag} {H : Hp} : ∀ {xs : List V} {ds : List PyData} (n : Nat), DpAll K H xs ds → DpAll K H (xs.take n) (ds.take n)
  | _, _, 0, _ => .nil
  | _, _, _ + 1, .nil => .nil
  | _, _, n + 1, .cons h r => .cons h (dpa_take n r)
theorem eq_close {K : PySem.W.Frag} {H : Hp} {v : V} {d : PyData} {n : Nat} {z : Str} {Q : VK} (h : Dp K H v d) (hk : ok n d) (hn : n ≤ 64) (hz : atom (.str z)) (q : Q (.bl (PyData.eqv d (.str z))) H) : rEqD K v (.str z) H Q :=
  ⟨d, .str z, h, .str z, ok_shaped hk hn, ok_shaped (n := 0) hz (by decide), q⟩
theorem dp_strs {K : PySem.W.Frag} {H : Hp} : ∀ l : List Str, DpAll K H (l.map V.str) (l.map PyData.str)
  | [] => .nil
  | x :: l => .cons (.str x) (dp_strs l)
theorem row_L {K : PySem.W.Frag} {H : Hp} {Z : List Addr} {p : Addr} {vs : List V} {ds : List PyData} (h : H p = some (.lst vs)) (hp : p ∉ Z) (hd : DpAll K (hid Z H) vs ds) : Dp K (hid Z H) (.ref p) (.list ds) :=
  .lst (SqL.of (by rw [hid_ne hp]; exact h)) hd
theorem row_T {K : PySem.W.Frag} {H : Hp} {Z : List Addr} {p : Addr} {vs : List V} {ds : List PyData} (h : H p = some (.tup vs)) (hp : p ∉ Z) (hd : DpAll K (hid Z H) vs ds) : Dp K (hid Z H) (.ref p) (.tuple ds) :=
  .tup (SqT.of (by rw [hid_ne hp]; exact h)) hd
theorem Keep.liv {Z : List Addr} {st sl p : Addr} {H H' : Hp} {o : HO} (k : Keep st sl H H') (n1 : p ≠ st) (n2 : p ≠ sl) (h : H p = some o) : H' p = some o := k _ _ n1 n2 h
theorem dpa_set {K : PySem.W.Frag} {H : Hp} {v : V} {d : PyData} (h : Dp K H v d) : ∀ {xs : List V} {ds : List PyData} (n : Nat), DpAll K H xs ds → DpAll K H (xs.set n v) (ds.set n d)
  | _, _, _, .nil => .nil
  | _, _, 0, .cons _ r => .cons h r
  | _, _, n + 1, .cons q r => .cons q (dpa_set h n r)
theorem hid_new {Z : List Addr} {H : Hp} {p : Addr} {o : HO} (hp : H p = none) : Same (hid Z H) (hid (p :: Z) (upd H p o)) := fun b u e => by
  obtain ⟨e1, e2⟩ := hid_some e
  have nb : b ≠ p := ne_of_none e1 hp
  rw [hid_ne (fun h => (List.mem_cons.mp h).elim nb e2), upd_ne nb]
  exact e1
theorem ixN_of {n : Nat} {i : Int} (h0 : 0 ≤ i) (h1 : i < n) : ixN n i = some i.toNat := by
  unfold ixN
  rw [if_pos h0, if_pos h1]
theorem call_reprR {X : Cx} {k : Nat} (hg : X.A.guards = some []) (h : Room k X.A) : CallR X (.builtin "repr") (fun xs H Q => ∃ (v : V) (d : PyData) (n : Nat), xs = [v] ∧ Dp X.K H v d ∧ ok n d ∧ n ≤ 64 ∧ d.shown.length ≤ sizeLine ∧ Q (.str d.shown) H) :=
  call_reprD hg (by have := h.un; omega)
/-! ### what a datum weighs: more than its text is long -/
mutual
def wt : PyData → Nat
  | .list ds => wtAll ds + 100
  | .tuple ds => wtAll ds + 100
  | _ => 100
def wtAll : List PyData → Nat
  | [] => 0
  | d :: r => (wt d + 2) + wtAll r
end
theorem wtAll_nil : wtAll [] = 0 := by simp only [wtAll]
theorem wtAll_cons (d : PyData) (r : List PyData) : wtAll (d :: r) = (wt d + 2) + wtAll r := by simp only [wtAll]
theorem wtAll_app : ∀ (ds es : List PyData), wtAll (ds ++ es) = wtAll ds + wtAll es
  | [], es => by rw [wtAll_nil]; simp
  | d :: r, es => by rw [List.cons_append, wtAll_cons, wtAll_cons, wtAll_app r es]; omega
theorem wtAll_le {b : Nat} : ∀ {ds : List PyData}, (∀ d ∈ ds, wt d ≤ b) → wtAll ds ≤ ds.length * (b + 2)
  | [], _ => by rw [wtAll_nil]; exact Nat.zero_le _
  | d :: r, h => by
    have h1 := h d (List.mem_cons_self ..)
    have h2 := wtAll_le (ds := r) fun e he => h e (List.mem_cons_of_mem _ he)
    rw [wtAll_cons, List.length_cons, Nat.succ_mul]
    omega
theorem wtAll_set {x d : PyData} {k : Nat} (h : wt x ≤ wt d + k) : ∀ {ds : List PyData} {j : Nat}, ds[j]? = some d → wtAll (ds.set j x) ≤ wtAll ds + k
  | [], _, e => by simp at e
  | d' :: r, 0, e => by
    simp at e
    subst e
    rw [List.set_cons_zero, wtAll_cons, wtAll_cons]
    omega
  | d' :: r, j + 1, e => by
    have := wtAll_set h (ds := r) (j := j) (by simpa using e)
    rw [List.set_cons_succ, wtAll_cons, wtAll_cons]
    omega
theorem wt_atom {d : PyData} (h : atom d) : wt d = 100 := by
  cases d <;> first | exact (show False from h).elim | simp only [wt]
theorem ok_wt : ∀ {n : Nat} {d : PyData}, ok n d → wt d ≤ bnd n
  | 0, d, h => Nat.le_of_eq (wt_atom h)
  | n + 1, .list ds, h => by
    have h1 := wtAll_le fun e he => ok_wt (h.2 e he)
    have h2 : ds.length * (bnd n + 2) ≤ 9 * (bnd n + 2) := Nat.mul_le_mul_right _ h.1
    simp only [wt, bnd]
    omega
  | n + 1, .tuple ds, h => by
    have h1 := wtAll_le fun e he => ok_wt (h.2 e he)
    have h2 : ds.length * (bnd n + 2) ≤ 9 * (bnd n + 2) := Nat.mul_le_mul_right _ h.1
    simp only [wt, bnd]
    omega
  | n + 1, .none, h => by rw [wt_atom (d := .none) h]; exact bnd_pos _
  | n + 1, .bool b, h => by rw [wt_atom (d := .bool b) h]; exact bnd_pos _
  | n + 1, .int b, h => by rw [wt_atom (d := .int b) h]; exact bnd_pos _
  | n + 1, .str b, h => by rw [wt_atom (d := .str b) h]; exact bnd_pos _
  | n + 1, .dict b, h => (show False from h).elim
theorem piled_wt : ∀ {ds : List PyData}, (∀ d ∈ ds, d.shown.length ≤ wt d) → piled (PyData.shownAll ds) ≤ wtAll ds
  | [], _ => by simp only [PyData.shownAll, wtAll]; exact Nat.le_refl _
  | d :: r, h => by
    have h1 := h d (List.mem_cons_self ..)
    have h2 := piled_wt (ds := r) fun e he => h e (List.mem_cons_of_mem _ he)
    simp only [PyData.shownAll, wtAll, piled_cons]
    omega
theorem shown_wt : ∀ {n : Nat} {d : PyData}, ok n d → d.shown.length ≤ wt d
  | 0, d, h => by rw [wt_atom h]; exact atom_shown h
  | n + 1, .list ds, h => by
    have h1 := piled_wt fun e he => shown_wt (h.2 e he)
    have h2 := listText_len (PyData.shownAll ds)
    simp only [PyData.shown, wt]
    omega
  | n + 1, .tuple ds, h => by
    have h1 := piled_wt fun e he => shown_wt (h.2 e he)
    have h2 := fmt_text (PyData.shownAll ds)
    simp only [PyData.shown, wt]
    omega
  | n + 1, .none, h => by rw [wt_atom (d := .none) h]; exact atom_shown h
  | n + 1, .bool b, h => by rw [wt_atom (d := .bool b) h]; exact atom_shown h
  | n + 1, .int b, h => by rw [wt_atom (d := .int b) h]; exact atom_shown h
  | n + 1, .str b, h => by rw [wt_atom (d := .str b) h]; exact atom_shown h
  | n + 1, .dict b, h => (show False from h).elim
end Rm

set_option Elab.async false
set_option linter.all false
set_option maxRecDepth 100000
set_option maxHeartbeats 4000000
namespace Rm
open PySem PySem.Spec PyProof.Rows L2
/-! ### the law's own def, called where no repr is under way -/
theorem law1 {P : Program} {w : World} {K : PySem.W.Frag} {mg : Str → Option Value} {base : Heap} {k : Nat} {nme x : Str} {st : Stmt} {N : List Str} {f : Addr} {fd : FuncData} {sp : Sp} (F : FunD K nme nme (defArgs st) (defBody st) (defScope st) [] [] f fd) (S : FnScope N [x] (defScope st))
    (body : ∀ (cdv : Value) (s : Shared) (H : Hp) (a : Addr) (Q : VK), Room k (callerA.deeper (envOfC nme (defScope st) s.heap.objs.size f cdv)) → sp [.ref a] H Q E0 →
      ∃ t, PSs (cxOf CX0 P w K mg base N nme (defScope st) f cdv callerA [] s H E0).nox (defBody st) t ∧ t { nx := fun _ H' => Q .non H', rt := Q } (start N [.ref a]) H)
    (s : Shared) (H : Hp) (a : Addr) (Q : VK) (hr : Room (k + 1) callerA) (en : Env0 P w K mg base callerA [] s H) (bd : BindsTo s fd ⟨[.ref a], []⟩ [(x, .ref a)]) (hs : sp [.ref a] H Q E0) :
    codeAny (model P w) callerA (.call (.ref f) ⟨[.ref a], []⟩) (CR CX0 [] P w H s Q E0) s := by
  obtain ⟨oc, od, dV, kV, doc, pm, an, cdv, ct, osl, rfl, look, code, _⟩ := F.ex
  have kin : K.In s.heap := en.mod.kin.keeps fun b o h => (en.bs b o h).1
  have nol : s.heap.NoLimit := en.mod.nolimit.keeps fun b o h => (en.bs b o h).1
  have kinds : ∀ y ∈ [x].zip [Value.ref a], (defScope st).names.lookup y.1 = some .local ∨ ((defScope st).names.lookup y.1 = some .cell ∧ ((cellsFrom (s.heap.objs.size + 1) (defScope st).names []).lookup y.1).isSome = true) := by
    rintro ⟨n, v⟩ hy
    cases S.par n (List.of_mem_zip hy).1 with
    | inl h => exact .inl h
    | inr h => exact .inr ⟨h, PySem.W.cellsFrom_some _ _ _ (.inl h)⟩
  refine codeAny_call_function hr.depth (kin _ _ look) rfl S.co S.gen rfl (PySem.W.codeRec_of kin code) (bd _ _ _ _ ?_)
  refine wpAny_newFunctionEnv_cells S.kind kinds fun env henv s1 inC => ?_
  subst henv
  refine ⟨nol.keeps inC.toInCall.keep, codeAny_func ?_⟩
  obtain ⟨t, pr, rd⟩ := body cdv s H a Q (hr.deeper _) hs
  have inv : L2.Inv (cxOf CX0 P w K mg base N nme (defScope st) f cdv callerA [] s H E0) [] (start N [.ref a]) H s1 := inv_start S hr.hd en rfl (.cons rfl .nil) inC
  refine wpAny_mono (pr.nox.run [] s1 (start N [.ref a]) H _ inv rd) (fun fl s' hfl => ?_) fun e s' he => he
  cases fl with
  | ret u =>
    obtain ⟨v, σ', H', J, rv, q⟩ := hfl
    exact ⟨v, H', J.os, J.bare, J.base, J.hok, rv, q⟩
  | next =>
    obtain ⟨σ', H', J, q⟩ := hfl
    exact ⟨V.non, H', J.os, J.bare, J.base, J.hok, rfl, q⟩
  | brk => exact hfl.elim fun _ h => h.elim fun _ h => False.elim h.2
  | cont => exact hfl.elim fun _ h => h.elim fun _ h => False.elim h.2
/-- .. at the heap that the top left, with the script in it -/
theorem law_run {P : Program} {w : World} {K : PySem.W.Frag} {mg mb : Str → Option Value} {k : Nat} {fa a : Addr} {fd : FuncData} {x : Str} {sp : Sp} {s : Shared} {us : List Value} {ns : List Int}
    (kin : K.In s.heap) (gl : s.heap.Ns mainGlobals mg) (bl : s.heap.Ns builtinsNs mb) (bb : ∀ y : Str, y ≠ "__name__" → mb y = bootBuiltins y) (nol : s.heap.NoLimit) (gens : s.gens = #[])
    (obj : s.heap.get? a = some { cls := .type "list", data := .seq us.toArray }) (iar : IntsAre us ns) (len : ns.length ≤ sizeLine) (hr : Room k callerA) (bd : ∀ (s : Shared) (u : Value), BindsTo s fd ⟨[u], []⟩ [(x, u)])
    (F : ∀ base : Heap, K.In base → base.Ns mainGlobals mg → ∀ (s : Shared) (H : Hp) (Q : VK), Env0 P w K mg base callerA [] s H → BindsTo s fd ⟨[.ref a], []⟩ [(x, .ref a)] → sp [.ref a] H Q E0 → codeAny (model P w) callerA (.call (.ref fa) ⟨[.ref a], []⟩) (CR CX0 [] P w H s Q E0) s)
    (hsp : ∀ H : Hp, SqL K H a (ns.map V.int) → sp [.ref a] H (fun v _ => v = .bl true) E0) :
    codeAny (model P w) callerA (.call (.ref fa) ⟨[.ref a], []⟩) (fun r s' => r = .ok (.ret (.bool true)) ∧ OldK s.heap s'.heap ∧ s'.os = s.os ∧ AllBare s'.gens) s := by
  have vals := vals_ints iar
  have main : ∀ H : Hp, (∀ b, H b = none ∨ (b = a ∧ K.lookup a = none ∧ ∃ o xs, H b = some (.frz o (.lst xs)))) → SqL K H a (ns.map V.int) → HOk P w H s.heap →
      codeAny (model P w) callerA (.call (.ref fa) ⟨[.ref a], []⟩) (fun r s' => r = .ok (.ret (.bool true)) ∧ OldK s.heap s'.heap ∧ s'.os = s.os ∧ AllBare s'.gens) s := by
    intro H only sq hok
    have keepB : ∀ {b : Addr} {o : Obj}, s.heap.get? b = some o → H b = none → (hidT s.heap H).get? b = some o := fun h n => hidT_get h n
    have nsB : ∀ {b : Addr} {m : Str → Option Value}, s.heap.Ns b m → (hidT s.heap H).Ns b m := by
      rintro b m ⟨o, es, ep, h, dat, r⟩
      refine ⟨o, es, ep, keepB h ?_, dat, r⟩
      rcases only b with z | ⟨rfl, _⟩
      · exact z
      · rw [obj] at h
        cases h
        exact nomatch (show Data.seq us.toArray _ = Data.dict es ep from dat)
    have kinB : K.In (hidT s.heap H) := fun b o h => keepB (kin b o h) (by
      rcases only b with z | ⟨rfl, z, _⟩
      · exact z
      · rw [z] at h
        cases h)
    have md : Mod K mg (hidT s.heap H) := ⟨kinB, nsB gl, ⟨mb, nsB bl, bb⟩, by
      obtain ⟨mc, h1, h2⟩ := nol
      exact ⟨mc, nsB h1, h2⟩⟩
    have en : Env0 P w K mg (hidT s.heap H) callerA [] s H := ⟨rfl, md, fun b o h => of_hidT h, Nat.le_of_eq (hidT_size _ _), trivial, fun b hb => absurd (show b ∈ ([] : List Addr) from hb) (by simp), hok, .of_eq gens⟩
    refine codeAny_mono (F _ kinB (nsB gl) s H _ en (bd s (.ref a)) (hsp H sq)) fun r s' h => ?_
    match r, h with
    | .error e, h => exact False.elim h
    | .ok .next, h => exact False.elim h
    | .ok .brk, h => exact False.elim h
    | .ok .cont, h => exact False.elim h
    | .ok (.ret u), h =>
      obtain ⟨v, H', os, bare, un, hok', rv, e⟩ := h
      have e' : v = .bl true := e
      subst e'
      obtain rfl : u = Value.bool true := rv
      refine ⟨rfl, OldK.of_keep fun b o hb => ?_, os, bare⟩
      rcases only b with z | ⟨_, _, ob, xs, z⟩
      · exact un.keep b o hb z (by intro y; exact absurd (show b ∈ ([] : List Addr) from y) (by simp)) (by simp)
      · have z2 := un.frzs b ob _ z
        have h1 := (hok b _ z).1
        have h2 := (hok' b _ z2).1
        rw [hb] at h1
        cases h1
        exact h2
  cases lk : K.lookup a with
  | some o =>
    have h := kin a o lk
    rw [obj] at h
    cases h
    refine main (fun _ => none) (fun _ => .inl rfl) (.inr ⟨_, us.toArray, _, lk, rfl, rfl, rfl, ?_, by simpa using vals⟩) fun b u z => nomatch z
    rw [List.size_toArray, iar.length]
    exact len
  | none =>
    have at1 : ∀ b, b = a → (fun b => if b = a then some (HO.frz { cls := .type "list", data := .seq us.toArray } (.lst (ns.map V.int))) else none : Hp) b = some (.frz { cls := .type "list", data := .seq us.toArray } (.lst (ns.map V.int))) := fun b h => if_pos h
    refine main (fun b => if b = a then some (.frz { cls := .type "list", data := .seq us.toArray } (.lst (ns.map V.int))) else none) (fun b => ?_) (.inl (.inr ⟨_, at1 a rfl⟩)) fun b u z => ?_
    · by_cases h : b = a
      · exact .inr ⟨h, lk, _, _, at1 b h⟩
      · exact .inl (if_neg h)
    · by_cases h : b = a
      · have z' := (at1 b h).symm.trans z
        cases z'
        subst h
        exact ⟨obj, by rw [List.length_map]; exact len, us, _, vals, obj⟩
      · have z' : (none : Option HO) = some u := (if_neg h).symm.trans z
        cases z'
theorem walk_law {l : PySem.W.OpenLaw} {n k : Nat} {q : Program} {loose : List Str} {XP : (Str → Option Value) → Heap → Prop} {YP : World → Heap → Prop} {d : DefRec} {x : Str}
    (hn : l.most = some n) (hn2 : n ≤ sizeLine) (hdf : d.params.defaults = []) (hr : Room k callerA)
    (F : ∀ (w : World) (mg : Str → Option Value) (fa : Addr) (h : Heap), YP w h → h.Ns mainGlobals mg → mg d.name = some (.ref fa) →
      ∃ (K : PySem.W.Frag) (fd : FuncData) (sp : Sp), K.In h ∧ (∀ (s : Shared) (u : Value), BindsTo s fd ⟨[u], []⟩ [(x, u)]) ∧
        (∀ (H : Hp) (a : Addr) (ns : List Int), ns.length ≤ n → SqL K H a (ns.map V.int) → sp [.ref a] H (fun v _ => v = .bl true) E0) ∧
        ∀ base : Heap, K.In base → base.Ns mainGlobals mg → ∀ (s : Shared) (H : Hp) (a : Addr) (Q : VK), Env0 l.prog w K mg base callerA [] s H → BindsTo s fd ⟨[.ref a], []⟩ [(x, .ref a)] → sp [.ref a] H Q E0 → codeAny (model l.prog w) callerA (.call (.ref fa) ⟨[.ref a], []⟩) (CR CX0 [] l.prog w H s Q E0) s) :
    PySem.W.WalkO q loose XP YP l.row.toRowW d [] (fun f vs => PySem.call f vs) := by
  refine Att.attach_call hn hdf fun w s0 s mg mb fa o pm cd doc a us ns G Y ho hd hcd hmg obj iar len gens => ?_
  obtain ⟨K, fd, sp, kin, bd, hsp, go⟩ := F w mg fa _ Y G.T.g hmg
  exact law_run kin G.T.g G.T.b G.T.builtins G.T.nolimit gens obj iar (Nat.le_trans len hn2) hr bd (fun base h1 h2 s H Q => go base h1 h2 s H a Q) fun H sq => hsp H a ns len sq
end Rm

set_option Elab.async false
set_option linter.all false
set_option maxRecDepth 100000
set_option maxHeartbeats 4000000
namespace Rm
open PySem PySem.Spec PyProof.Rows L2
/-! ### the mirror -/
def letters : Str := "abcdefghijklmnopqrstuvwxyz"
def resv : List Str := ["apply", "call", "case", "close", "drop", "dup", "else", "end", "function", "if", "lend", "let", "match", "mod", "move", "new", "own", "return"]
def nm (x : Str) : Bool := (decide (1 ≤ x.length) && decide (x.length ≤ 8) && !resv.contains x) && x.cps.toList.all fun c => decide (c ∈ letters.cps.toList)
def isNm : PyData → Bool
  | .str x => nm x
  | _ => false
def sml : PyData → Bool
  | .int i => decide (i.natAbs < 10 ^ 30)
  | _ => false
def isClose (d : PyData) : Bool := PyData.eqv d (.str "close")
def closeV (f : PyData → Bool) : List PyData → Bool
  | [] => false
  | e :: es => isNm e && es.all f
def rowV (f : PyData → Bool) : List PyData → Bool
  | [] => false
  | d :: r => decide (r.length ≤ 6) && if isClose d = true then closeV f r else isNm d && r.all f
def isV : Nat → PyData → Bool
  | n + 1, .list ds => rowV (isV n) ds
  | n + 1, .tuple ds => rowV (isV n) ds
  | _, d => sml d
theorem inV_str (x : Str) (l : List Str) : inV (.str x) (l.map V.str) = l.contains x := by
  unfold inV
  rw [List.any_map, List.contains_eq_any_beq]
  congr 1
  funext y
  show (y == x) = (x == y)
  exact Bool.beq_comm
theorem flat_strs (l : List Str) : (l.map V.str).all flatV = true := by
  rw [List.all_eq_true]
  intro v hv
  obtain ⟨x, _, rfl⟩ := List.mem_map.mp hv
  rfl
section
variable {X : Cx} {x : Str} {pos : Pos} {v : V}
theorem pe_g (h : ∃ u, X.mg x = some u ∧ RelV v u) (hg : Gl X x := by rfl) (hd : (x == ("__debug__" : Str)) = false := by decide) : PE X (.Name x pos) (tC v) := by
  obtain ⟨u, h1, h2⟩ := h
  exact pe_glob hg h1 h2 hd
end
section
variable {P : Program} {w : World} {K : PySem.W.Frag} {mg : Str → Option Value} {base : Heap}
/-- what a look at a datum promises -/
def spLook (K : PySem.W.Frag) (f : PyData → V) (C : PyData → Prop) : Sp := fun vs H Q _ => ∃ (v : V) (d : PyData), vs = [v] ∧ Dp K H v d ∧ C d ∧ ∀ H', Same H H' → Q (f d) H'
theorem look_len {f : PyData → V} {C : PyData → Prop} {vs : List V} {H : Hp} {Q : VK} {E : XK} (h : spLook K f C vs H Q E) : vs.length = 1 := by
  obtain ⟨v, d, rfl, _⟩ := h
  rfl
theorem isi_seq {H : Hp} {v : V} {d : PyData} {p : Addr} {Q : VK} (h : Dp K H v d) (hp : H p = none) (q : Q (.bl (isSeq d)) (upd H p (.tup [.ty "tuple", .ty "list"]))) : rIsiT K [v, .ref p] (upd H p (.tup [.ty "tuple", .ty "list"])) Q :=
  ⟨v, p, _, .type (tyN d), [.type "tuple", .type "list"], _, rfl, upd_same, .cons (.ty _) (.cons (.ty _) .nil), (Dp.mono (same_new hp _) h).tyx, kit_seq h.nodict, q⟩
theorem isi_one {H : Hp} {v : V} {d : PyData} {t : String} {Q : VK} (h : Dp K H v d) (ht : t = "int" ∨ t = "bool" ∨ t = "str" ∨ t = "tuple" ∨ t = "list") (q : Q (.bl (isT t d)) H) : rIsi K [v, .ty t] H Q :=
  ⟨v, .ty t, .type (tyN d), .type t, _, rfl, .ty _, h.tyx, kit_one h.nodict t ht, q⟩
end
end Rm

set_option Elab.async false
set_option linter.all false
set_option maxRecDepth 100000
set_option maxHeartbeats 4000000
namespace Rm
open PySem PySem.Spec PyProof.Rows L2
/-! ### values as data -/
def hdOk (hd : List Str) : Prop := (∃ t, hd = [t] ∧ nm t = true) ∨ ∃ f, hd = (["close", f] : List Str) ∧ nm f = true
def vrow (C : PyData → Prop) (ds : List PyData) : Prop := ∃ (hd : List Str) (es : List PyData), ds = hd.map PyData.str ++ es ∧ hdOk hd ∧ ds.length ≤ 7 ∧ ∀ e ∈ es, C e
def va : Nat → PyData → Prop
  | n + 1, .tuple ds => vrow (va n) ds
  | n + 1, .list ds => vrow (va n) ds
  | _, .int i => i.natAbs < 10 ^ 30
  | _, _ => False
def wordOf (f : PyData → Str) : PyData → Str
  | .str x => x
  | d => f d
def rowT (f : PyData → Str) (ds : List PyData) : Str := ("(" ++ Txt.join " " (ds.map (wordOf f))) ++ ")"
def txt : Nat → PyData → Str
  | n + 1, .tuple ds => rowT (txt n) ds
  | n + 1, .list ds => rowT (txt n) ds
  | _, .int i => Str.ofString (toString i)
  | _, _ => ""
/-! ### the words of a text -/
def tokOf (f : PyData → List Str) : PyData → List Str
  | .str x => [x]
  | d => f d
def toks : Nat → PyData → List Str
  | n + 1, .tuple ds => "(" :: (ds.flatMap (tokOf (toks n)) ++ ([")"] : List Str))
  | n + 1, .list ds => "(" :: (ds.flatMap (tokOf (toks n)) ++ ([")"] : List Str))
  | _, .int i => [Str.ofString (toString i)]
  | _, _ => []
abbrev tl (x : Str) : List Nat := x.cps.toList
/-- both replacements at once -/
def rp (c : Nat) : List Nat := if c = 40 then [40, 32] else if c = 41 then [32, 41] else [c]
theorem repl1 {c : Nat} {z : List Nat} : ∀ l : List Nat, PySem.StrLaws.replL [c] z l = l.flatMap fun d => if d = c then z else [d]
  | [] => PySem.StrLaws.replL_nil
  | d :: r => by
    by_cases h : d = c
    · rw [PySem.StrLaws.replL_hit (by simp) (by simp [h])]
      simp only [List.length_singleton, List.drop_succ_cons, List.drop_zero, List.flatMap_cons, if_pos h]
      rw [repl1 r]
    · rw [PySem.StrLaws.replL_miss (by simpa using h)]
      simp only [List.flatMap_cons, if_neg h]
      rw [repl1 r]
      rfl
theorem repl2 (l : List Nat) : PySem.StrLaws.replL [41] [32, 41] (PySem.StrLaws.replL [40] [40, 32] l) = l.flatMap rp := by
  rw [repl1, repl1, List.flatMap_assoc]
  congr 1
  funext d
  unfold rp
  by_cases h : d = 40
  · rw [if_pos h, if_pos h]; rfl
  · rw [if_neg h, if_neg h]
    simp
/-! ### a text's signs, replaced, are its words with spaces between them -/
theorem joinL_rp : ∀ ps : List (List Nat), (TL.joinL [32] ps).flatMap rp = TL.joinL [32] (ps.map fun p => p.flatMap rp)
  | [] => rfl
  | [p] => rfl
  | p :: q :: r => by
    show (p ++ ([32] ++ TL.joinL [32] (q :: r))).flatMap rp = p.flatMap rp ++ ([32] ++ TL.joinL [32] ((q :: r).map fun p => p.flatMap rp))
    rw [List.flatMap_append, List.flatMap_append, joinL_rp (q :: r)]
    rfl
theorem joinL_app : ∀ {ps qs : List (List Nat)}, ps ≠ [] → qs ≠ [] → TL.joinL [32] (ps ++ qs) = TL.joinL [32] ps ++ ([32] ++ TL.joinL [32] qs)
  | [], _, h, _ => absurd rfl h
  | [p], [], _, h => absurd rfl h
  | [p], q :: r, _, _ => rfl
  | p :: p2 :: r, qs, _, hq => by
    show p ++ ([32] ++ TL.joinL [32] ((p2 :: r) ++ qs)) = (p ++ ([32] ++ TL.joinL [32] (p2 :: r))) ++ ([32] ++ TL.joinL [32] qs)
    rw [joinL_app (by simp) hq]
    simp
theorem joinL_join : ∀ {tss : List (List (List Nat))}, (∀ ts ∈ tss, ts ≠ []) → TL.joinL [32] (tss.map (TL.joinL [32])) = TL.joinL [32] tss.flatten
  | [], _ => rfl
  | [ts], _ => by simp [TL.joinL]
  | ts :: us :: r, h => by
    have ih := joinL_join (tss := us :: r) fun z hz => h z (List.mem_cons_of_mem _ hz)
    have hu : (us :: r).flatten ≠ [] := by
      have := h us (by simp)
      simp [this]
    rw [List.flatten_cons, joinL_app (h ts (by simp)) hu, ← ih]
    rfl
theorem tl_ofS (l : List Nat) : tl ⟨l.toArray⟩ = l := rfl
theorem tl_app (a b : Str) : tl (a ++ b) = tl a ++ tl b := TL.tl_append a b
theorem tl_join (ws : List Str) : tl (Txt.join " " ws) = TL.joinL [32] (ws.map tl) := by
  rw [TL.join_eq]
  exact TL.tl_join " " ws
/-- signs that the replacements leave alone -/
def pln (l : List Nat) : Prop := ∀ c ∈ l, c ≠ 40 ∧ c ≠ 41 ∧ c ≠ 32
theorem rp_pln {l : List Nat} (h : pln l) : l.flatMap rp = l := by
  induction l with
  | nil => rfl
  | cons c r ih =>
    have h1 := h c (List.mem_cons_self ..)
    rw [List.flatMap_cons, ih fun d hd => h d (List.mem_cons_of_mem _ hd)]
    unfold rp
    rw [if_neg h1.1, if_neg h1.2.1]
    rfl
theorem row_toks {f : PyData → Str} {g : PyData → List Str} {ds : List PyData} (hne : ds ≠ []) (h : ∀ d ∈ ds, (tl (wordOf f d)).flatMap rp = TL.joinL [32] ((tokOf g d).map tl) ∧ tokOf g d ≠ []) :
    (tl (rowT f ds)).flatMap rp = TL.joinL [32] (((("(" : Str) :: (ds.flatMap (tokOf g) ++ ([")"] : List Str)))).map tl) := by
  have e1 : tl "(" = [40] := by decide +kernel
  have e2 : tl ")" = [41] := by decide +kernel
  have hin : (TL.joinL [32] ((ds.map (wordOf f)).map tl)).flatMap rp = TL.joinL [32] ((ds.flatMap (tokOf g)).map tl) := by
    rw [joinL_rp, List.map_map, List.map_map]
    have : (ds.map (((fun p => p.flatMap rp) ∘ tl) ∘ wordOf f)) = (ds.map fun d => (tokOf g d).map tl).map (TL.joinL [32]) := by
      rw [List.map_map]
      refine List.map_congr_left fun d hd => ?_
      exact (h d hd).1
    rw [this, joinL_join]
    · congr 1
      rw [List.map_flatMap, List.flatMap_def]
    · intro ts hts
      obtain ⟨d, hd, rfl⟩ := List.mem_map.mp hts
      intro z
      exact (h d hd).2 (List.map_eq_nil_iff.mp z)
  have hne2 : (ds.flatMap (tokOf g)).map tl ≠ [] := fun z => by
    obtain ⟨d, r, rfl⟩ := List.exists_cons_of_ne_nil hne
    have z1 := List.map_eq_nil_iff.mp z
    rw [List.flatMap_cons] at z1
    exact (h d (by simp)).2 (List.append_eq_nil_iff.mp z1).1
  unfold rowT
  rw [tl_app, tl_app, tl_join, e1, e2, List.flatMap_append, List.flatMap_append, hin, List.map_cons, e1, List.map_append]
  have h1 : TL.joinL [32] ([40] :: ((ds.flatMap (tokOf g)).map tl ++ [tl ")"])) = [40] ++ ([32] ++ TL.joinL [32] ((ds.flatMap (tokOf g)).map tl ++ [tl ")"])) := joinL_app (ps := [[40]]) (by simp) (by simp)
  rw [List.map_cons, List.map_nil, h1, joinL_app hne2 (by simp), e2]
  simp [rp, TL.joinL]
/-! ### the text of an integer -/
def sg (i : Int) : List Nat := if i < 0 then 45 :: TL.numL i.natAbs else TL.numL i.natAbs
theorem tl_ofS_app (a b : String) : tl (Str.ofString (a ++ b)) = tl (Str.ofString a) ++ tl (Str.ofString b) := by
  rw [Str.ofString_eq_toList, Str.ofString_eq_toList, Str.ofString_eq_toList]
  simp [tl]
theorem tl_int (i : Int) : tl (Str.ofString (toString i)) = sg i := by
  unfold sg
  by_cases h : i < 0
  · rw [if_pos h, PyProof.Rows.toString_neg h, tl_ofS_app]
    have e : (0 - i) = ((i.natAbs : Nat) : Int) := by omega
    rw [e]
    have e1 : tl (Str.ofString "-") = [45] := by decide +kernel
    rw [e1, show tl (Str.ofString (toString ((i.natAbs : Nat) : Int))) = TL.numL i.natAbs from TL.tl_num _]
    rfl
  · rw [if_neg h]
    have e : i = ((i.natAbs : Nat) : Int) := by omega
    rw [e]
    exact TL.tl_num _
theorem sg_pln (i : Int) : pln (sg i) := fun c hc => by
  have h : c = 45 ∨ c ∈ TL.numL i.natAbs := by
    unfold sg at hc
    split at hc
    · rcases List.mem_cons.mp hc with e | e
      · exact .inl e
      · exact .inr e
    · exact .inr hc
  rcases h with rfl | h
  · decide
  · have := TL.numL_digits _ c h
    omega
theorem sg_len {i : Int} (h : i.natAbs < 10 ^ 30) : (sg i).length ≤ 31 := by
  have h1 := TL.numL_len (by decide : 0 < 30) h
  unfold sg
  split <;> simp <;> omega
theorem sg_ne (i : Int) : sg i ≠ [] := by
  unfold sg
  split
  · simp
  · exact TL.numL_ne _
theorem int_len (x : Str) : x.length = (tl x).length := by simp [Str.length]
theorem int_back {i : Int} (h : i.natAbs < 10 ^ 30) : intText? (Str.ofString (toString i)) = some i := by
  have e := tl_int i
  have hl : (Str.ofString (toString i)).length ≤ 4300 := by
    rw [int_len, e]
    have := sg_len h
    omega
  by_cases h0 : i < 0
  · rw [sg, if_pos h0] at e
    rw [PySem.intText_neg e (TL.numL_digits _) (TL.numL_ne _) hl, TL.numL_val]
    congr 1
    omega
  · have e' : i = ((i.natAbs : Nat) : Int) := by omega
    have h2 : (TL.numL i.natAbs).length ≤ 4300 := Nat.le_trans (TL.numL_len (by decide : 0 < 30) h) (by decide)
    rw [e']
    exact TL.int_num h2
theorem numL_head : ∀ n : Nat, n ≠ 0 → ∃ c r, TL.numL n = c :: r ∧ c ≠ 48 := by
  intro n
  induction n using Nat.strongRecOn with
  | _ n ih =>
    intro h
    by_cases h10 : n < 10
    · exact ⟨48 + n, [], TL.numL_lt h10, by omega⟩
    · obtain ⟨c, r, e, hc⟩ := ih (n / 10) (by omega) (by omega)
      exact ⟨c, r ++ [48 + n % 10], by rw [TL.numL_step (by omega), e]; rfl, hc⟩
/-! ### is_written_integer -/
def digs : Str := "0123456789"
def dgt (x : Str) : Str := if (cutS x none (some 1) == ("-" : Str)) = true then cutS x (some 1) none else x
def wi (x : Str) : Bool := (decide (1 ≤ (dgt x).length) && decide ((dgt x).length ≤ 30) && (tl (dgt x)).all fun c => decide (c ∈ digs.cps.toList)) && (x == ("0" : Str) || !((tl (dgt x)).head? == some 48))
theorem cut1 (x : Str) : tl (cutS x none (some 1)) = (tl x).take 1 := by
  unfold cutS
  rw [HT.sIx_none, show HT.sIx x.length x.length (some 1) = min 1 x.length from HT.sIx_nat x.length x.length 1]
  show ((tl x).drop 0).take (min 1 x.length - 0) = _
  rw [List.drop_zero, Nat.sub_zero, int_len]
  cases tl x with
  | nil => rfl
  | cons c r => rw [List.length_cons, show min 1 (r.length + 1) = 1 by omega]
theorem cutR (x : Str) : tl (cutS x (some 1) none) = (tl x).drop 1 := by
  unfold cutS
  rw [HT.sIx_none, show HT.sIx x.length 0 (some 1) = min 1 x.length from HT.sIx_nat x.length 0 1]
  show ((tl x).drop (min 1 x.length)).take (x.length - min 1 x.length) = _
  rw [int_len]
  cases tl x with
  | nil => rfl
  | cons c r =>
    rw [List.length_cons, show min 1 (r.length + 1) = 1 by omega]
    simp
theorem beq_tl (x y : Str) : (x == y) = decide (tl x = tl y) := by
  rw [← PyProof.Rows.toList_beq]
  show ((tl x) == (tl y)) = _
  cases h : decide (tl x = tl y) with
  | true =>
    rw [of_decide_eq_true h]
    exact beq_self_eq_true _
  | false =>
    have := of_decide_eq_false h
    cases hb : (tl x == tl y) with
    | false => rfl
    | true => exact absurd (eq_of_beq hb) this
theorem tl_dgt (x : Str) : tl (dgt x) = if (tl x).take 1 = [45] then (tl x).drop 1 else tl x := by
  unfold dgt
  have e1 : tl ("-" : Str) = [45] := by decide +kernel
  rw [beq_tl, cut1, e1]
  by_cases h : (tl x).take 1 = [45]
  · rw [if_pos (decide_eq_true h), if_pos h, cutR]
  · rw [if_neg (by rw [decide_eq_false h]; exact Bool.false_ne_true), if_neg h]
theorem wi_int {i : Int} (h : i.natAbs < 10 ^ 30) : wi (Str.ofString (toString i)) = true := by
  have e := tl_int i
  have hd : tl (dgt (Str.ofString (toString i))) = TL.numL i.natAbs := by
    rw [tl_dgt, e]
    unfold sg
    split
    · rfl
    · have hne := TL.numL_ne i.natAbs
      have hdg := TL.numL_digits i.natAbs
      cases hl : TL.numL i.natAbs with
      | nil => exact absurd hl hne
      | cons c r =>
        rw [if_neg]
        simp
        have := hdg c (by rw [hl]; simp)
        omega
  have hdigs : ∀ c, 48 ≤ c → c ≤ 57 → c ∈ digs.cps.toList := by
    intro c h1 h2
    have : c = 48 ∨ c = 49 ∨ c = 50 ∨ c = 51 ∨ c = 52 ∨ c = 53 ∨ c = 54 ∨ c = 55 ∨ c = 56 ∨ c = 57 := by omega
    rcases this with rfl | rfl | rfl | rfl | rfl | rfl | rfl | rfl | rfl | rfl <;> decide +kernel
  unfold wi
  rw [int_len, hd, decide_eq_true (TL.numL_len (by decide : 0 < 30) h), decide_eq_true (show 1 ≤ (TL.numL i.natAbs).length from List.length_pos_iff.mpr (TL.numL_ne _))]
  have h1 : ((TL.numL i.natAbs).all fun c => decide (c ∈ digs.cps.toList)) = true := by
    rw [List.all_eq_true]
    intro c hc
    have := TL.numL_digits _ c hc
    exact decide_eq_true (hdigs c this.1 this.2)
  rw [h1, Bool.true_and, Bool.true_and, Bool.true_and]
  by_cases h0 : i = 0
  · subst h0
    have : (Str.ofString (toString (0 : Int)) == ("0" : Str)) = true := by decide +kernel
    rw [this, Bool.true_or]
  · obtain ⟨c, r, e1, hc⟩ := numL_head i.natAbs (by omega)
    rw [e1]
    simp [hc]
theorem wi_word {x : Str} (h : (tl x).all (fun c => decide (c ∈ letters.cps.toList)) = true) (hne : tl x ≠ []) : wi x = false := by
  obtain ⟨c, r, e⟩ := List.exists_cons_of_ne_nil hne
  have hc : c ∈ letters.cps.toList := by
    rw [e, List.all_cons] at h
    exact of_decide_eq_true (Bool.and_eq_true_iff.mp h).1
  have hcl : ∀ c ∈ letters.cps.toList, c ≠ 45 ∧ c ∉ digs.cps.toList := by decide +kernel
  have hd : tl (dgt x) = tl x := by
    rw [tl_dgt, if_neg]
    rw [e]
    simp [(hcl c hc).1]
  unfold wi
  have h1 : ((tl (dgt x)).all fun c => decide (c ∈ digs.cps.toList)) = false := by
    rw [hd, e, List.all_cons, decide_eq_false (hcl c hc).2, Bool.false_and]
  rw [h1, Bool.and_false, Bool.false_and]
/-! ### grouping words by brackets: a stack of rows, the top first -/
def intOf (x : Str) : Int := (intText? x).getD 0
def item (x : Str) : PyData := if wi x = true then .int (intOf x) else .str x
def gclose : List (List PyData) → Option (List (List PyData))
  | g :: h :: r => some ((h ++ [.tuple g]) :: r)
  | _ => none
def gput (w : Str) : List (List PyData) → Option (List (List PyData))
  | g :: r => some ((g ++ [item w]) :: r)
  | [] => none
def gst (st : List (List PyData)) (w : Str) : Option (List (List PyData)) := if w = "(" then some ([] :: st) else if w = ")" then gclose st else gput w st
def gfold : List Str → List (List PyData) → Option (List (List PyData))
  | [], st => some st
  | w :: r, st => (gst st w).bind (gfold r)
theorem gfold_app : ∀ (a b : List Str) (st : List (List PyData)), gfold (a ++ b) st = (gfold a st).bind (gfold b)
  | [], b, st => rfl
  | w :: a, b, st => by
    show (gst st w).bind (gfold (a ++ b)) = ((gst st w).bind (gfold a)).bind (gfold b)
    cases gst st w with
    | none => rfl
    | some st' => exact gfold_app a b st'
/-- a word that is no bracket -/
theorem gst_word {w : Str} (h1 : w ≠ "(") (h2 : w ≠ ")") (g : List PyData) (r : List (List PyData)) : gst (g :: r) w = some ((g ++ [item w]) :: r) := by
  unfold gst
  rw [if_neg h1, if_neg h2]
  rfl
def vt : Nat → PyData → Prop
  | n + 1, .tuple ds => vrow (vt n) ds
  | _, .int i => i.natAbs < 10 ^ 30
  | _, _ => False
theorem nm_facts {x : Str} (h : nm x = true) : (tl x).all (fun c => decide (c ∈ letters.cps.toList)) = true ∧ tl x ≠ [] ∧ x.length ≤ 8 := by
  unfold nm at h
  simp only [Bool.and_eq_true, decide_eq_true_eq] at h
  refine ⟨h.2, fun z => ?_, h.1.1.2⟩
  have := h.1.1.1
  rw [int_len, z] at this
  simp at this
theorem letters_pln {x : Str} (h : (tl x).all (fun c => decide (c ∈ letters.cps.toList)) = true) : pln (tl x) := fun c hc => by
  have h1 := of_decide_eq_true (List.all_eq_true.mp h c hc)
  have h2 : ∀ c ∈ letters.cps.toList, c ≠ 40 ∧ c ≠ 41 ∧ c ≠ 32 := by decide +kernel
  exact h2 c h1
/-- the words of heads: letters alone -/
theorem hd_words {hd : List Str} (h : hdOk hd) : ∀ w ∈ hd, (tl w).all (fun c => decide (c ∈ letters.cps.toList)) = true ∧ tl w ≠ [] ∧ w.length ≤ 8 := by
  have hcl : (tl "close").all (fun c => decide (c ∈ letters.cps.toList)) = true ∧ tl "close" ≠ [] ∧ ("close" : Str).length ≤ 8 := by
    refine ⟨by decide +kernel, by decide +kernel, by decide +kernel⟩
  rcases h with ⟨t, rfl, ht⟩ | ⟨f, rfl, hf⟩
  · intro w hw
    rw [List.mem_singleton.mp hw]
    exact nm_facts ht
  · intro w hw
    simp only [List.mem_cons, List.not_mem_nil, or_false] at hw
    rcases hw with rfl | rfl
    · exact hcl
    · exact nm_facts hf
theorem hd_ne {hd : List Str} (h : hdOk hd) : hd ≠ [] := by
  rcases h with ⟨t, rfl, ht⟩ | ⟨f, rfl, hf⟩ <;> simp
theorem word_ne {w : Str} (h : pln (tl w)) : w ≠ "(" ∧ w ≠ ")" := by
  have e1 : tl "(" = [40] := by decide +kernel
  have e2 : tl ")" = [41] := by decide +kernel
  constructor
  · rintro rfl
    exact (h 40 (by rw [e1]; simp)).1 rfl
  · rintro rfl
    exact (h 41 (by rw [e2]; simp)).2.1 rfl
theorem gfold_words : ∀ {hd : List Str} (_ : ∀ w ∈ hd, pln (tl w) ∧ wi w = false) (g : List PyData) (r : List (List PyData)), gfold hd (g :: r) = some ((g ++ hd.map PyData.str) :: r)
  | [], _, g, r => by simp [gfold]
  | w :: hd, h, g, r => by
    obtain ⟨h1, h2⟩ := h w (by simp)
    show (gst (g :: r) w).bind (gfold hd) = _
    rw [gst_word (word_ne h1).1 (word_ne h1).2]
    show gfold hd ((g ++ [item w]) :: r) = _
    rw [gfold_words (fun z hz => h z (List.mem_cons_of_mem _ hz)), item, if_neg (by rw [h2]; exact Bool.false_ne_true)]
    simp
theorem gfold_many {n : Nat} {es : List PyData} (h : ∀ e ∈ es, ∀ g r, gfold (tokOf (toks n) e) (g :: r) = some ((g ++ [e]) :: r)) : ∀ (g : List PyData) (r : List (List PyData)), gfold (es.flatMap (tokOf (toks n))) (g :: r) = some ((g ++ es) :: r) := by
  induction es with
  | nil => intro g r; simp [gfold]
  | cons e es ih =>
    intro g r
    rw [List.flatMap_cons, gfold_app, h e (by simp)]
    show gfold _ _ = _
    rw [ih fun z hz => h z (List.mem_cons_of_mem _ hz)]
    simp
theorem tokOf_str (g : PyData → List Str) (hd : List Str) : (hd.map PyData.str).flatMap (tokOf g) = hd := by
  induction hd with
  | nil => rfl
  | cons w r ih => rw [List.map_cons, List.flatMap_cons, ih]; rfl
theorem vt_nostr {n : Nat} {e : PyData} (h : vt n e) (g : PyData → List Str) : tokOf g e = g e := by
  cases e <;> first | rfl | (cases n <;> exact h.elim)
theorem vt_nostr' {n : Nat} {e : PyData} (h : vt n e) (g : PyData → Str) : wordOf g e = g e := by
  cases e <;> first | rfl | (cases n <;> exact h.elim)
theorem gfold_vt : ∀ {n : Nat} {d : PyData}, vt n d → ∀ g r, gfold (toks n d) (g :: r) = some ((g ++ [d]) :: r)
  | n, .int i, h, g, r => by
    have hi : i.natAbs < 10 ^ 30 := by cases n <;> exact h
    have ht : toks n (.int i) = [Str.ofString (toString i)] := by cases n <;> rfl
    rw [ht]
    have hp : pln (tl (Str.ofString (toString i))) := by rw [tl_int]; exact sg_pln i
    show (gst (g :: r) _).bind (gfold []) = _
    rw [gst_word (word_ne hp).1 (word_ne hp).2, item, if_pos (wi_int hi), intOf, int_back hi]
    rfl
  | n + 1, .tuple ds, h, g, r => by
    obtain ⟨hd, es, rfl, h1, h2, h3⟩ := h
    have hw := hd_words h1
    show (gst (g :: r) "(").bind (gfold _) = _
    have e0 : gst (g :: r) "(" = some ([] :: g :: r) := by unfold gst; rw [if_pos rfl]
    rw [e0]
    show gfold _ _ = _
    rw [List.flatMap_append, tokOf_str, List.append_assoc, gfold_app, gfold_words (fun w hw' => ⟨letters_pln (hw w hw').1, wi_word (hw w hw').1 (hw w hw').2.1⟩)]
    show gfold _ _ = _
    rw [gfold_app, gfold_many (fun e he g r => by rw [vt_nostr (h3 e he)]; exact gfold_vt (h3 e he) g r)]
    show (gst (([] ++ hd.map PyData.str ++ es) :: g :: r) ")").bind (gfold []) = _
    unfold gst
    rw [if_neg (by decide +kernel), if_pos rfl]
    simp [gfold, gclose]
  | 0, .tuple ds, h, _, _ => h.elim
  | 0, .list _, h, _, _ => h.elim
  | _ + 1, .list _, h, _, _ => h.elim
  | 0, .none, h, _, _ => h.elim
  | _ + 1, .none, h, _, _ => h.elim
  | 0, .bool _, h, _, _ => h.elim
  | _ + 1, .bool _, h, _, _ => h.elim
  | 0, .str _, h, _, _ => h.elim
  | _ + 1, .str _, h, _, _ => h.elim
  | 0, .dict _, h, _, _ => h.elim
  | _ + 1, .dict _, h, _, _ => h.elim
theorem toks_ne : ∀ {n : Nat} {d : PyData}, vt n d → toks n d ≠ []
  | n, .int i, h => by
    have ht : toks n (.int i) = [Str.ofString (toString i)] := by cases n <;> rfl
    rw [ht]; simp
  | n + 1, .tuple ds, h => by simp [toks]
  | 0, .tuple ds, h => h.elim
  | 0, .list _, h => h.elim
  | _ + 1, .list _, h => h.elim
  | 0, .none, h => h.elim
  | _ + 1, .none, h => h.elim
  | 0, .bool _, h => h.elim
  | _ + 1, .bool _, h => h.elim
  | 0, .str _, h => h.elim
  | _ + 1, .str _, h => h.elim
  | 0, .dict _, h => h.elim
  | _ + 1, .dict _, h => h.elim
theorem txt_toks : ∀ {n : Nat} {d : PyData}, vt n d → (tl (txt n d)).flatMap rp = TL.joinL [32] ((toks n d).map tl) ∧ ∀ w ∈ toks n d, 32 ∉ tl w
  | n, .int i, h => by
    have ht : toks n (.int i) = [Str.ofString (toString i)] := by cases n <;> rfl
    have hx : txt n (.int i) = Str.ofString (toString i) := by cases n <;> rfl
    rw [ht, hx]
    refine ⟨by rw [tl_int, rp_pln (sg_pln i), ← tl_int]; rfl, fun w hw => ?_⟩
    rw [List.mem_singleton.mp hw, tl_int]
    exact fun h => (sg_pln i 32 h).2.2 rfl
  | n + 1, .tuple ds, h => by
    obtain ⟨hd, es, rfl, h1, h2, h3⟩ := h
    have hw := hd_words h1
    have hne : hd.map PyData.str ++ es ≠ [] := by simp [hd_ne h1]
    constructor
    · refine row_toks hne fun d hd' => ?_
      rcases List.mem_append.mp hd' with z | z
      · obtain ⟨w, hw', rfl⟩ := List.mem_map.mp z
        refine ⟨?_, by simp [tokOf]⟩
        show (tl w).flatMap rp = TL.joinL [32] [tl w]
        rw [rp_pln (letters_pln (hw w hw').1)]
        rfl
      · rw [vt_nostr (h3 d z), vt_nostr' (h3 d z)]
        exact ⟨(txt_toks (h3 d z)).1, toks_ne (h3 d z)⟩
    · intro w hw'
      have e1 : tl "(" = [40] := by decide +kernel
      have e2 : tl ")" = [41] := by decide +kernel
      rcases List.mem_cons.mp hw' with rfl | z
      · rw [e1]; simp
      · rcases List.mem_append.mp z with z | z
        · obtain ⟨d, hd', hz⟩ := List.mem_flatMap.mp z
          rcases List.mem_append.mp hd' with y | y
          · obtain ⟨v, hv, rfl⟩ := List.mem_map.mp y
            rw [show w = v by simpa [tokOf] using hz]
            exact fun h => (letters_pln (hw v hv).1 32 h).2.2 rfl
          · rw [vt_nostr (h3 d y)] at hz
            exact (txt_toks (h3 d y)).2 w hz
        · rw [List.mem_singleton.mp z, e2]; simp
  | 0, .tuple ds, h => h.elim
  | 0, .list _, h => h.elim
  | _ + 1, .list _, h => h.elim
  | 0, .none, h => h.elim
  | _ + 1, .none, h => h.elim
  | 0, .bool _, h => h.elim
  | _ + 1, .bool _, h => h.elim
  | 0, .str _, h => h.elim
  | _ + 1, .str _, h => h.elim
  | 0, .dict _, h => h.elim
  | _ + 1, .dict _, h => h.elim
/-- the words that read_value makes of a text -/
def wordsOf (x : Str) : List Str := Txt.split (Txt.replace (Txt.replace x "(" "( ") ")" " )") " "
theorem words_txt {n : Nat} {d : PyData} (h : vt n d) : wordsOf (txt n d) = toks n d := by
  obtain ⟨h1, h2⟩ := txt_toks h
  have e : tl (Txt.replace (Txt.replace (txt n d) "(" "( ") ")" " )") = TL.joinL [32] ((toks n d).map tl) := by
    rw [show tl (Txt.replace (Txt.replace (txt n d) "(" "( ") ")" " )") = _ from PySem.StrLaws.replace_list (by decide +kernel), show (Txt.replace (txt n d) "(" "( ").cps.toList = _ from PySem.StrLaws.replace_list (by decide +kernel), ← h1, ← repl2]
    have a1 : ("(" : Str).cps.toList = [40] := by decide +kernel
    have a2 : (")" : Str).cps.toList = [41] := by decide +kernel
    have a3 : ("( " : Str).cps.toList = [40, 32] := by decide +kernel
    have a4 : (" )" : Str).cps.toList = [32, 41] := by decide +kernel
    rw [a1, a2, a3, a4]
  have e2 : Txt.replace (Txt.replace (txt n d) "(" "( ") ")" " )" = SX.S (TL.joinL [32] ((toks n d).map tl)) := by rw [← e]
  have e3 : (" " : Str) = SX.S [32] := by decide +kernel
  unfold wordsOf
  rw [e2, e3, SX.split_S (by simp) (by decide), SX.spl_join (by simpa using toks_ne h) (fun p hp => by
    obtain ⟨w, hw, rfl⟩ := List.mem_map.mp hp
    exact h2 w hw), List.map_map]
  exact List.map_id'' (fun w => SX.S_tl w) _
end Rm

set_option Elab.async false
set_option linter.all false
set_option maxRecDepth 100000
set_option maxHeartbeats 4000000
namespace Rm
open PySem PySem.Spec PyProof.Rows L2
def topS (i : Nat) : Stmt := PySem.Challenge.pw_refmodes_k04_texts_of_values.main.body.getD i (.Pass ⟨0, 0, 0, 0⟩)
abbrev f_frozen_s : Stmt := topS 6
abbrev f_frozen_N : List Str := ["thing", "part"]
abbrev f_frozen_P : List Str := ["thing"]
theorem f_frozen_sc : FnScope f_frozen_N f_frozen_P (defScope f_frozen_s) := ⟨rfl, rfl, rfl, by decide +kernel, rfl, by decide +kernel, by decide +kernel⟩
abbrev f_is_row_s : Stmt := topS 7
abbrev f_is_row_N : List Str := ["thing"]
abbrev f_is_row_P : List Str := ["thing"]
theorem f_is_row_sc : FnScope f_is_row_N f_is_row_P (defScope f_is_row_s) := ⟨rfl, rfl, rfl, by decide +kernel, rfl, by decide +kernel, by decide +kernel⟩
abbrev f_is_integer_s : Stmt := topS 8
abbrev f_is_integer_N : List Str := ["thing"]
abbrev f_is_integer_P : List Str := ["thing"]
theorem f_is_integer_sc : FnScope f_is_integer_N f_is_integer_P (defScope f_is_integer_s) := ⟨rfl, rfl, rfl, by decide +kernel, rfl, by decide +kernel, by decide +kernel⟩
abbrev f_is_small_s : Stmt := topS 9
abbrev f_is_small_N : List Str := ["thing"]
abbrev f_is_small_P : List Str := ["thing"]
theorem f_is_small_sc : FnScope f_is_small_N f_is_small_P (defScope f_is_small_s) := ⟨rfl, rfl, rfl, by decide +kernel, rfl, by decide +kernel, by decide +kernel⟩
abbrev f_is_name_s : Stmt := topS 10
abbrev f_is_name_N : List Str := ["thing", "letter"]
abbrev f_is_name_P : List Str := ["thing"]
theorem f_is_name_sc : FnScope f_is_name_N f_is_name_P (defScope f_is_name_s) := ⟨rfl, rfl, rfl, by decide +kernel, rfl, by decide +kernel, by decide +kernel⟩
abbrev f_is_written_integer_s : Stmt := topS 11
abbrev f_is_written_integer_N : List Str := ["word", "digits", "digit"]
abbrev f_is_written_integer_P : List Str := ["word"]
theorem f_is_written_integer_sc : FnScope f_is_written_integer_N f_is_written_integer_P (defScope f_is_written_integer_s) := ⟨rfl, rfl, rfl, by decide +kernel, rfl, by decide +kernel, by decide +kernel⟩
abbrev f_head_of_s : Stmt := topS 17
abbrev f_head_of_N : List Str := ["value"]
abbrev f_head_of_P : List Str := ["value"]
theorem f_head_of_sc : FnScope f_head_of_N f_head_of_P (defScope f_head_of_s) := ⟨rfl, rfl, rfl, by decide +kernel, rfl, by decide +kernel, by decide +kernel⟩
abbrev f_parts_of_s : Stmt := topS 18
abbrev f_parts_of_N : List Str := ["value"]
abbrev f_parts_of_P : List Str := ["value"]
theorem f_parts_of_sc : FnScope f_parts_of_N f_parts_of_P (defScope f_parts_of_s) := ⟨rfl, rfl, rfl, by decide +kernel, rfl, by decide +kernel, by decide +kernel⟩
abbrev f_is_value_s : Stmt := topS 19
abbrev f_is_value_N : List Str := ["thing", "part"]
abbrev f_is_value_P : List Str := ["thing"]
theorem f_is_value_sc : FnScope f_is_value_N f_is_value_P (defScope f_is_value_s) := ⟨rfl, rfl, rfl, by decide +kernel, rfl, by decide +kernel, by decide +kernel⟩
abbrev f_cells_of_s : Stmt := topS 20
abbrev f_cells_of_N : List Str := ["value", "part"]
abbrev f_cells_of_P : List Str := ["value"]
theorem f_cells_of_sc : FnScope f_cells_of_N f_cells_of_P (defScope f_cells_of_s) := ⟨rfl, rfl, rfl, by decide +kernel, rfl, by decide +kernel, by decide +kernel⟩
abbrev f_value_text_s : Stmt := topS 21
abbrev f_value_text_N : List Str := ["value", "part"]
abbrev f_value_text_P : List Str := ["value"]
theorem f_value_text_sc : FnScope f_value_text_N f_value_text_P (defScope f_value_text_s) := ⟨rfl, rfl, rfl, by decide +kernel, rfl, by decide +kernel, by decide +kernel⟩
abbrev f_grouped_s : Stmt := topS 22
abbrev f_grouped_N : List Str := ["words", "stack", "word", "group"]
abbrev f_grouped_P : List Str := ["words"]
theorem f_grouped_sc : FnScope f_grouped_N f_grouped_P (defScope f_grouped_s) := ⟨rfl, rfl, rfl, by decide +kernel, rfl, by decide +kernel, by decide +kernel⟩
abbrev f_read_value_s : Stmt := topS 23
abbrev f_read_value_N : List Str := ["text", "found"]
abbrev f_read_value_P : List Str := ["text"]
theorem f_read_value_sc : FnScope f_read_value_N f_read_value_P (defScope f_read_value_s) := ⟨rfl, rfl, rfl, by decide +kernel, rfl, by decide +kernel, by decide +kernel⟩
abbrev f_law_draw_s : Stmt := topS 25
abbrev f_law_draw_N : List Str := ["_law_stream", "_law_many", "_law_digit", "_law_mixed"]
abbrev f_law_draw_P : List Str := ["_law_stream", "_law_many"]
theorem f_law_draw_sc : FnScope f_law_draw_N f_law_draw_P (defScope f_law_draw_s) := ⟨rfl, rfl, rfl, by decide +kernel, rfl, by decide +kernel, by decide +kernel⟩
abbrev f_law_start_s : Stmt := topS 26
abbrev f_law_start_N : List Str := ["_law_script"]
abbrev f_law_start_P : List Str := ["_law_script"]
theorem f_law_start_sc : FnScope f_law_start_N f_law_start_P (defScope f_law_start_s) := ⟨rfl, rfl, rfl, by decide +kernel, rfl, by decide +kernel, by decide +kernel⟩
abbrev f_law_pick_s : Stmt := topS 27
abbrev f_law_pick_N : List Str := ["_law_stream", "_law_some"]
abbrev f_law_pick_P : List Str := ["_law_stream", "_law_some"]
theorem f_law_pick_sc : FnScope f_law_pick_N f_law_pick_P (defScope f_law_pick_s) := ⟨rfl, rfl, rfl, by decide +kernel, rfl, by decide +kernel, by decide +kernel⟩
abbrev f_law_reserved_s : Stmt := topS 28
abbrev f_law_reserved_N : List Str := ["_law_some"]
abbrev f_law_reserved_P : List Str := []
theorem f_law_reserved_sc : FnScope f_law_reserved_N f_law_reserved_P (defScope f_law_reserved_s) := ⟨rfl, rfl, rfl, by decide +kernel, rfl, by decide +kernel, by decide +kernel⟩
abbrev f_law_fresh_s : Stmt := topS 29
abbrev f_law_fresh_N : List Str := ["_law_stream", "_law_taken", "_law_letters", "_law_size", "_law_name", "_law_k", "_law_spare", "_law_one", "_law_other"]
abbrev f_law_fresh_P : List Str := ["_law_stream", "_law_taken"]
theorem f_law_fresh_sc : FnScope f_law_fresh_N f_law_fresh_P (defScope f_law_fresh_s) := ⟨rfl, rfl, rfl, by decide +kernel, rfl, by decide +kernel, by decide +kernel⟩
abbrev f_law_number_s : Stmt := topS 30
abbrev f_law_number_N : List Str := ["_law_stream", "_law_way"]
abbrev f_law_number_P : List Str := ["_law_stream"]
theorem f_law_number_sc : FnScope f_law_number_N f_law_number_P (defScope f_law_number_s) := ⟨rfl, rfl, rfl, by decide +kernel, rfl, by decide +kernel, by decide +kernel⟩
abbrev f_law_same_s : Stmt := topS 31
abbrev f_law_same_N : List Str := ["_law_found", "_law_due", "_law_pairs", "_law_one", "_law_other"]
abbrev f_law_same_P : List Str := ["_law_found", "_law_due"]
theorem f_law_same_sc : FnScope f_law_same_N f_law_same_P (defScope f_law_same_s) := ⟨rfl, rfl, rfl, by decide +kernel, rfl, by decide +kernel, by decide +kernel⟩
abbrev f_law_thing_s : Stmt := topS 32
abbrev f_law_thing_N : List Str := ["_law_stream", "_law_deep", "_law_way", "_law_size", "_law_head", "_law_k"]
abbrev f_law_thing_P : List Str := ["_law_stream", "_law_deep"]
theorem f_law_thing_sc : FnScope f_law_thing_N f_law_thing_P (defScope f_law_thing_s) := ⟨rfl, rfl, rfl, by decide +kernel, rfl, by decide +kernel, by decide +kernel⟩
abbrev f_law_text_s : Stmt := topS 33
abbrev f_law_text_N : List Str := ["_law_value", "_law_part"]
abbrev f_law_text_P : List Str := ["_law_value"]
theorem f_law_text_sc : FnScope f_law_text_N f_law_text_P (defScope f_law_text_s) := ⟨rfl, rfl, rfl, by decide +kernel, rfl, by decide +kernel, by decide +kernel⟩
abbrev f_law_cells_s : Stmt := topS 34
abbrev f_law_cells_N : List Str := ["_law_value", "_law_part"]
abbrev f_law_cells_P : List Str := ["_law_value"]
theorem f_law_cells_sc : FnScope f_law_cells_N f_law_cells_P (defScope f_law_cells_s) := ⟨rfl, rfl, rfl, by decide +kernel, rfl, by decide +kernel, by decide +kernel⟩
abbrev f_law_lists_s : Stmt := topS 35
abbrev f_law_lists_N : List Str := ["_law_value", "_law_part"]
abbrev f_law_lists_P : List Str := ["_law_value"]
theorem f_law_lists_sc : FnScope f_law_lists_N f_law_lists_P (defScope f_law_lists_s) := ⟨rfl, rfl, rfl, by decide +kernel, rfl, by decide +kernel, by decide +kernel⟩
abbrev f_law_s : Stmt := topS 36
abbrev f_law_N : List Str := ["_law_script", "_law_stream", "_law_things", "_law_k", "_law_chain", "_law_value", "_law_text_here", "_law_handed", "_law_deep", "_law_due"]
abbrev f_law_P : List Str := ["_law_script"]
theorem f_law_sc : FnScope f_law_N f_law_P (defScope f_law_s) := ⟨rfl, rfl, rfl, by decide +kernel, rfl, by decide +kernel, by decide +kernel⟩

structure Tx (K : PySem.W.Frag) (mg : Str → Option Value) : Prop where
  n_isinstance : mg "isinstance" = none
  n_tuple : mg "tuple" = none
  n_list : mg "list" = none
  n_int : mg "int" = none
  n_bool : mg "bool" = none
  n_str : mg "str" = none
  n_abs : mg "abs" = none
  n_len : mg "len" = none
  n_all : mg "all" = none
  n_range : mg "range" = none
  n_min : mg "min" = none
  n_sum : mg "sum" = none
  n_zip : mg "zip" = none
  gLONGEST_NAME : ∃ u, mg "LONGEST_NAME" = some u ∧ RelV (.int 8) u
  gMOST_WORDS : ∃ u, mg "MOST_WORDS" = some u ∧ RelV (.int 7) u
  gMOST_DIGITS : ∃ u, mg "MOST_DIGITS" = some u ∧ RelV (.int 30) u
  gLETTERS : ∃ u, mg "LETTERS" = some u ∧ RelV (.str letters) u
  gDIGITS : ∃ u, mg "DIGITS" = some u ∧ RelV (.str digs) u
  gRESERVED : ∃ a, mg "RESERVED" = some (.ref a) ∧ ∀ H, SqT K H a (resv.map V.str)
  frozen : Df K mg "frozen" f_frozen_s
  is_row : Df K mg "is_row" f_is_row_s
  is_integer : Df K mg "is_integer" f_is_integer_s
  is_small : Df K mg "is_small" f_is_small_s
  is_name : Df K mg "is_name" f_is_name_s
  is_written_integer : Df K mg "is_written_integer" f_is_written_integer_s
  head_of : Df K mg "head_of" f_head_of_s
  parts_of : Df K mg "parts_of" f_parts_of_s
  is_value : Df K mg "is_value" f_is_value_s
  cells_of : Df K mg "cells_of" f_cells_of_s
  value_text : Df K mg "value_text" f_value_text_s
  grouped : Df K mg "grouped" f_grouped_s
  read_value : Df K mg "read_value" f_read_value_s
  draw : Df K mg "_law_draw" f_law_draw_s
  lstart : Df K mg "_law_start" f_law_start_s
  pick : Df K mg "_law_pick" f_law_pick_s
  reserved : Df K mg "_law_reserved" f_law_reserved_s
  fresh : Df K mg "_law_fresh" f_law_fresh_s
  number : Df K mg "_law_number" f_law_number_s
  same : Df K mg "_law_same" f_law_same_s
  thing : Df K mg "_law_thing" f_law_thing_s
  text : Df K mg "_law_text" f_law_text_s
  cells : Df K mg "_law_cells" f_law_cells_s
  lists : Df K mg "_law_lists" f_law_lists_s
  law : Df K mg "law" f_law_s

end Rm

set_option Elab.async false
set_option linter.all false
set_option maxRecDepth 100000
set_option maxHeartbeats 4000000
namespace Rm
open PySem PySem.Spec PyProof.Rows L2
section
variable {P : Program} {w : World} {K : PySem.W.Frag} {mg : Str → Option Value} {base : Heap}
theorem cal_is_row (T : Tx K mg) : Cal P w K mg base 1 "is_row" (spLook K (fun d => .bl (isSeq d)) fun _ => True) := by
  refine T.is_row.cal f_is_row_sc (fun _ _ _ _ _ _ us hl => match us, hl with | [_], _ => rfl) (fun vs H Q E h => look_len h) (fun f cdv A outer s H vs Q E hr h => ?_)
  obtain ⟨v, d, rfl, hd, _, q⟩ := h
  refine ⟨_, (pss_one (ps_ret (pe_callB call_isiT rfl T.n_isinstance (by decide +kernel) (pa_cons (pv 0) (pa_cons (pe_tup (pa_cons (pe_bltn (v := .ty "tuple") (u := .type "tuple") rfl T.n_tuple (by decide +kernel) rfl) (pa_cons (pe_bltn (v := .ty "list") (u := .type "list") rfl T.n_list (by decide +kernel) rfl) pa_nil))) pa_nil))))), ?_⟩
  rw [show L2.start f_is_row_N [v] = [some v] from rfl]
  simp only [cxOf, Cx.nox, tSeq, C8.tCut, tAsg, tRet, tRetN, tIfS, tTest, tB, tAnd, tOr, tNot, tAndV, tOrV, tNotV, tIf, tOp, tUn, tCB, tCall, tCons, tNil, tC, tTup, tLst, tChain, tPar, tDrop, tNext, tSl, tPart, tNoPart, tBM, tBM0, tM1, tM0, tAug, ipI, gName, gSub, tVar, wipe, rI0, rI, rU, List.cons_append, List.nil_append, List.append_nil, List.set_cons_zero, List.set_cons_succ, List.getElem?_cons_zero, List.getElem?_cons_succ, Option.some.injEq, V.int.injEq, V.bl.injEq, V.str.injEq, V.ref.injEq, exists_and_left, exists_eq_left, if_true, if_false, Bool.not_true, Bool.not_false, Bool.false_eq_true, List.map_cons, List.map_nil, List.cons.injEq, and_true, true_and, exists_eq_left']
  exact ⟨(by show 2 ≤ sizeLine; decide), fun p hp => isi_seq hd hp (q _ (same_new hp _))⟩
theorem cal_is_integer (T : Tx K mg) : Cal P w K mg base 1 "is_integer" (spLook K (fun d => .bl (tyN d == "int")) fun _ => True) := by
  refine T.is_integer.cal f_is_integer_sc (fun _ _ _ _ _ _ us hl => match us, hl with | [_], _ => rfl) (fun vs H Q E h => look_len h) (fun f cdv A outer s H vs Q E hr h => ?_)
  obtain ⟨v, d, rfl, hd, _, q⟩ := h
  refine ⟨_, (pss_one (ps_ret (pe_and (pe_callB call_isi rfl T.n_isinstance (by decide +kernel) (pa_cons (pv 0) (pa_cons (pe_bltn (v := .ty "int") (u := .type "int") rfl T.n_int (by decide +kernel) rfl) pa_nil))) (pe_one (pe_not (pe_callB call_isi rfl T.n_isinstance (by decide +kernel) (pa_cons (pv 0) (pa_cons (pe_bltn (v := .ty "bool") (u := .type "bool") rfl T.n_bool (by decide +kernel) rfl) pa_nil)))))))), ?_⟩
  rw [show L2.start f_is_integer_N [v] = [some v] from rfl]
  simp only [cxOf, Cx.nox, tSeq, C8.tCut, tAsg, tRet, tRetN, tIfS, tTest, tB, tAnd, tOr, tNot, tAndV, tOrV, tNotV, tIf, tOp, tUn, tCB, tCall, tCons, tNil, tC, tTup, tLst, tChain, tPar, tDrop, tNext, tSl, tPart, tNoPart, tBM, tBM0, tM1, tM0, tAug, ipI, gName, gSub, tVar, wipe, rI0, rI, rU, List.cons_append, List.nil_append, List.append_nil, List.set_cons_zero, List.set_cons_succ, List.getElem?_cons_zero, List.getElem?_cons_succ, Option.some.injEq, V.int.injEq, V.bl.injEq, V.str.injEq, V.ref.injEq, exists_and_left, exists_eq_left, if_true, if_false, Bool.not_true, Bool.not_false, Bool.false_eq_true, List.map_cons, List.map_nil, List.cons.injEq, and_true, true_and, exists_eq_left']
  refine isi_one hd (by simp) ⟨_, rfl, ?_⟩
  have z := q _ (Same.refl H)
  dsimp only at z
  refine ite2 (fun e => ?_) (fun e => ?_)
  · refine isi_one hd (by simp) ⟨_, rfl, ?_⟩
    have : (tyN d == "int") = !isT "bool" d := by
      rcases tyN_of hd.nodict with z | z | z | z | z | z <;> simp [isT, isTn, z] at e ⊢
    rw [← this]
    exact z
  · have : (tyN d == "int") = false := by
      rcases tyN_of hd.nodict with z | z | z | z | z | z <;> simp [isT, isTn, z] at e ⊢
    rw [← this]
    exact z
theorem cal_is_small (T : Tx K mg) : Cal P w K mg base 2 "is_small" (spLook K (fun d => .bl (sml d)) fun _ => True) := by
  refine T.is_small.cal f_is_small_sc (fun _ _ _ _ _ _ us hl => match us, hl with | [_], _ => rfl) (fun vs H Q E h => look_len h) (fun f cdv A outer s H vs Q E hr h => ?_)
  obtain ⟨v, d, rfl, hd, _, q⟩ := h
  refine ⟨_, (pss_one (ps_ret (pe_and (pe_c (cal_is_integer T) hr (by omega) rfl (pa_cons (pv 0) pa_nil)) (pe_one (pe_cmpR op_lt (pe_callB call_abs rfl T.n_abs (by decide +kernel) (pa_cons (pv 0) pa_nil)) (pe_op op_pow pe_int pe_int) (nomark _)))))), ?_⟩
  rw [show L2.start f_is_small_N [v] = [some v] from rfl]
  simp only [cxOf, Cx.nox, tSeq, C8.tCut, tAsg, tRet, tRetN, tIfS, tTest, tB, tAnd, tOr, tNot, tAndV, tOrV, tNotV, tIf, tOp, tUn, tCB, tCall, tCons, tNil, tC, tTup, tLst, tChain, tPar, tDrop, tNext, tSl, tPart, tNoPart, tBM, tBM0, tM1, tM0, tAug, ipI, gName, gSub, tVar, wipe, rI0, rI, rU, List.cons_append, List.nil_append, List.append_nil, List.set_cons_zero, List.set_cons_succ, List.getElem?_cons_zero, List.getElem?_cons_succ, Option.some.injEq, V.int.injEq, V.bl.injEq, V.str.injEq, V.ref.injEq, exists_and_left, exists_eq_left, if_true, if_false, Bool.not_true, Bool.not_false, Bool.false_eq_true, List.map_cons, List.map_nil, List.cons.injEq, and_true, true_and, exists_eq_left']
  refine ⟨v, d, rfl, hd, trivial, fun H' g => ⟨_, rfl, ?_⟩⟩
  have z := q _ g
  dsimp only at z
  refine ite2 (fun e => ?_) (fun e => ?_)
  · cases hd with
    | int i =>
      refine ⟨i, rfl, ⟨by decide, by decide, by decide⟩, ?_⟩
      have : sml (.int i) = decide ((if i < 0 then -i else i) < 10 ^ (30 : Int).toNat) := by
        show decide (i.natAbs < 10 ^ 30) = _
        have e : (10 : Int) ^ (30 : Int).toNat = 1000000000000000000000000000000 := by decide
        have e' : (10 : Nat) ^ 30 = 1000000000000000000000000000000 := by decide
        rw [e, e']
        split <;> (refine decide_eq_decide.mpr ?_; omega)
      rw [← this]
      exact z
    | _ => simp [tyN] at e
  · have : sml d = false := by
      cases d <;> first | rfl | simp [tyN] at e
    rw [← this]
    exact z
theorem cal_is_name (T : Tx K mg) : Cal P w K mg base 1 "is_name" (spLook K (fun d => .bl (isNm d)) fun d => ∃ n, ok n d) := by
  refine T.is_name.cal f_is_name_sc (fun _ _ _ _ _ _ us hl => match us, hl with | [_], _ => rfl) (fun vs H Q E h => look_len h) (fun f cdv A outer s H vs Q E hr h => ?_)
  obtain ⟨v, d, rfl, hd, ⟨n, hn⟩, q⟩ := h
  obtain ⟨a, hR, hS⟩ := T.gRESERVED
  refine ⟨_, (pss_cons (ps_if (PW.pt (pw_or (pt_not (pt_val (pe_callB call_isi rfl T.n_isinstance (by decide +kernel) (pa_cons (pv 0) (pa_cons (pe_bltn (v := .ty "str") (u := .type "str") rfl T.n_str (by decide +kernel) rfl) pa_nil))))) (pw_or (pt_not (pt_chain op_le op_le pe_int (pe_callB call_len_str rfl T.n_len (by decide +kernel) (pa_cons (pv 0) pa_nil)) (pe_g T.gLONGEST_NAME))) (pw_or1 (pt_cmpR op_in_seq (pv 0) (pe_g (v := .ref a) ⟨_, hR, rfl⟩) (by rfl)))))) (pss_one (ps_ret pe_bl)) pss_nil)
      (pss_one (ps_ret (pe_callB (cr_all rfl) rfl T.n_all (by decide +kernel) (pa_cons (pe_lc (own := [("letter", 1)]) (g := gName 1) (tt := tYes) rfl f_is_name_sc.nd (pi_str (pv 0)) (blkOk_by (own := [("letter", 1)]) (N := f_is_name_N) (sc := defScope f_is_name_s) (by decide +kernel)) (fun _ _ _ _ _ => (pg_name (i := 1) f_is_name_sc.nd rfl (Or.inl rfl))) (fun _ _ _ _ _ => pts_nil) (fun _ _ _ _ _ => (pe_cmpR op_in_sign (pv 1) (pe_g T.gLETTERS) (by rfl)))) pa_nil))))), ?_⟩
  rw [show L2.start f_is_name_N [v] = [some v, none] from rfl]
  simp only [cxOf, Cx.nox, tSeq, C8.tCut, tAsg, tRet, tRetN, tIfS, tTest, tB, tAnd, tOr, tNot, tAndV, tOrV, tNotV, tIf, tOp, tUn, tCB, tCall, tCons, tNil, tC, tTup, tLst, tChain, tPar, tDrop, tNext, tSl, tPart, tNoPart, tBM, tBM0, tM1, tM0, tAug, ipI, gName, gSub, tVar, wipe, rI0, rI, rU, List.cons_append, List.nil_append, List.append_nil, List.set_cons_zero, List.set_cons_succ, List.getElem?_cons_zero, List.getElem?_cons_succ, Option.some.injEq, V.int.injEq, V.bl.injEq, V.str.injEq, V.ref.injEq, exists_and_left, exists_eq_left, if_true, if_false, Bool.not_true, Bool.not_false, Bool.false_eq_true, List.map_cons, List.map_nil, List.cons.injEq, and_true, true_and, exists_eq_left']
  have z := q _ (Same.refl H)
  dsimp only at z
  refine isi_one hd (by simp) ⟨_, rfl, ?_⟩
  refine ite2 (fun e => ?_) (fun e => ?_)
  · have : isNm d = false := by
      cases d <;> first | rfl | simp [isT, isTn, tyN] at e
    rw [this] at z
    exact z
  · cases hd with
    | str x =>
      have hx : x.length ≤ 9 := by cases n <;> exact hn.1
      refine ⟨x, rfl, small (by omega), ?_⟩
      refine ite2 (fun h1 => ?_) (fun h1 => ?_)
      · have h1' : (1 : Int) ≤ x.length := of_decide_eq_true h1
        refine ite2 (fun h2 => ?_) (fun h2 => ?_)
        · have h2' : ¬ (x.length : Int) ≤ 8 := by simpa using h2
          have : isNm (.str x) = false := by
            show nm x = false
            unfold nm
            rw [decide_eq_false (p := x.length ≤ 8) (by omega), Bool.and_false, Bool.false_and, Bool.false_and]
          rw [this] at z
          exact z
        · have h2' : (x.length : Int) ≤ 8 := by simpa using h2
          have hz : isNm (.str x) = (!resv.contains x && x.cps.toList.all fun c => decide (c ∈ letters.cps.toList)) := by
            show nm x = _
            unfold nm
            rw [decide_eq_true (p := x.length ≤ 8) (by omega), decide_eq_true (p := 1 ≤ x.length) (by omega), Bool.true_and, Bool.true_and]
          rw [hz] at z
          refine ⟨a, _, rfl, .inr (hS _), rfl, flat_strs _, ?_⟩
          refine ⟨_, rfl, ite2 (fun h3 => ?_) (fun h3 => ?_)⟩
          · rw [if_neg Bool.false_ne_true, inV_str] at h3
            rw [h3] at z
            exact z
          · rw [if_neg Bool.false_ne_true, inV_str] at h3
            rw [Bool.eq_false_iff.mpr h3, Bool.not_false, Bool.true_and] at z
            unfold tLc
            refine ⟨_, rfl, x, rfl, fun D nD => lc_pure (walk_str (z := x)) nD (show x.cps.size ≤ 1000000 from (by have : x.cps.size = x.length := rfl; omega)) (fun i v => ∃ c, x.cps[i]? = some c ∧ v = .bl (decide (c ∈ letters.cps.toList))) (fun _ _ => trivial) (fun _ _ _ _ y => y.1) ?_ ?_⟩
            · rintro i y H2 Q2 hi g2 ⟨_, c, hc, rfl⟩ k
              simp only [cxOf, Cx.nox, tSeq, C8.tCut, tAsg, tRet, tRetN, tIfS, tTest, tB, tAnd, tOr, tNot, tAndV, tOrV, tNotV, tIf, tOp, tUn, tCB, tCall, tCons, tNil, tC, tTup, tLst, tChain, tPar, tDrop, tNext, tSl, tPart, tNoPart, tBM, tBM0, tM1, tM0, tAug, ipI, gName, gSub, tVar, wipe, rI0, rI, rU, List.cons_append, List.nil_append, List.append_nil, List.set_cons_zero, List.set_cons_succ, List.getElem?_cons_zero, List.getElem?_cons_succ, Option.some.injEq, V.int.injEq, V.bl.injEq, V.str.injEq, V.ref.injEq, exists_and_left, exists_eq_left, if_true, if_false, Bool.not_true, Bool.not_false, Bool.false_eq_true, List.map_cons, List.map_nil, List.cons.injEq, and_true, true_and, exists_eq_left']
              exact ⟨c, rfl, k _ _ ⟨c, hc, rfl⟩ (Same.refl _)⟩
            · intro H2 ys g2 hl hR hD
              have hys : ys = (x.cps.toList.map fun c => decide (c ∈ letters.cps.toList)).map V.bl := by
                apply List.ext_getElem?
                intro i
                cases hi : ys[i]? with
                | none =>
                  have h1 : ys.length ≤ i := List.getElem?_eq_none_iff.mp hi
                  rw [List.getElem?_eq_none]
                  simp
                  omega
                | some y =>
                  obtain ⟨c, hc, rfl⟩ := hR i y hi
                  have hc' : x.cps.toList[i]? = some c := by simpa using hc
                  rw [List.getElem?_map, List.getElem?_map, hc']
                  rfl
              refine ⟨D, _, rfl, SqL.of (hys ▸ hD), ?_⟩
              have z2 := q _ g2
              dsimp only at z2
              rw [hz, Bool.eq_false_iff.mpr h3, Bool.not_false, Bool.true_and] at z2
              have : (x.cps.toList.map fun c => decide (c ∈ letters.cps.toList)).all id = x.cps.toList.all fun c => decide (c ∈ letters.cps.toList) := by
                rw [List.all_map]
                rfl
              rw [this]
              exact z2
      · have h1' : ¬ (1 : Int) ≤ x.length := fun h => h1 (decide_eq_true h)
        have : isNm (.str x) = false := by
          show nm x = false
          unfold nm
          rw [decide_eq_false (p := 1 ≤ x.length) (by omega), Bool.false_and, Bool.false_and, Bool.false_and]
        rw [this] at z
        exact z
    | _ => simp [isT, isTn, tyN] at e
end
end Rm

set_option Elab.async false
set_option linter.all false
set_option maxRecDepth 100000
set_option maxHeartbeats 4000000
namespace Rm
open PySem PySem.Spec PyProof.Rows L2
section
variable {P : Program} {w : World} {K : PySem.W.Frag} {mg : Str → Option Value} {base : Heap}
theorem cal_law_draw (F : Df K mg "_law_draw" f_law_draw_s) : Cal P w K mg base 1 "_law_draw" spDraw := by
  refine F.cal f_law_draw_sc (fun _ _ _ _ _ _ us hl => match us, hl with | [_, _], _ => rfl) (fun vs H Q E h => ?_) (fun f cdv A outer s H vs Q E hr h => ?_)
  · obtain ⟨st, sl, c, n, rfl, _⟩ := h
    rfl
  obtain ⟨st, sl, c, n, rfl, hk, hc, hn0, hn1, q⟩ := h
  refine ⟨_, (pss_cons (ps_asg (pe_op op_add (pe_ix ix_list (pv 0) pe_int (fun _ _ => rfl)) pe_int) (pg_sub (pv 0) pe_int set_list))
      (C8.pss_cut (ps_if (PW.pt (pw_and (pt_cmpR op_eq (pe_ix ix_list (pv 0) pe_int (fun _ _ => rfl)) pe_int (nomark _)) (pw_and1 (pt_cmpR (op_neD hr.units) (pe_ix ix_list (pv 0) pe_int (fun _ _ => rfl)) (pe_lst pa_nil) (nomark _))))) (pss_cons (ps_asg (pe_bm PySem.F.plainAttrs_list PySem.F.slot_list_pop PySem.F.type_list_pop mt_popAt (pe_ix ix_list (pv 0) pe_int (fun _ _ => rfl)) (pa_cons pe_int pa_nil)) (pg_sub (pv 0) pe_int set_list))
      (pss_one (ps_if (pt_cmpR op_lt (pe_ix ix_list (pv 0) pe_int (fun _ _ => rfl)) (pe_op op_pow pe_int pe_int) (nomark _)) (pss_cons (ps_asg (pe_op op_mod (pe_op op_add (pe_op op_add (pe_op op_mul (pe_ix ix_list (pv 0) pe_int (fun _ _ => rfl)) pe_int) (pe_ix ix_list (pv 0) pe_int (fun _ _ => rfl))) pe_int) pe_int) (pg_sub (pv 0) pe_int set_list))
      (pss_one (ps_asg pe_int (pg_sub (pv 0) pe_int set_list)))) pss_nil))) pss_nil)
      (pss_cons (ps_if (pt_cmpR op_gt (pe_ix ix_list (pv 0) pe_int (fun _ _ => rfl)) pe_int (nomark _)) (pss_cons (ps_set (i := 2) f_law_draw_sc.nd rfl (Or.inl rfl) (pe_op op_mod (pe_ix ix_list (pv 0) pe_int (fun _ _ => rfl)) (pv 1)))
      (pss_cons (ps_asg (pe_op op_fdiv (pe_ix ix_list (pv 0) pe_int (fun _ _ => rfl)) (pv 1)) (pg_sub (pv 0) pe_int set_list))
      (pss_one (ps_ret (pv 2))))) pss_nil)
      (pss_cons (ps_set (i := 3) f_law_draw_sc.nd rfl (Or.inl rfl) (pe_op op_mod (pe_op op_pow (pe_op op_add (pe_op op_add (pe_ix ix_list (pv 0) pe_int (fun _ _ => rfl)) (pe_op op_mul pe_int (pe_ix ix_list (pv 0) pe_int (fun _ _ => rfl)))) pe_int) pe_int) pe_int))
      (pss_one (ps_ret (pe_op op_mod (pe_op op_mod (pe_op op_pow (pe_op op_add (pe_op op_add (pe_op op_mul (pv 3) pe_int) (pe_op op_mul (pe_op op_mul pe_int (pe_ix ix_list (pv 0) pe_int (fun _ _ => rfl))) (pe_ix ix_list (pv 0) pe_int (fun _ _ => rfl)))) pe_int) pe_int) pe_int) (pv 1)))))))), ?_⟩
  obtain ⟨ne, r, m, ns, e1, e2, r0, m0, m1, l63⟩ := hk
  have k1 : Keep st sl H (upd H st (.lst [.ref sl, .int r, .int (c + 1), .int m])) := .of fun b o h1 h2 e => by rw [upd_ne h1]; exact e
  have f1 : upd H st (.lst [.ref sl, .int r, .int (c + 1), .int m]) st = some (.lst [.ref sl, .int r, .int (c + 1), .int m]) := upd_same
  have f2 : upd H st (.lst [.ref sl, .int r, .int (c + 1), .int m]) sl = some (.lst (ns.map V.int)) := by rw [upd_ne ne.symm]; exact e2
  refine ⟨_, rfl, st, _, _, _, rfl, rfl, SqL.of e1, rfl, _, _, rfl, rfl, _, rfl, st, _, _, _, rfl, rfl, e1, rfl, ?_⟩
  show (C8.tCut _ _) _ _ (upd H st (.lst [.ref sl, .int r, .int (c + 1), .int m]))
  generalize upd H st (.lst [.ref sl, .int r, .int (c + 1), .int m]) = H1 at k1 f1 f2 ⊢
  -- the if: behind it the spring holds numbers within their bounds
  refine ⟨fun σ' H' => σ' = [some (.ref st), some (.int n), none, none] ∧ Keep st sl H H' ∧ ∃ (r m : Int) (ns : List Int), H' st = some (.lst [.ref sl, .int r, .int (c + 1), .int m]) ∧ H' sl = some (.lst (ns.map V.int)) ∧ 0 ≤ r ∧ 0 ≤ m ∧ m < 2147483647 ∧ ns.length ≤ 63, ?_, ?_⟩
  · have nx : ∀ H', Keep st sl H H' → H' st = some (.lst [.ref sl, .int r, .int (c + 1), .int m]) → H' sl = some (.lst (ns.map V.int)) → [some (.ref st), some (.int n), none, none] = [some (.ref st), some (.int n), (none : Option V), none] ∧ Keep st sl H H' ∧ ∃ (r m : Int) (ns : List Int), H' st = some (.lst [.ref sl, .int r, .int (c + 1), .int m]) ∧ H' sl = some (.lst (ns.map V.int)) ∧ 0 ≤ r ∧ 0 ≤ m ∧ m < 2147483647 ∧ ns.length ≤ 63 := fun H' a b d => ⟨rfl, a, r, m, ns, b, d, r0, m0, m1, l63⟩
    refine ⟨_, rfl, st, _, _, _, rfl, rfl, SqL.of f1, rfl, rfl, _, rfl, ite2 (fun e => ?_) (fun e => ?_)⟩
    · refine ⟨_, rfl, st, _, _, _, rfl, rfl, SqL.of f1, rfl, Nat.zero_le _, fun p hp => ?_⟩
      have g1 := same_new hp (.lst []) _ _ f1
      have g2 := same_new hp (.lst []) _ _ f2
      have kp := k1.trans (Keep.new (st := st) (sl := sl) (o := .lst []) hp)
      have g3 : upd H1 p (.lst []) p = some (.lst []) := upd_same
      generalize upd H1 p (.lst []) = H2 at g1 g2 g3 kp ⊢
      refine ⟨.list (ns.map PyData.int), .list [], .lst (SqL.of g2) (dp_ints ns), .lst (SqL.of g3) .nil, shaped_ints ns, shaped_ints [], _, rfl, ?_⟩
      rw [eqv_ints_nil]
      cases ns with
      | nil => exact iteF (nx _ kp g1 g2)
      | cons z zs =>
        refine iteT ?_
        have g4 : upd H2 sl (.lst (zs.map V.int)) st = some (.lst [.ref sl, .int r, .int (c + 1), .int m]) := by rw [upd_ne ne]; exact g1
        have g5 : upd H2 sl (.lst (zs.map V.int)) sl = some (.lst (zs.map V.int)) := upd_same
        have k2 : Keep st sl H (upd H2 sl (.lst (zs.map V.int))) := kp.trans (Keep.of fun b o _ h e => by rw [upd_ne h]; exact e)
        have g2' : H2 sl = some (.lst (V.int z :: zs.map V.int)) := g2
        refine ⟨_, rfl, st, _, _, _, rfl, rfl, SqL.of g1, rfl, .inl ⟨rfl, _, SqL.of g2⟩, sl, _, 0, 0, .int z, rfl, rfl, g2', by decide, by decide, (by rw [List.length_cons]; exact seqIx0 _), rfl, _, rfl, st, _, _, _, rfl, rfl, g4, rfl, ?_⟩
        dsimp only
        refine (?_ : tIfS _ _ _ _ _ (upd (upd H2 sl (.lst (zs.map V.int))) st (.lst [.ref sl, .int z, .int (c + 1), .int m])))
        generalize upd H2 sl (.lst (zs.map V.int)) = H3 at g4 g5 k2 ⊢
        have g6 : upd H3 st (.lst [.ref sl, .int z, .int (c + 1), .int m]) st = some (.lst [.ref sl, .int z, .int (c + 1), .int m]) := upd_same
        have g7 : upd H3 st (.lst [.ref sl, .int z, .int (c + 1), .int m]) sl = some (.lst (zs.map V.int)) := by rw [upd_ne ne.symm]; exact g5
        have k3 : Keep st sl H (upd H3 st (.lst [.ref sl, .int z, .int (c + 1), .int m])) := k2.trans (Keep.of fun b o h _ e => by rw [upd_ne h]; exact e)
        generalize upd H3 st (.lst [.ref sl, .int z, .int (c + 1), .int m]) = H4 at g6 g7 k3 ⊢
        refine ⟨_, rfl, st, _, _, _, rfl, rfl, SqL.of g6, rfl, _, _, rfl, rfl, ⟨by decide, by decide, by decide⟩, _, _, rfl, rfl, _, rfl, ite2 (fun hz => ?_) (fun hz => ?_)⟩
        · refine ⟨_, rfl, st, _, _, _, rfl, rfl, SqL.of g6, rfl, _, _, rfl, rfl, .inr ⟨by decide, by decide⟩, _, rfl, st, _, _, _, rfl, rfl, SqL.of g6, rfl, _, _, rfl, rfl, _, _, rfl, rfl, _, _, rfl, rfl, (by show (0 : Int) < 2147483647; decide), _, rfl, st, _, _, _, rfl, rfl, g6, rfl, ?_⟩
          dsimp only
          show (tAsg _ _) _ _ (upd H4 st (.lst [.ref sl, .int z, .int (c + 1), .int ((m * 31 + z + 7) % 2147483647)]))
          have b1 : 0 ≤ (m * 31 + z + 7) % 2147483647 := Int.emod_nonneg _ (by decide)
          have b2 : (m * 31 + z + 7) % 2147483647 < 2147483647 := Int.emod_lt_of_pos _ (by decide)
          generalize (m * 31 + z + 7) % 2147483647 = m' at b1 b2 ⊢
          refine ⟨_, rfl, st, _, _, _, rfl, rfl, upd_same, rfl, ?_⟩
          refine ⟨rfl, k3.trans (Keep.of fun b o h _ e => ?_), 0, m', zs, upd_same, ?_, Int.le_refl _, b1, b2, Nat.le_of_succ_le l63⟩
          · rw [upd_ne h, upd_ne h]
            exact e
          · rw [upd_ne ne.symm, upd_ne ne.symm]
            exact g7
        · refine ⟨rfl, k3, z, m, zs, g6, g7, ?_, m0, m1, Nat.le_of_succ_le l63⟩
          have := of_decide_eq_false (Bool.eq_false_iff.mpr hz)
          have h18 : (0 : Int) ≤ 10 ^ 18 := by decide
          have h19 : ¬ z < (10 : Int) ^ 18 := this
          omega
    · exact nx _ k1 f1 f2
  · -- the answer
    rintro σ' H' ⟨rfl, k2, r', m', ns', g1, g2, r0', m0', m1', l63'⟩
    clear k1 f1 f2 e1 e2
    refine ⟨_, rfl, st, _, _, _, rfl, rfl, SqL.of g1, rfl, _, _, rfl, rfl, _, rfl, ite2 (fun hz => ?_) (fun hz => ?_)⟩
    · have hz' : 0 < r' := of_decide_eq_true hz
      refine ⟨_, rfl, st, _, _, _, rfl, rfl, SqL.of g1, rfl, _, rfl, _, _, rfl, rfl, hn0, ?_⟩
      refine ⟨_, rfl, st, _, _, _, rfl, rfl, SqL.of g1, rfl, _, rfl, _, _, rfl, rfl, ⟨hn0, hn1⟩, _, rfl, st, _, _, _, rfl, rfl, g1, rfl, ?_⟩
      refine ⟨_, rfl, q _ _ (Int.emod_nonneg _ (by omega)) (Int.emod_lt_of_pos _ hn0) ⟨ne, r' / n, m', ns', upd_same, ?_, Int.ediv_nonneg r0' (by omega), m0', m1', l63'⟩ (k2.trans (Keep.of fun b o h _ e => ?_))⟩
      · rw [upd_ne ne.symm]
        exact g2
      · rw [upd_ne h]
        exact e
    · refine ⟨_, rfl, st, _, _, _, rfl, rfl, SqL.of g1, rfl, _, rfl, st, _, _, _, rfl, rfl, SqL.of g1, rfl, _, _, rfl, rfl, .inl ⟨by decide, by decide⟩, _, _, rfl, rfl, _, _, rfl, rfl, _, _, rfl, rfl, ⟨by decide, by decide, ?_⟩, _, _, rfl, rfl, (by show (0 : Int) < 2147483629; decide), ?_⟩
      · show (m' + 104729 * ((c : Int) + 1) + 17).natAbs < 2 ^ 64
        omega
      have b1 : 0 ≤ ((m' + 104729 * ((c : Int) + 1) + 17) ^ (5 : Int).toNat) % 2147483629 := Int.emod_nonneg _ (by decide)
      have b2 : ((m' + 104729 * ((c : Int) + 1) + 17) ^ (5 : Int).toNat) % 2147483629 < 2147483629 := Int.emod_lt_of_pos _ (by decide)
      dsimp only [gName]
      show (tRet _) _ ([some (.ref st), some (.int n), none, some (.int (((m' + 104729 * ((c : Int) + 1) + 17) ^ (5 : Int).toNat) % 2147483629))]) H'
      generalize ((m' + 104729 * ((c : Int) + 1) + 17) ^ (5 : Int).toNat) % 2147483629 = x at b1 b2 ⊢
      refine ⟨_, rfl, _, _, rfl, rfl, .inr ⟨by decide, by decide⟩, _, rfl, st, _, _, _, rfl, rfl, SqL.of g1, rfl, _, _, rfl, rfl, .inl ⟨by decide, by decide⟩, _, rfl, st, _, _, _, rfl, rfl, SqL.of g1, rfl, _, _, rfl, rfl, .inr ?_, _, _, rfl, rfl, _, _, rfl, rfl, _, _, rfl, rfl, ⟨by decide, by decide, ?_⟩, _, _, rfl, rfl, (by show (0 : Int) < 1000000007; decide), _, rfl, _, _, rfl, rfl, hn0, ?_⟩
      · show (-(2 ^ 64) : Int) < (c : Int) + 1 ∧ (c : Int) + 1 < 2 ^ 64
        omega
      · show (x * 48271 + 40503 * ((c : Int) + 1) * ((c : Int) + 1) + 13).natAbs < 2 ^ 64
        have h1 : 0 ≤ ((c : Int) + 1) := by omega
        have h2 : ((c : Int) + 1) * ((c : Int) + 1) ≤ 1000000 * 1000000 := Int.mul_le_mul (by omega) (by omega) h1 (by decide)
        have h3 : 0 ≤ ((c : Int) + 1) * ((c : Int) + 1) := Int.mul_nonneg h1 h1
        rw [Int.mul_assoc]
        generalize ((c : Int) + 1) * ((c : Int) + 1) = y at h2 h3
        omega
      · exact q _ _ (Int.emod_nonneg _ (by omega)) (Int.emod_lt_of_pos _ hn0) ⟨ne, r', m', ns', g1, g2, r0', m0', m1', l63'⟩ k2
theorem cal_draw (T : Tx K mg) : Cal P w K mg base 1 "_law_draw" spDraw := cal_law_draw T.draw
def spStart (K : PySem.W.Frag) : Sp := fun vs H Q _ => ∃ (a : Addr) (ns : List Int), vs = [.ref a] ∧ SqL K H a (ns.map V.int) ∧ ns.length ≤ 63 ∧ ∀ st sl H', Same H H' → Sk st sl 0 H' → Q (.ref st) H'
theorem cal_law_start (T : Tx K mg) : Cal P w K mg base 1 "_law_start" (spStart K) := by
  refine T.lstart.cal f_law_start_sc (fun _ _ _ _ _ _ us hl => match us, hl with | [_], _ => rfl) (fun vs H Q E h => ?_) (fun f cdv A outer s H vs Q E hr h => ?_)
  · obtain ⟨a, ns, rfl, _⟩ := h
    rfl
  obtain ⟨a, ns, rfl, hS, hl, q⟩ := h
  refine ⟨_, (pss_one (ps_ret (pe_lst (pa_cons (pe_callTy call_list_of rfl T.n_list (by decide +kernel) (pa_cons (pv 0) pa_nil)) (pa_cons pe_int (pa_cons pe_int (pa_cons pe_int pa_nil))))))), ?_⟩
  rw [show L2.start f_law_start_N [.ref a] = [some (.ref a)] from rfl]
  simp only [cxOf, Cx.nox, tSeq, C8.tCut, tAsg, tRet, tRetN, tIfS, tTest, tB, tAnd, tOr, tNot, tAndV, tOrV, tNotV, tIf, tOp, tUn, tCB, tCall, tCons, tNil, tC, tTup, tLst, tChain, tPar, tDrop, tNext, tSl, tPart, tNoPart, tBM, tBM0, tM1, tM0, tAug, ipI, gName, gSub, tVar, wipe, rI0, rI, rU, List.cons_append, List.nil_append, List.append_nil, List.set_cons_zero, List.set_cons_succ, List.getElem?_cons_zero, List.getElem?_cons_succ, Option.some.injEq, V.int.injEq, V.bl.injEq, V.str.injEq, V.ref.injEq, exists_and_left, exists_eq_left, if_true, if_false, Bool.not_true, Bool.not_false, Bool.false_eq_true, List.map_cons, List.map_nil, List.cons.injEq, and_true, true_and, exists_eq_left']
  refine ⟨_, .inl hS, fun p hp => ⟨by show 4 ≤ sizeLine; decide, fun t ht => ?_⟩⟩
  have ne : p ≠ t := fun e => by
    rw [← e, upd_same] at ht
    cases ht
  refine q t p _ ((same_new hp _).trans (same_new ht _)) ⟨ne.symm, 0, 0, ns, upd_same, ?_, Int.le_refl _, Int.le_refl _, by decide, hl⟩
  rw [upd_ne ne]
  exact upd_same
/-- what is picked from: a row outside of the spring, or a text -/
def Items (K : PySem.W.Frag) (H : Hp) (v : V) (xs : List V) : Prop := (∃ a, v = .ref a ∧ Sq K H a xs) ∨ ∃ z, v = .str z ∧ z.length ≤ 1000 ∧ xs = z.cps.toList.map fun c => V.str ⟨#[c]⟩
theorem Items.mono {H H' : Hp} {v : V} {xs : List V} (g : Same H H') (h : Items K H v xs) : Items K H' v xs := h.imp (fun ⟨a, e, q⟩ => ⟨a, e, q.mono g⟩) id
theorem Items.len {H : Hp} {v : V} {xs : List V} (h : Items K H v xs) : LenV K v H xs.length := by
  rcases h with ⟨a, rfl, q⟩ | ⟨z, rfl, hz, rfl⟩
  · exact len_data q
  · exact ⟨small hz, by rw [List.length_map]; simp [Str.length]⟩
theorem Items.ix {H : Hp} {v x : V} {xs : List V} {i : Int} {Q : VK} (h : Items K H v xs) (e : atI xs i = some x) (q : Q x H) : rIx K v (.int i) H Q := by
  rcases h with ⟨a, rfl, h⟩ | ⟨z, rfl, hz, rfl⟩
  · exact ix_data h e q
  · unfold atI at e
    rw [List.length_map] at e
    cases e1 : ixN z.cps.toList.length i with
    | none => rw [e1] at e; cases e
    | some j =>
      rw [e1] at e
      have e' : (z.cps.toList.map fun c => V.str ⟨#[c]⟩)[j]? = some x := e
      rw [List.getElem?_map] at e'
      cases e2 : z.cps.toList[j]? with
      | none => rw [e2] at e'; cases e'
      | some c =>
        rw [e2] at e'
        have e3 : V.str ⟨#[c]⟩ = x := Option.some.inj e'
        refine .inr (.inr ⟨z, i, c, rfl, rfl, small hz, ?_, e3 ▸ q⟩)
        unfold atI
        rw [e1]
        exact e2
theorem atI_of {α : Type} {xs : List α} {i : Int} (h0 : 0 ≤ i) (h1 : i < xs.length) : ∃ x, atI xs i = some x ∧ xs[i.toNat]? = some x := by
  have hk : i.toNat < xs.length := by omega
  have e : i = (i.toNat : Int) := by omega
  refine ⟨xs[i.toNat], ?_, List.getElem?_eq_getElem hk⟩
  have h := atI_nat (List.getElem?_eq_getElem hk)
  rw [← e] at h
  exact h
def spPick (K : PySem.W.Frag) : Sp := fun vs H Q _ => ∃ (st sl : Addr) (c : Nat) (v : V) (xs : List V), vs = [.ref st, v] ∧ Sk st sl c H ∧ c < 1000000 ∧ Items K (hid [st, sl] H) v xs ∧ xs ≠ [] ∧ xs.length ≤ 1000 ∧
  ∀ (i : Nat) (x : V) (H' : Hp), xs[i]? = some x → Sk st sl (c + 1) H' → Keep st sl H H' → Q x H'
theorem cal_law_pick (T : Tx K mg) : Cal P w K mg base 2 "_law_pick" (spPick K) := by
  refine T.pick.cal f_law_pick_sc (fun _ _ _ _ _ _ us hl => match us, hl with | [_, _], _ => rfl) (fun vs H Q E h => ?_) (fun f cdv A outer s H vs Q E hr h => ?_)
  · obtain ⟨st, sl, c, v, xs, rfl, _⟩ := h
    rfl
  obtain ⟨st, sl, c, v, xs, rfl, hk, hc, hi, hx, hl, q⟩ := h
  refine ⟨_, (pss_one (ps_ret (pe_ix ix_seq (pv 1) (pe_c (cal_draw T) hr (by omega) rfl (pa_cons (pv 0) (pa_cons (pe_callB call_len rfl T.n_len (by decide +kernel) (pa_cons (pv 1) pa_nil)) pa_nil))) (fun _ _ => rfl)))), ?_⟩
  rw [show L2.start f_law_pick_N [.ref st, v] = [some (.ref st), some v] from rfl]
  simp only [cxOf, Cx.nox, tSeq, C8.tCut, tAsg, tRet, tRetN, tIfS, tTest, tB, tAnd, tOr, tNot, tAndV, tOrV, tNotV, tIf, tOp, tUn, tCB, tCall, tCons, tNil, tC, tTup, tLst, tChain, tPar, tDrop, tNext, tSl, tPart, tNoPart, tBM, tBM0, tM1, tM0, tAug, ipI, gName, gSub, tVar, wipe, rI0, rI, rU, List.cons_append, List.nil_append, List.append_nil, List.set_cons_zero, List.set_cons_succ, List.getElem?_cons_zero, List.getElem?_cons_succ, Option.some.injEq, V.int.injEq, V.bl.injEq, V.str.injEq, V.ref.injEq, exists_and_left, exists_eq_left, if_true, if_false, Bool.not_true, Bool.not_false, Bool.false_eq_true, List.map_cons, List.map_nil, List.cons.injEq, and_true, true_and, exists_eq_left']
  have hl0 : 0 < xs.length := List.length_pos_iff.mpr hx
  refine ⟨xs.length, (hi.mono (hid_same _ _)).len, st, sl, c, xs.length, rfl, hk, hc, by omega, by omega, fun r H' r0 r1 hk' kp => ?_⟩
  obtain ⟨x, e1, e2⟩ := atI_of r0 r1
  exact ((hi.mono (kp.hid (by simp) (by simp))).mono (hid_same _ _)).ix e1 (q _ x H' e2 hk' kp)
def spReserved : Sp := fun vs H Q _ => vs = [] ∧ ∀ p H', Same H H' → H p = none → H' p = some (.lst (resv.map V.str)) → Q (.ref p) H'
theorem cal_law_reserved (T : Tx K mg) : Cal P w K mg base 1 "_law_reserved" spReserved := by
  refine T.reserved.cal f_law_reserved_sc (fun _ _ _ _ _ _ us hl => match us, hl with | [], _ => rfl) (fun vs H Q E h => ?_) (fun f cdv A outer s H vs Q E hr h => ?_)
  · obtain ⟨rfl, _⟩ := h
    rfl
  obtain ⟨rfl, q⟩ := h
  refine ⟨_, (pss_cons (ps_set (i := 0) f_law_reserved_sc.nd rfl (Or.inl rfl) (pe_lst (pa_cons pe_str (pa_cons pe_str (pa_cons pe_str (pa_cons pe_str (pa_cons pe_str (pa_cons pe_str (pa_cons pe_str (pa_cons pe_str (pa_cons pe_str (pa_cons pe_str (pa_cons pe_str (pa_cons pe_str (pa_cons pe_str pa_nil)))))))))))))))
      (pss_one (ps_ret (pe_op op_cat (pv 0) (pe_lst (pa_cons pe_str (pa_cons pe_str (pa_cons pe_str (pa_cons pe_str (pa_cons pe_str pa_nil)))))))))), ?_⟩
  rw [show L2.start f_law_reserved_N [] = [none] from rfl]
  simp only [cxOf, Cx.nox, tSeq, C8.tCut, tAsg, tRet, tRetN, tIfS, tTest, tB, tAnd, tOr, tNot, tAndV, tOrV, tNotV, tIf, tOp, tUn, tCB, tCall, tCons, tNil, tC, tTup, tLst, tChain, tPar, tDrop, tNext, tSl, tPart, tNoPart, tBM, tBM0, tM1, tM0, tAug, ipI, gName, gSub, tVar, wipe, rI0, rI, rU, List.cons_append, List.nil_append, List.append_nil, List.set_cons_zero, List.set_cons_succ, List.getElem?_cons_zero, List.getElem?_cons_succ, Option.some.injEq, V.int.injEq, V.bl.injEq, V.str.injEq, V.ref.injEq, exists_and_left, exists_eq_left, if_true, if_false, Bool.not_true, Bool.not_false, Bool.false_eq_true, List.map_cons, List.map_nil, List.cons.injEq, and_true, true_and, exists_eq_left']
  refine ⟨by show 13 ≤ sizeLine; decide, fun p hp => ⟨by show 5 ≤ sizeLine; decide, fun p2 hp2 => ?_⟩⟩
  refine ⟨p, p2, _, _, rfl, rfl, same_new hp2 _ _ _ upd_same, upd_same, by show 18 ≤ sizeLine; decide, fun p3 hp3 => ?_⟩
  exact q p3 _ (((same_new hp _).trans (same_new hp2 _)).trans (same_new hp3 _)) (((same_new hp _).trans (same_new hp2 _)).free hp3) upd_same
theorem pick_new {st sl p : Addr} {c : Nat} {H : Hp} {xs : List V} (hk : Sk st sl c H) (hp : H p = none) : Items K (hid [st, sl] (upd H p (.lst xs))) (.ref p) xs := by
  refine .inl ⟨p, rfl, .inl (SqL.of ?_)⟩
  rw [hid_ne (by simp [hk.nst hp, hk.nsl hp]), upd_same]
/-- a number: at most two draws -/
def spNumber : Sp := fun vs H Q _ => ∃ (st sl : Addr) (c : Nat), vs = [.ref st] ∧ Sk st sl c H ∧ c < 999990 ∧
  ∀ (i : Int) (H' : Hp) (c' : Nat), i.natAbs < 10 ^ 30 → Sk st sl c' H' → c' ≤ c + 2 → Keep st sl H H' → Q (.int i) H'
theorem cal_law_number (T : Tx K mg) : Cal P w K mg base 3 "_law_number" spNumber := by
  refine T.number.cal f_law_number_sc (fun _ _ _ _ _ _ us hl => match us, hl with | [_], _ => rfl) (fun vs H Q E h => ?_) (fun f cdv A outer s H vs Q E hr h => ?_)
  · obtain ⟨st, sl, c, rfl, _⟩ := h
    rfl
  obtain ⟨st, sl, c, rfl, hk, hc, q⟩ := h
  refine ⟨_, (pss_cons (ps_set (i := 1) f_law_number_sc.nd rfl (Or.inl rfl) (pe_c (cal_draw T) hr (by omega) rfl (pa_cons (pv 0) (pa_cons pe_int pa_nil))))
      (pss_cons (ps_if (pt_cmpR op_lt (pv 1) pe_int (nomark _)) (pss_one (ps_ret (pe_op op_sub (pe_c (cal_draw T) hr (by omega) rfl (pa_cons (pv 0) (pa_cons pe_int pa_nil))) pe_int))) pss_nil)
      (pss_one (ps_ret (pe_c (cal_law_pick T) hr (by omega) rfl (pa_cons (pv 0) (pa_cons (pe_lst (pa_cons (pe_op op_sub (pe_op op_pow pe_int pe_int) pe_int) (pa_cons (pe_op op_sub pe_int (pe_op op_pow pe_int pe_int)) (pa_cons (pe_op op_pow pe_int pe_int) (pa_cons (pe_un un_neg pe_int) (pa_cons pe_int pa_nil)))))) pa_nil))))))), ?_⟩
  rw [show L2.start f_law_number_N [.ref st] = [some (.ref st), none] from rfl]
  simp only [cxOf, Cx.nox, tSeq, C8.tCut, tAsg, tRet, tRetN, tIfS, tTest, tB, tAnd, tOr, tNot, tAndV, tOrV, tNotV, tIf, tOp, tUn, tCB, tCall, tCons, tNil, tC, tTup, tLst, tChain, tPar, tDrop, tNext, tSl, tPart, tNoPart, tBM, tBM0, tM1, tM0, tAug, ipI, gName, gSub, tVar, wipe, rI0, rI, rU, List.cons_append, List.nil_append, List.append_nil, List.set_cons_zero, List.set_cons_succ, List.getElem?_cons_zero, List.getElem?_cons_succ, Option.some.injEq, V.int.injEq, V.bl.injEq, V.str.injEq, V.ref.injEq, exists_and_left, exists_eq_left, if_true, if_false, Bool.not_true, Bool.not_false, Bool.false_eq_true, List.map_cons, List.map_nil, List.cons.injEq, and_true, true_and, exists_eq_left']
  refine ⟨st, sl, c, 12, rfl, hk, by omega, by decide, by decide, fun r H1 r0 r1 k1 g1 => ?_⟩
  refine ⟨r, rfl, ite2 (fun h => ?_) (fun h => ?_)⟩
  · refine ⟨st, sl, c + 1, 6, rfl, k1, by omega, by decide, by decide, fun r' H2 r0' r1' k2 g2 => ⟨r', rfl, ?_⟩⟩
    refine q _ H2 _ ?_ k2 (by omega) (g1.trans g2)
    have : (10 : Nat) ^ 30 = 1000000000000000000000000000000 := by decide
    omega
  · refine ⟨⟨by decide, by decide, by decide⟩, ⟨by decide, by decide, by decide⟩, ⟨by decide, by decide, by decide⟩, by show 5 ≤ sizeLine; decide, fun p hp => ?_⟩
    refine ⟨st, sl, c + 1, .ref p, _, rfl, k1.new hp, by omega, pick_new k1 hp, by simp, by simp, fun i x H2 hx k2 g2 => ?_⟩
    have hm := List.mem_of_getElem? hx
    simp only [List.mem_cons, List.not_mem_nil, or_false] at hm
    have g3 := (g1.trans (Keep.new hp)).trans g2
    rcases hm with rfl | rfl | rfl | rfl | rfl <;> exact q _ H2 _ (by decide) k2 (by omega) g3
/-- the spare names -/
def spareOf (a : Nat) : List Str := letters.cps.toList.map fun b => ("v" ++ (⟨#[a]⟩ : Str)) ++ ⟨#[b]⟩
def ten : Str := "abcdefghij"
def spare : List Str := ten.cps.toList.flatMap spareOf
/-- a name that is not taken: at most nine draws -/
def spFresh : Sp := fun vs H Q _ => ∃ (st sl t : Addr) (c : Nat) (tk : List Str), vs = [.ref st, .ref t] ∧ Sk st sl c H ∧ c < 999980 ∧ H t = some (.lst (tk.map V.str)) ∧ t ≠ st ∧ t ≠ sl ∧ tk.length ≤ 1000 ∧ (∃ s ∈ spare, s ∉ tk) ∧
  ∀ (x : Str) (H' : Hp) (c' : Nat), nm x = true → x ∉ tk → Sk st sl c' H' → c' ≤ c + 9 → Keep st sl H H' → Q (.str x) H'
theorem spareOf_len (a : Nat) : (spareOf a).length = 26 := by rw [spareOf, List.length_map]; decide +kernel
theorem spares_len : ∀ l : List Nat, (l.flatMap spareOf).length = 26 * l.length
  | [] => rfl
  | a :: l => by rw [List.flatMap_cons, List.length_append, spareOf_len, spares_len l, List.length_cons]; omega
theorem cut_ten : cutS letters none (some 10) = ten := by decide +kernel
theorem spare_nm : ∀ s ∈ spare, nm s = true := by
  have : (spare.all nm) = true := by decide +kernel
  exact List.all_eq_true.mp this
theorem spare_loop {addS : R2} (hA : ∀ a b H Q, a.length + b.length ≤ sizeLine → Q (V.str (a ++ b)) H → addS (.str a) (.str b) H Q) {st t p : Addr} {x y : V} {H : Hp} {tk : List Str} {Mid : L2.St → Hp → Prop} {Q : VK}
    (ht : H t = some (.lst (tk.map V.str))) (hp : H p = none) (hs : ∃ s ∈ spare, s ∉ tk)
    (q : ∀ s p1 v7 H', s ∈ spare → s ∉ tk → Same H H' → Mid [some (.ref st), some (.ref t), some (.str letters), some x, some (.str s), none, some (.ref p1), v7, none] H') :
    tFor (iStr (tSl rSlS (tVar 2) tNoPart (tPart (tC (V.int 10))))) (gName 7)
      (tAsg (tOp rCat (tVar 6) (tLc (iStr (tVar 2)) (gName 8) tYes (tOp addS (tOp addS (tC (V.str "v")) (tVar 7)) (tVar 8)) [8])) (gName 6))
      { nx := tAsg (tOp (rIxL K) (tLc (iList K (tVar 6)) (gName 7) (tTest (tOp (rIn K true) (tVar 7) (tVar 1))) (tVar 7) [7]) (tC (V.int 0))) (gName 4) { nx := Mid, rt := Q }, rt := Q }
      [some (.ref st), some (.ref t), some (.str letters), some x, some y, none, some (.ref p), none, none] (upd H p (.lst [])) := by
  refine ⟨_, rfl, _, rfl, letters, rfl, by decide +kernel, ten, congrArg V.str cut_ten, ?_⟩
  refine for_it (walk_str (z := ten)) (fun i σ H' => ∃ p1 v7, σ = [some (.ref st), some (.ref t), some (.str letters), some x, some y, none, some (.ref p1), v7, none] ∧ Same H H' ∧ H' p1 = some (.lst (((ten.cps.toList.take i).flatMap spareOf).map V.str))) ⟨p, none, rfl, same_new hp _, upd_same⟩ (fun _ _ _ _ _ => trivial) ?_ ?_
  · rintro i v σ H1 H2 hi ⟨p1, v7, rfl, g1, h1⟩ ⟨rfl, c, hc, rfl⟩
    have hc' : ten.cps.toList[i]? = some c := by simpa using hc
    refine ⟨_, rfl, ?_⟩
    refine tLc_str (z := letters) (fun R r => ⟨_, rfl, letters, rfl, r⟩) (by decide +kernel) (fun i v => ∃ b, letters.cps.toList[i]? = some b ∧ v = .str (("v" ++ (⟨#[c]⟩ : Str)) ++ ⟨#[b]⟩)) (fun k b H3 Q3 hb g3 kk => ?_) (fun D H3 ys g3 hl hR hD => ?_)
    · exact ⟨_, rfl, hA _ _ _ _ (small (by show (Str.ofString "v").length + 1 ≤ 1000; decide)) ⟨_, rfl, hA _ _ _ _ (small (by rw [strLen_append]; show (Str.ofString "v").length + 1 + 1 ≤ 1000; decide)) (kk _ _ ⟨b, hb, rfl⟩ (Same.refl _))⟩⟩
    · have e := ys_map (g := fun b => V.str (("v" ++ (⟨#[c]⟩ : Str)) ++ ⟨#[b]⟩)) hl hR
      have e2 : ys = (spareOf c).map V.str := by rw [e, spareOf, List.map_map]; rfl
      refine ⟨p1, D, _, _, rfl, rfl, g3 _ _ h1, e2 ▸ hD, ?_, fun p2 hp2 => ?_⟩
      · refine small ?_
        rw [List.length_map, List.length_map]
        have h2 : ((ten.cps.toList.take i).flatMap spareOf).length ≤ 260 := by
          rw [spares_len, List.length_take]
          have : ten.cps.toList.length = 10 := by decide +kernel
          omega
        have h3 := spareOf_len c
        omega
      · refine ⟨p2, _, rfl, (g1.trans g3).trans (same_new hp2 _), ?_⟩
        rw [upd_same, List.take_add_one, hc', List.flatMap_append, List.map_append]
        simp
  · rintro σ H1 ⟨p1, v7, rfl, g1, h1⟩
    simp only [cxOf, Cx.nox, tSeq, C8.tCut, tAsg, tRet, tRetN, tIfS, tTest, tB, tAnd, tOr, tNot, tAndV, tOrV, tNotV, tIf, tOp, tUn, tCB, tCall, tCons, tNil, tC, tTup, tLst, tChain, tPar, tDrop, tNext, tSl, tPart, tNoPart, tBM, tBM0, tM1, tM0, tAug, ipI, gName, gSub, tVar, wipe, rI0, rI, rU, List.cons_append, List.nil_append, List.append_nil, List.set_cons_zero, List.set_cons_succ, List.getElem?_cons_zero, List.getElem?_cons_succ, Option.some.injEq, V.int.injEq, V.bl.injEq, V.str.injEq, V.ref.injEq, exists_and_left, exists_eq_left, if_true, if_false, Bool.not_true, Bool.not_false, Bool.false_eq_true, List.map_cons, List.map_nil, List.cons.injEq, and_true, true_and, exists_eq_left']
    have h1' : H1 p1 = some (.lst (spare.map V.str)) := by
      rw [h1, List.take_of_length_le (by simp)]
      rfl
    refine tLc_filter (K := K) (zs := spare.map V.str) (fun R r => ⟨_, rfl, p1, rfl, ⟨_, SqL.of h1'⟩, r p1 H1 (Same.refl _) (SqL.of h1')⟩) ?_ (fun v => !inV v (tk.map V.str)) id (fun v H2 Q2 hv g2 k => ?_) (fun v H2 Q2 hv hp g2 k => ⟨_, rfl, k _ (Same.refl _)⟩) (fun D H2 g2 hD => ?_)
    · rw [List.length_map]
      have : spare.length = 260 := by decide +kernel
      omega
    · obtain ⟨s, _, rfl⟩ := List.mem_map.mp hv
      refine ⟨_, rfl, _, rfl, t, _, rfl, .inl (SqL.of (g2 _ _ (g1 _ _ ht))), rfl, flat_strs _, _, rfl, ?_⟩
      exact k _ (Same.refl _)
    · obtain ⟨s0, m0, n0⟩ := hs
      have hne : ((spare.map V.str).filter (fun v => !inV v (tk.map V.str))) ≠ [] := fun e => by
        have : V.str s0 ∈ (spare.map V.str).filter (fun v => !inV v (tk.map V.str)) := by
          rw [List.mem_filter]
          refine ⟨List.mem_map.mpr ⟨s0, m0, rfl⟩, ?_⟩
          rw [inV_str]
          simpa using n0
        rw [e] at this
        cases this
      obtain ⟨v0, r0, e0⟩ : ∃ v0 r0, (spare.map V.str).filter (fun v => !inV v (tk.map V.str)) = v0 :: r0 := by
        cases h : (spare.map V.str).filter (fun v => !inV v (tk.map V.str)) with
        | nil => exact absurd h hne
        | cons a l => exact ⟨a, l, rfl⟩
      have hv0 : v0 ∈ (spare.map V.str).filter (fun v => !inV v (tk.map V.str)) := by rw [e0]; exact List.mem_cons_self ..
      rw [List.mem_filter] at hv0
      obtain ⟨s, ms, rfl⟩ := List.mem_map.mp hv0.1
      have ns : s ∉ tk := by
        have := hv0.2
        rw [inV_str] at this
        simpa using this
      rw [List.map_id, e0] at hD
      exact ⟨D, _, 0, .str s, rfl, rfl, SqL.of hD, atI_nat (j := 0) rfl, q s p1 v7 H2 ms ns (g1.trans g2)⟩
theorem joinL_one : ∀ cs : List Nat, TL.joinL [] (cs.map fun b => [b]) = cs
  | [] => rfl
  | [b] => rfl
  | b :: d :: r => by
    show [b] ++ ([] ++ TL.joinL [] ((d :: r).map fun b => [b])) = b :: d :: r
    rw [joinL_one (d :: r)]
    rfl
theorem join_one' (cs : List Nat) : Txt.join "" (cs.map fun b => (⟨#[b]⟩ : Str)) = ⟨cs.toArray⟩ := by
  have h := SX.join_S [] (cs.map fun b => [b])
  rw [joinL_one, List.map_map] at h
  exact h
theorem sum_ones (cs : List Nat) : ((cs.map fun b => (⟨#[b]⟩ : Str)).map (·.length)).sum = cs.length := by
  induction cs with
  | nil => rfl
  | cons b r ih =>
    rw [List.map_cons, List.map_cons, List.sum_cons, ih, List.length_cons]
    show 1 + r.length = _
    omega
theorem cal_law_fresh (T : Tx K mg) : Cal P w K mg base 3 "_law_fresh" spFresh := by
  refine T.fresh.cal f_law_fresh_sc (fun _ _ _ _ _ _ us hl => match us, hl with | [_, _], _ => rfl) (fun vs H Q E h => ?_) (fun f cdv A outer s H vs Q E hr h => ?_)
  · obtain ⟨st, sl, t, c, tk, rfl, _⟩ := h
    rfl
  obtain ⟨st, sl, t, c, tk, rfl, hk, hc, ht, n1, n2, hl, hs, q⟩ := h
  refine ⟨_, (pss_cons (ps_set (i := 2) f_law_fresh_sc.nd rfl (Or.inr rfl) pe_str)
      (pss_cons (ps_set (i := 3) f_law_fresh_sc.nd rfl (Or.inl rfl) (pe_c (cal_law_pick T) hr (by omega) rfl (pa_cons (pv 0) (pa_cons (pe_lst (pa_cons pe_int (pa_cons pe_int (pa_cons pe_int (pa_cons pe_int pa_nil))))) pa_nil))))
      (pss_cons (ps_set (i := 4) f_law_fresh_sc.nd rfl (Or.inl rfl) (pe_join pe_str (pe_lc (own := [("_law_k", 5)]) (g := gName 5) (tt := tYes) rfl f_law_fresh_sc.nd (pi_range1 rfl T.n_range (pa_cons (pv 3) pa_nil)) (blkOk_by (own := [("_law_k", 5)]) (N := f_law_fresh_N) (sc := defScope f_law_fresh_s) (by decide +kernel)) (fun _ _ _ _ _ => (pg_name (i := 5) f_law_fresh_sc.nd rfl (Or.inl rfl))) (fun _ _ _ _ _ => pts_nil) (fun _ _ _ _ _ => (pe_c (cal_law_pick T) hr (by omega) rfl (pa_cons (pv 0) (pa_cons (pv 2) pa_nil)))))))
      (C8.pss_cut (ps_if (PW.pt (pw_or (pt_cmpR op_in_seq (pv 4) (pv 1) (by rfl)) (pw_or1 (pt_cmpR op_in_seq (pv 4) (pe_c0 (cal_law_reserved T) hr (by omega) rfl) (by rfl))))) (pss_cons (ps_set (i := 6) f_law_fresh_sc.nd rfl (Or.inl rfl) (pe_lst pa_nil))
      (pss_cons (ps_for PassesOwn.never rfl (pi_str (pe_slice sl_str (pv 2) po_none (po_some pe_int))) (pg_name (i := 7) f_law_fresh_sc.nd rfl (Or.inr rfl)) (pss_one (ps_set (i := 6) f_law_fresh_sc.nd rfl (Or.inl rfl) (pe_op op_cat (pv 6) (pe_lc (own := [("_law_other", 8)]) (g := gName 8) (tt := tYes) rfl f_law_fresh_sc.nd (pi_str (pv 2)) (blkOk_by (own := [("_law_other", 8)]) (N := f_law_fresh_N) (sc := defScope f_law_fresh_s) (by decide +kernel)) (fun _ _ _ _ _ => (pg_name (i := 8) f_law_fresh_sc.nd rfl (Or.inl rfl))) (fun _ _ _ _ _ => pts_nil) (fun _ _ _ _ _ => (pe_op op_add_str (pe_op op_add_str pe_str (pv 7)) (pv 8))))))))
      (pss_one (ps_set (i := 4) f_law_fresh_sc.nd rfl (Or.inl rfl) (pe_ix ix_list (pe_lc (own := [("_law_one", 7)]) (g := gName 7) (tt := tTest (tOp (rIn K true) (tVar 7) (tVar 1))) rfl f_law_fresh_sc.nd (pi_list (pv 6)) (blkOk_by (own := [("_law_one", 7)]) (N := f_law_fresh_N) (sc := defScope f_law_fresh_s) (by decide +kernel)) (fun _ _ _ _ _ => (pg_name (i := 7) f_law_fresh_sc.nd rfl (Or.inl rfl))) (fun _ _ _ _ _ => pts_one (pt_cmpR op_notIn_seq (pv 7) (pv 1) (by rfl))) (fun _ _ _ _ _ => (pv 7))) pe_int (fun _ _ => rfl)))))) pss_nil)
      (pss_one (ps_ret (pv 4))))))), ?_⟩
  rw [show L2.start f_law_fresh_N [.ref st, .ref t] = [some (.ref st), some (.ref t), none, none, none, none, none, none, none] from rfl]
  simp only [cxOf, Cx.nox, tSeq, C8.tCut, tAsg, tRet, tRetN, tIfS, tTest, tB, tAnd, tOr, tNot, tAndV, tOrV, tNotV, tIf, tOp, tUn, tCB, tCall, tCons, tNil, tC, tTup, tLst, tChain, tPar, tDrop, tNext, tSl, tPart, tNoPart, tBM, tBM0, tM1, tM0, tAug, ipI, gName, gSub, tVar, wipe, rI0, rI, rU, List.cons_append, List.nil_append, List.append_nil, List.set_cons_zero, List.set_cons_succ, List.getElem?_cons_zero, List.getElem?_cons_succ, Option.some.injEq, V.int.injEq, V.bl.injEq, V.str.injEq, V.ref.injEq, exists_and_left, exists_eq_left, if_true, if_false, Bool.not_true, Bool.not_false, Bool.false_eq_true, List.map_cons, List.map_nil, List.cons.injEq, and_true, true_and, exists_eq_left']
  refine ⟨by show 4 ≤ sizeLine; decide, fun p hp => ?_⟩
  refine ⟨st, sl, c, .ref p, _, rfl, hk.new hp, by omega, pick_new hk hp, by simp, by simp, fun i x H1 hx k1 g1 => ?_⟩
  have hx' : ∃ n : Nat, x = .int n ∧ 1 ≤ n ∧ n ≤ 8 := by
    have hm := List.mem_of_getElem? hx
    simp only [List.mem_cons, List.not_mem_nil, or_false] at hm
    rcases hm with rfl | rfl | rfl | rfl
    · exact ⟨1, rfl, by decide, by decide⟩
    · exact ⟨1, rfl, by decide, by decide⟩
    · exact ⟨2, rfl, by decide, by decide⟩
    · exact ⟨8, rfl, by decide, by decide⟩
  obtain ⟨n, rfl, hn1, hn8⟩ := hx'
  have g1' : Keep st sl H H1 := (Keep.new hp).trans g1
  have l1 : Liv [st, sl] st sl H1 := ⟨by simp, by simp, fun z hz => by
    obtain ⟨_, _, _, _, e1, e2, _⟩ := k1
    simp only [List.mem_cons, List.not_mem_nil, or_false] at hz
    rcases hz with rfl | rfl
    · rw [e1]; exact fun e => nomatch e
    · rw [e2]; exact fun e => nomatch e⟩
  refine ⟨⟨_, rfl⟩, ?_⟩
  refine tLc_draws (lo := 0) (n := n) (c := c + 1) (u := 1) (Z := [st, sl]) (fun R r => ⟨_, rfl, n, rfl, by omega, by omega, r⟩) (by omega) k1 l1 (fun _ v => ∃ b ∈ letters.cps.toList, v = .str ⟨#[b]⟩) (fun _ _ _ _ h => h) (fun D i H2 c2 Q2 hi g2 k2 l2 hc2 kk => ?_) (fun D H2 ys c2 g2 k2 hc2 hly hR hD l2 nD nD0 => ?_)
  · refine ⟨_, rfl, _, rfl, st, sl, c2, _, letters.cps.toList.map fun b => V.str ⟨#[b]⟩, rfl, k2, by omega, .inr ⟨letters, rfl, by decide +kernel, rfl⟩, by decide +kernel, by decide +kernel, fun k v H3 hv k3 g3 => ?_⟩
    have hm := List.mem_of_getElem? hv
    obtain ⟨b, hb, rfl⟩ := List.mem_map.mp hm
    exact kk _ H3 _ ⟨b, hb, rfl⟩ g3 k3 (by omega)
  · obtain ⟨cs, rfl, hcs⟩ : ∃ cs : List Nat, ys = (cs.map fun b => (⟨#[b]⟩ : Str)).map V.str ∧ ∀ b ∈ cs, b ∈ letters.cps.toList := by
      clear hD hly
      induction ys with
      | nil => exact ⟨[], rfl, fun _ h => nomatch h⟩
      | cons y r ih =>
        obtain ⟨b, hb, rfl⟩ := hR _ (List.mem_cons_self ..)
        obtain ⟨cs, rfl, h⟩ := ih fun y hy => hR y (List.mem_cons_of_mem _ hy)
        exact ⟨b :: cs, rfl, fun z hz => by
          rcases List.mem_cons.mp hz with e | e
          · rw [e]; exact hb
          · exact h z e⟩
    have hn : cs.length = n := by simpa using hly
    have ht2 : H2 t = some (.lst (tk.map V.str)) := g2 _ _ n1 n2 (g1' _ _ n1 n2 ht)
    have kq : ∀ s H', nm s = true → s ∉ tk → Same H2 H' → Q (.str s) H' := fun s H' hs1 hs2 g => q s H' c2 hs1 hs2 (k2.same g) (by omega) ((g1'.trans g2).trans (.same g))
    have hj := join_one' cs
    refine ⟨D, rfl, _, .inl (SqL.of hD), ?_, ?_⟩
    · rw [sum_ones, List.length_map]
      show cs.length + cs.length * 0 ≤ 16777216
      omega
    rw [hj]
    refine ⟨fun σ' H' => ∃ s, σ'[4]? = some (some (.str s)) ∧ nm s = true ∧ s ∉ tk ∧ Same H2 H', ?_, fun σ' H' ⟨s, e, h1, h2, g⟩ => ⟨_, e, kq s H' h1 h2 g⟩⟩
    have loop : ∀ {H3 : Hp} {p3 : Addr}, Same H2 H3 → H3 p3 = none → _ := fun {H3 p3} g3 h3 => spare_loop (K := K) (addS := fun x y H Q => ∃ i, x = V.str i ∧ ∃ x, y = V.str x ∧ i.length + x.length ≤ sizeLine ∧ Q (V.str (i ++ x)) H) (fun a b H Q h1 h2 => ⟨a, rfl, b, rfl, h1, h2⟩) (st := st) (x := .int n) (y := .str ⟨cs.toArray⟩) (Q := Q)
      (Mid := fun σ' H' => ∃ s, σ'[4]? = some (some (.str s)) ∧ nm s = true ∧ s ∉ tk ∧ Same H2 H') (g3 _ _ ht2) h3 hs (fun s p1 v7 H' m1 m2 g => ⟨s, rfl, spare_nm s m1, m2, g3.trans g⟩)
    refine ⟨t, _, rfl, .inl (SqL.of ht2), rfl, flat_strs _, _, rfl, ite2 (fun hin => ?_) (fun hin => ?_)⟩
    · exact ⟨Nat.zero_le _, fun p3 h3 => loop (Same.refl _) h3⟩
    · rw [if_neg Bool.false_ne_true, inV_str] at hin
      refine ⟨rfl, fun p3 H3 g3 h3 hH => ⟨p3, _, rfl, .inl (SqL.of hH), rfl, flat_strs _, _, rfl, ite2 (fun hr => ?_) (fun hr => ?_)⟩⟩
      · exact ⟨Nat.zero_le _, fun p4 h4 => loop g3 h4⟩
      · rw [if_neg Bool.false_ne_true, inV_str] at hr
        refine ⟨_, rfl, ?_, by simpa using hin, g3⟩
        unfold nm
        have e1 : (⟨cs.toArray⟩ : Str).length = n := by rw [← hn]; simp [Str.length]
        rw [e1, decide_eq_true hn1, decide_eq_true hn8, Bool.eq_false_iff.mpr hr]
        simpa using hcs
end
end Rm

set_option Elab.async false
set_option linter.all false
set_option maxRecDepth 100000
set_option maxHeartbeats 4000000
namespace Rm
open PySem PySem.Spec PyProof.Rows L2
section
variable {P : Program} {w : World} {K : PySem.W.Frag} {mg : Str → Option Value} {base : Heap}
abbrev restOf (K : PySem.W.Frag) (ti : TE) : TE := tSl (fun x lo hi H Q => rSlL K x lo hi H Q ∨ rSlA K x lo hi H Q) (tVar 0) (tPart ti) tNoPart
theorem all_rest {f0 : PyData → Bool} {C : PyData → Prop} {σ : L2.St} {H : Hp} {a : Addr} {xs : List V} {ds : List PyData} {k j : Nat} {Q : VK} {ti : TE} (hti : ∀ H Q, Q (.int k) H → ti σ H Q) (h0 : σ[0]? = some (some (.ref a))) (hj : j < σ.length) (hq : Sq K H a xs) (hd : DpAll K H xs ds) (hx : xs ≠ []) (hk : 0 < k) (hl : ds.length ≤ 9)
    (hC : ∀ e ∈ ds.drop k, C e) (q : ∀ H', Same H H' → Q (.bl ((ds.drop k).all f0)) H') :
    tLc (fun σ H R => iList K (restOf K ti) σ H R ∨ iTup K (restOf K ti) σ H R) (gName j) tYes (tCall (spLook K (fun d => .bl (f0 d)) C) [] E0 (tCons (tVar j) tNil)) [j] σ H (fun x H1 => rAll K [x] H1 Q) := by
  have hd' := dpa_drop k hd
  have hl' := dpa_len hd'
  refine tLc_row (K := K) (zs := xs.drop k) (fun R r1 r2 => ?_) (by rw [hl', List.length_drop]; omega) (fun i y => ∃ d, (ds.drop k)[i]? = some d ∧ y = .bl (f0 d)) (fun i x H1 Q1 hi g k1 => ?_) (fun D H1 ys g hly hR hD => ?_)
  · rcases hq with h | h
    · exact .inl ⟨_, h0, hti _ _ ⟨_, rfl, slice_L h fun p H1 g z => ⟨p, rfl, ⟨_, z⟩, r1 p H1 g z⟩⟩⟩
    · exact .inr ⟨_, h0, hti _ _ ⟨_, rfl, slice_T h hx hk fun p H1 g z => ⟨p, rfl, ⟨_, z⟩, r2 p H1 g z⟩⟩⟩
  · obtain ⟨d, h1, h2⟩ := dpa_get hd' hi
    refine ⟨x, ?_, x, d, rfl, h2.mono g, hC d (List.mem_of_getElem? h1), fun H2 g2 => k1 _ _ ⟨d, h1, rfl⟩ g2⟩
    rw [List.getElem?_set_self]
    rw [wipe_length]
    exact hj
  · have := ys_map (g := fun d => V.bl (f0 d)) (hly.trans hl') hR
    refine ⟨D, (ds.drop k).map f0, rfl, SqL.of ?_, ?_⟩
    · rw [List.map_map, hD, this]
      rfl
    · rw [List.all_map]
      exact q _ g
end
end Rm

set_option Elab.async false
set_option linter.all false
set_option maxRecDepth 100000
set_option maxHeartbeats 4000000
namespace Rm
open PySem PySem.Spec PyProof.Rows L2
section
variable {P : Program} {w : World} {K : PySem.W.Frag} {mg : Str → Option Value} {base : Heap}
theorem all_in {L : List Nat} {wi' : TI} {te : TE} {j : Nat} {σ : L2.St} {H : Hp} {Q : VK} {x : Str} (hx : x.length ≤ 1000) (hw : ∀ R : It → Hp → Prop, R (Its x) H → wi' σ H R)
    (he : ∀ c H1 Q, Q (.bl (decide (c ∈ L))) H1 → te ((wipe σ [j]).set j (some (.str ⟨#[c]⟩))) H1 Q)
    (q : ∀ H', Same H H' → Q (.bl (x.cps.toList.all fun c => decide (c ∈ L))) H') : tLc wi' (gName j) tYes te [j] σ H (fun y H1 => rAll K [y] H1 Q) := by
  refine tLc_str hw (by omega) (fun i v => ∃ c, x.cps.toList[i]? = some c ∧ v = .bl (decide (c ∈ L))) (fun i c H1 Q1 hc g k => he c H1 Q1 (k _ _ ⟨c, hc, rfl⟩ (Same.refl _))) (fun D H' ys g hl hR hD => ?_)
  have e := ys_map (g := fun c => V.bl (decide (c ∈ L))) hl hR
  refine ⟨D, x.cps.toList.map fun c => decide (c ∈ L), rfl, SqL.of ?_, ?_⟩
  · rw [List.map_map, hD, e]
    rfl
  · rw [List.all_map]
    exact q _ g
def spWi : Sp := fun vs H Q _ => ∃ x : Str, vs = [.str x] ∧ x.length ≤ 1000 ∧ ∀ H', Same H H' → Q (.bl (wi x)) H'
theorem wi_tail {te : TE} {x z : Str} {H : Hp} {Q : VK} (hz : z.length ≤ 1000) (e : z = dgt x) (he : ∀ c H1 Q, Q (.bl (decide (c ∈ digs.cps.toList))) H1 → te ((wipe [some (.str x), some (.str z), none] [2]).set 2 (some (.str ⟨#[c]⟩))) H1 Q)
    (q : ∀ H', Same H H' → Q (.bl (wi x)) H') : z.length ≤ sizeLine ∧ if decide (1 ≤ (z.length : Int)) = true then (if (!decide ((z.length : Int) ≤ 30)) = true then Q (V.bl false) H else
      tLc (iStr (tVar 1)) (gName 2) tYes te [2] [some (V.str x), some (V.str z), none] H fun x_4 H1 => rAll K [x_4] H1 fun x_5 H1 => ∃ c, x_5 = V.bl c ∧ if (!c) = true then Q (V.bl false) H1 else
        rEq (V.str x) (V.str "0") H1 fun x H1 => ∃ c, x = V.bl c ∧ if c = true then Q (V.bl true) H1 else rIxS (V.str z) (V.int 0) H1 fun x H1 => rNe x (V.str "0") H1 Q) else Q (V.bl false) H := by
  subst e
  refine ⟨small hz, ite2 (fun h1 => ite2 (fun h2 => ?_) (fun h2 => ?_)) (fun h1 => ?_)⟩
  · have h2' : ¬ (dgt x).length ≤ 30 := by simp at h2; omega
    have z := q _ (Same.refl H)
    have : wi x = false := by unfold wi; rw [decide_eq_false h2']; simp
    rw [this] at z
    exact z
  · have h1' : 1 ≤ (dgt x).length := by have := of_decide_eq_true h1; omega
    have h2' : (dgt x).length ≤ 30 := by simp at h2; omega
    have hw : wi x = (((tl (dgt x)).all fun c => decide (c ∈ digs.cps.toList)) && (x == ("0" : Str) || !((tl (dgt x)).head? == some 48))) := by
      unfold wi
      rw [decide_eq_true h1', decide_eq_true h2']
      simp
    refine all_in hz (fun R r => ⟨_, rfl, dgt x, rfl, r⟩) he fun H1 g1 => ?_
    have z := q _ g1
    rw [hw] at z
    refine ⟨_, rfl, ite2 (fun h3 => ?_) (fun h3 => ?_)⟩
    · rw [show ((tl (dgt x)).all fun c => decide (c ∈ digs.cps.toList)) = false by simpa using h3] at z
      exact z
    · rw [show ((tl (dgt x)).all fun c => decide (c ∈ digs.cps.toList)) = true by simpa using h3, Bool.true_and] at z
      refine ⟨rfl, _, rfl, ite2 (fun h4 => ?_) (fun h4 => ?_)⟩
      · have h4' : x = ("0" : Str) := by
          have := of_decide_eq_true h4
          exact V.str.inj this
        rw [show (x == ("0" : Str)) = true by rw [h4']; decide +kernel] at z
        exact z
      · have h4' : (x == ("0" : Str)) = false := by
          rw [beq_tl]
          refine decide_eq_false fun e => h4 (decide_eq_true ?_)
          rw [show x = ("0" : Str) from TL.ext_tl e]
        rw [h4', Bool.false_or] at z
        obtain ⟨c, r, ec⟩ : ∃ c r, tl (dgt x) = c :: r := List.exists_cons_of_ne_nil fun e => by rw [int_len, e] at h1'; simp at h1'
        refine ⟨dgt x, 0, c, rfl, rfl, small hz, ?_, rfl, ?_⟩
        · rw [show (dgt x).cps.toList = c :: r from ec]
          exact atI_nat (j := 0) rfl
        · have : (!decide (V.str ⟨#[c]⟩ = V.str "0")) = !((tl (dgt x)).head? == some 48) := by
            rw [ec]
            congr 1
            show decide _ = (some c == some 48)
            by_cases h : c = 48
            · subst h
              rfl
            · rw [decide_eq_false]
              · simp [h]
              · intro e
                have e1 := congrArg tl (V.str.inj e)
                have e2 : tl ("0" : Str) = [48] := by decide +kernel
                rw [e2] at e1
                have e3 : [c] = [48] := e1
                simp at e3
                exact h e3
          rw [this]
          exact z
  · have h1' : ¬ 1 ≤ (dgt x).length := fun h => h1 (decide_eq_true (by omega))
    have z := q _ (Same.refl H)
    have : wi x = false := by unfold wi; rw [decide_eq_false h1']; simp
    rw [this] at z
    exact z
theorem cal_is_written_integer (T : Tx K mg) : Cal P w K mg base 1 "is_written_integer" spWi := by
  refine T.is_written_integer.cal f_is_written_integer_sc (fun _ _ _ _ _ _ us hl => match us, hl with | [_], _ => rfl) (fun vs H Q E h => ?_) (fun f cdv A outer s H vs Q E hr h => ?_)
  · obtain ⟨x, rfl, _⟩ := h
    rfl
  obtain ⟨x, rfl, hx, q⟩ := h
  refine ⟨_, (pss_cons (ps_set (i := 1) f_is_written_integer_sc.nd rfl (Or.inl rfl) (pe_ifExp (pt_cmpR op_eq (pe_slice sl_str (pv 0) po_none (po_some pe_int)) pe_str (nomark _)) (pe_slice sl_str (pv 0) (po_some pe_int) po_none) (pv 0)))
      (pss_cons (ps_if (PW.pt (pw_or (pt_not (pt_chain op_le op_le pe_int (pe_callB call_len_str rfl T.n_len (by decide +kernel) (pa_cons (pv 1) pa_nil)) (pe_g T.gMOST_DIGITS))) (pw_or1 (pt_not (pt_val (pe_callB (cr_all rfl) rfl T.n_all (by decide +kernel) (pa_cons (pe_lc (own := [("digit", 2)]) (g := gName 2) (tt := tYes) rfl f_is_written_integer_sc.nd (pi_str (pv 1)) (blkOk_by (own := [("digit", 2)]) (N := f_is_written_integer_N) (sc := defScope f_is_written_integer_s) (by decide +kernel)) (fun _ _ _ _ _ => (pg_name (i := 2) f_is_written_integer_sc.nd rfl (Or.inl rfl))) (fun _ _ _ _ _ => pts_nil) (fun _ _ _ _ _ => (pe_cmpR op_in_sign (pv 2) (pe_g T.gDIGITS) (by rfl)))) pa_nil))))))) (pss_one (ps_ret pe_bl)) pss_nil)
      (pss_one (ps_ret (pe_or (pe_cmpR op_eq (pv 0) pe_str (nomark _)) (pe_one (pe_cmpR op_ne (pe_ix ix_str (pv 1) pe_int (fun _ _ => rfl)) pe_str (nomark _)))))))), ?_⟩
  rw [show L2.start f_is_written_integer_N [.str x] = [some (.str x), none, none] from rfl]
  simp only [cxOf, Cx.nox, tSeq, C8.tCut, tAsg, tRet, tRetN, tIfS, tTest, tB, tAnd, tOr, tNot, tAndV, tOrV, tNotV, tIf, tOp, tUn, tCB, tCall, tCons, tNil, tC, tTup, tLst, tChain, tPar, tDrop, tNext, tSl, tPart, tNoPart, tBM, tBM0, tM1, tM0, tAug, ipI, gName, gSub, tVar, wipe, rI0, rI, rU, List.cons_append, List.nil_append, List.append_nil, List.set_cons_zero, List.set_cons_succ, List.getElem?_cons_zero, List.getElem?_cons_succ, Option.some.injEq, V.int.injEq, V.bl.injEq, V.str.injEq, V.ref.injEq, exists_and_left, exists_eq_left, if_true, if_false, Bool.not_true, Bool.not_false, Bool.false_eq_true, List.map_cons, List.map_nil, List.cons.injEq, and_true, true_and, exists_eq_left']
  refine ⟨x, rfl, small hx, rfl, _, rfl, ?_⟩
  have hb : decide (V.str (cutS x none (some 1)) = V.str "-") = (cutS x none (some 1) == ("-" : Str)) := by
    rw [beq_tl]
    refine decide_eq_decide.mpr ⟨fun e => congrArg tl (V.str.inj e), fun e => congrArg V.str (TL.ext_tl e)⟩
  rw [hb]
  refine ite2 (fun h => ?_) (fun h => ?_)
  · have e : cutS x (some 1) none = dgt x := by unfold dgt; rw [if_pos h]
    have hl : (cutS x (some 1) none).length ≤ 1000 := by
      rw [int_len, cutR, List.length_drop, ← int_len]
      omega
    refine ⟨x, rfl, small hx, _, rfl, wi_tail hl e (fun c H1 Q k => ?_) q⟩
    simp only [cxOf, Cx.nox, tSeq, C8.tCut, tAsg, tRet, tRetN, tIfS, tTest, tB, tAnd, tOr, tNot, tAndV, tOrV, tNotV, tIf, tOp, tUn, tCB, tCall, tCons, tNil, tC, tTup, tLst, tChain, tPar, tDrop, tNext, tSl, tPart, tNoPart, tBM, tBM0, tM1, tM0, tAug, ipI, gName, gSub, tVar, wipe, rI0, rI, rU, List.cons_append, List.nil_append, List.append_nil, List.set_cons_zero, List.set_cons_succ, List.getElem?_cons_zero, List.getElem?_cons_succ, Option.some.injEq, V.int.injEq, V.bl.injEq, V.str.injEq, V.ref.injEq, exists_and_left, exists_eq_left, if_true, if_false, Bool.not_true, Bool.not_false, Bool.false_eq_true, List.map_cons, List.map_nil, List.cons.injEq, and_true, true_and, exists_eq_left']
    exact ⟨c, rfl, k⟩
  · have e : x = dgt x := by unfold dgt; rw [if_neg h]
    refine wi_tail hx e (fun c H1 Q k => ?_) q
    simp only [cxOf, Cx.nox, tSeq, C8.tCut, tAsg, tRet, tRetN, tIfS, tTest, tB, tAnd, tOr, tNot, tAndV, tOrV, tNotV, tIf, tOp, tUn, tCB, tCall, tCons, tNil, tC, tTup, tLst, tChain, tPar, tDrop, tNext, tSl, tPart, tNoPart, tBM, tBM0, tM1, tM0, tAug, ipI, gName, gSub, tVar, wipe, rI0, rI, rU, List.cons_append, List.nil_append, List.append_nil, List.set_cons_zero, List.set_cons_succ, List.getElem?_cons_zero, List.getElem?_cons_succ, Option.some.injEq, V.int.injEq, V.bl.injEq, V.str.injEq, V.ref.injEq, exists_and_left, exists_eq_left, if_true, if_false, Bool.not_true, Bool.not_false, Bool.false_eq_true, List.map_cons, List.map_nil, List.cons.injEq, and_true, true_and, exists_eq_left']
    exact ⟨c, rfl, k⟩
theorem nm_atom {x : Str} (h : nm x = true) : atom (.str x) := by
  unfold nm at h
  simp only [Bool.and_eq_true, decide_eq_true_eq, List.all_eq_true] at h
  refine ⟨by omega, fun c hc => ?_⟩
  have h1 := h.2 c hc
  have h2 : ∀ c ∈ letters.cps.toList, c < 128 := by decide +kernel
  exact h2 c h1
theorem tup_data {H : Hp} {p : Addr} {xs : List V} {Q : VK} (h : Sq K H p xs) (q : ∀ l H', Same H H' → SqT K H' l xs → Q (.ref l) H') : ∃ x, (SqL K H p x ∧ ∀ l, H l = none → Q (.ref l) (upd H l (.tup x))) ∨ SqT K H p x ∧ Q (.ref p) H := by
  rcases h with h | h
  · exact ⟨xs, .inl ⟨h, fun l hl => q l _ (same_new hl _) (SqT.of upd_same)⟩⟩
  · exact ⟨xs, .inr ⟨h, q p H (Same.refl _) h⟩⟩
/-- a cell: its words, then its parts -/
def Cell (K : PySem.W.Frag) (H : Hp) (a : Addr) (hd : List Str) (ps : List V) : Prop := Sq K H a (hd.map V.str ++ ps) ∧ hdOk hd ∧ (hd.map V.str ++ ps).length ≤ 7
theorem Cell.mono {H H' : Hp} {a : Addr} {hd : List Str} {ps : List V} (c : Cell K H a hd ps) (g : Same H H') : Cell K H' a hd ps := ⟨c.1.mono g, c.2⟩
theorem close_not {t : Str} (h : nm t = true) : isClose (.str t) = false := by
  unfold isClose
  simp only [PyData.eqv]
  cases hb : (t == ("close" : Str)) with
  | false => rfl
  | true =>
    have : t = ("close" : Str) := by
      rw [beq_tl] at hb
      exact TL.ext_tl (of_decide_eq_true hb)
    rw [this] at h
    have h2 : nm "close" = false := by decide +kernel
    rw [h2] at h
    cases h
theorem close_is : isClose (.str "close") = true := by decide +kernel
def spHead (K : PySem.W.Frag) : Sp := fun vs H Q _ => ∃ (hd : List Str) (ps : List V) (a : Addr), vs = [.ref a] ∧ Cell K H a hd ps ∧
  ∀ p H', Same H H' → SqT K H' p (hd.map V.str) → Q (.ref p) H'
theorem cal_head_of (T : Tx K mg) : Cal P w K mg base 1 "head_of" (spHead K) := by
  refine T.head_of.cal f_head_of_sc (fun _ _ _ _ _ _ us hl => match us, hl with | [_], _ => rfl) (fun vs H Q E h => ?_) (fun f cdv A outer s H vs Q E hr h => ?_)
  · obtain ⟨hd, ps, a, rfl, _⟩ := h
    rfl
  obtain ⟨hd, ps, a, rfl, ⟨hq, hh, hl⟩, q⟩ := h
  refine ⟨_, (pss_one (ps_ret (pe_ifExp (pt_cmpR (op_eqD hr.units) (pe_ix ix_seq (pv 0) pe_int (fun _ _ => rfl)) pe_str (nomark _)) (pe_callTy call_tuple_of rfl T.n_tuple (by decide +kernel) (pa_cons (pe_slice (sl_list.or sl_tupA) (pv 0) po_none (po_some pe_int)) pa_nil)) (pe_callTy call_tuple_of rfl T.n_tuple (by decide +kernel) (pa_cons (pe_slice (sl_list.or sl_tupA) (pv 0) po_none (po_some pe_int)) pa_nil))))), ?_⟩
  rw [show L2.start f_head_of_N [.ref a] = [some (.ref a)] from rfl]
  simp only [cxOf, Cx.nox, tSeq, C8.tCut, tAsg, tRet, tRetN, tIfS, tTest, tB, tAnd, tOr, tNot, tAndV, tOrV, tNotV, tIf, tOp, tUn, tCB, tCall, tCons, tNil, tC, tTup, tLst, tChain, tPar, tDrop, tNext, tSl, tPart, tNoPart, tBM, tBM0, tM1, tM0, tAug, ipI, gName, gSub, tVar, wipe, rI0, rI, rU, List.cons_append, List.nil_append, List.append_nil, List.set_cons_zero, List.set_cons_succ, List.getElem?_cons_zero, List.getElem?_cons_succ, Option.some.injEq, V.int.injEq, V.bl.injEq, V.str.injEq, V.ref.injEq, exists_and_left, exists_eq_left, if_true, if_false, Bool.not_true, Bool.not_false, Bool.false_eq_true, List.map_cons, List.map_nil, List.cons.injEq, and_true, true_and, exists_eq_left']
  rcases hh with ⟨t, rfl, ht⟩ | ⟨f, rfl, hf⟩
  · refine ix_data hq (atI_nat (j := 0) rfl) ?_
    refine eq_close (.str t) (n := 0) (nm_atom ht) (by decide) ⟨by decide +kernel, by decide +kernel⟩ ⟨_, rfl, ite2 (fun e => ?_) (fun e => ?_)⟩
    · have := close_not ht
      unfold isClose at this
      rw [this] at e
      cases e
    · exact slice_upto (k := 1) hq fun p H1 g h => ⟨p, rfl, tup_data h fun l H2 g2 h2 => q l H2 (g.trans g2) h2⟩
  · refine ix_data hq (atI_nat (j := 0) rfl) ?_
    refine eq_close (.str _) (n := 0) ⟨by decide +kernel, by decide +kernel⟩ (by decide) ⟨by decide +kernel, by decide +kernel⟩ ⟨_, rfl, ite2 (fun e => ?_) (fun e => ?_)⟩
    · exact slice_upto (k := 2) hq fun p H1 g h => ⟨p, rfl, tup_data h fun l H2 g2 h2 => q l H2 (g.trans g2) h2⟩
    · exact absurd close_is e
def spParts (K : PySem.W.Frag) : Sp := fun vs H Q _ => ∃ (hd : List Str) (ps : List V) (a : Addr), vs = [.ref a] ∧ Cell K H a hd ps ∧
  ∀ p H', Same H H' → SqT K H' p ps → Q (.ref p) H'
theorem cal_parts_of (T : Tx K mg) : Cal P w K mg base 2 "parts_of" (spParts K) := by
  refine T.parts_of.cal f_parts_of_sc (fun _ _ _ _ _ _ us hl => match us, hl with | [_], _ => rfl) (fun vs H Q E h => ?_) (fun f cdv A outer s H vs Q E hr h => ?_)
  · obtain ⟨hd, ps, a, rfl, _⟩ := h
    rfl
  obtain ⟨hd, ps, a, rfl, hc, q⟩ := h
  refine ⟨_, (pss_one (ps_ret (pe_callTy call_tuple_of rfl T.n_tuple (by decide +kernel) (pa_cons (pe_slice (sl_list.or sl_tupA) (pv 0) (po_some (pe_callB call_len_seq rfl T.n_len (by decide +kernel) (pa_cons (pe_c (cal_head_of T) hr (by omega) rfl (pa_cons (pv 0) pa_nil)) pa_nil))) po_none) pa_nil)))), ?_⟩
  rw [show L2.start f_parts_of_N [.ref a] = [some (.ref a)] from rfl]
  simp only [cxOf, Cx.nox, tSeq, C8.tCut, tAsg, tRet, tRetN, tIfS, tTest, tB, tAnd, tOr, tNot, tAndV, tOrV, tNotV, tIf, tOp, tUn, tCB, tCall, tCons, tNil, tC, tTup, tLst, tChain, tPar, tDrop, tNext, tSl, tPart, tNoPart, tBM, tBM0, tM1, tM0, tAug, ipI, gName, gSub, tVar, wipe, rI0, rI, rU, List.cons_append, List.nil_append, List.append_nil, List.set_cons_zero, List.set_cons_succ, List.getElem?_cons_zero, List.getElem?_cons_succ, Option.some.injEq, V.int.injEq, V.bl.injEq, V.str.injEq, V.ref.injEq, exists_and_left, exists_eq_left, if_true, if_false, Bool.not_true, Bool.not_false, Bool.false_eq_true, List.map_cons, List.map_nil, List.cons.injEq, and_true, true_and, exists_eq_left']
  refine ⟨hd, ps, a, rfl, hc, fun p H1 g h => ⟨p, rfl, _, .inr h, ?_⟩⟩
  have hne : hd.map V.str ++ ps ≠ [] := by simp [hd_ne hc.2.1]
  have hk : 0 < (hd.map V.str).length := by
    rw [List.length_map]
    exact List.length_pos_iff.mpr (hd_ne hc.2.1)
  have e : (hd.map V.str ++ ps).drop (hd.map V.str).length = ps := List.drop_left
  rcases hc.1 with z | z
  · refine slice_L (g.seq z) fun p2 H2 g2 h2 => ⟨p2, rfl, ?_⟩
    rw [e] at h2
    exact tup_data (.inl h2) fun l H3 g3 h3 => q l H3 ((g.trans g2).trans g3) h3
  · refine slice_T (sameT g z) hne hk fun p2 H2 g2 h2 => ⟨p2, rfl, ?_⟩
    rw [e] at h2
    exact tup_data (.inr h2) fun l H3 g3 h3 => q l H3 ((g.trans g2).trans g3) h3
/-! ### cells as data -/
theorem dpa_strs {H : Hp} : ∀ {hd : List Str} {xs : List V}, DpAll K H xs (hd.map PyData.str) → xs = hd.map V.str
  | [], _, .nil => rfl
  | w :: hd, _, .cons (.str _) r => by rw [dpa_strs r]; rfl
theorem dpa_split {H : Hp} : ∀ {ds es : List PyData} {xs : List V}, DpAll K H xs (ds ++ es) → ∃ ys zs, xs = ys ++ zs ∧ DpAll K H ys ds ∧ DpAll K H zs es
  | [], es, xs, h => ⟨[], xs, rfl, .nil, h⟩
  | d :: ds, es, _, .cons q r => by
    obtain ⟨ys, zs, rfl, h1, h2⟩ := dpa_split r
    exact ⟨_ :: ys, zs, rfl, .cons q h1, h2⟩
def rowsOf : PyData → List PyData
  | .list ds => ds
  | .tuple ds => ds
  | _ => []
theorem cell_data {C : PyData → Prop} {H : Hp} {v : V} {d : PyData} (h : Dp K H v d) (e : isSeq d = true) (hv : vrow C (rowsOf d)) : ∃ a hd ps es, v = .ref a ∧ Cell K H a hd ps ∧ DpAll K H ps es ∧ (∀ e ∈ es, C e) ∧ rowsOf d = hd.map PyData.str ++ es := by
  obtain ⟨a, xs, ds, rfl, hq, ha, hd2⟩ := dp_seq h e
  have hr : rowsOf d = ds := by rcases hd2 with rfl | rfl <;> rfl
  rw [hr] at hv ⊢
  obtain ⟨hd, es, rfl, h1, h2, h3⟩ := hv
  obtain ⟨ys, zs, rfl, h4, h5⟩ := dpa_split ha
  have := dpa_strs h4
  subst this
  refine ⟨a, hd, zs, es, rfl, ⟨hq, h1, ?_⟩, h5, h3, rfl⟩
  have := dpa_len ha
  omega
theorem va_row {n : Nat} {d : PyData} (h : va n d) (e : isSeq d = true) : ∃ m, n = m + 1 ∧ vrow (va m) (rowsOf d) := by
  cases n with
  | zero => cases d <;> first | exact h.elim | cases e
  | succ m => cases d <;> first | exact ⟨m, rfl, h⟩ | cases e
theorem va_num {n : Nat} {d : PyData} (h : va n d) (e : isSeq d = false) : ∃ i, d = .int i ∧ i.natAbs < 10 ^ 30 := by
  cases n <;> cases d <;> first | exact ⟨_, rfl, h⟩ | exact h.elim | cases e
theorem va_word {n : Nat} {d : PyData} (h : va n d) (f : PyData → Str) : wordOf f d = f d := by
  cases d <;> first | rfl | (cases n <;> exact h.elim)
def cl : Nat → PyData → Nat
  | n + 1, .tuple ds => 1 + (ds.map (cl n)).sum
  | n + 1, .list ds => 1 + (ds.map (cl n)).sum
  | _, _ => 0
theorem cl_row {n : Nat} {d : PyData} (e : isSeq d = true) : cl (n + 1) d = 1 + ((rowsOf d).map (cl n)).sum := by cases d <;> first | rfl | cases e
theorem cl_strs (n : Nat) (hd : List Str) : ((hd.map PyData.str).map (cl n)).sum = 0 := by
  induction hd with
  | nil => rfl
  | cons w r ih =>
    rw [List.map_cons, List.map_cons, List.sum_cons, ih]
    cases n <;> rfl
theorem txt_row {n : Nat} {d : PyData} (e : isSeq d = true) : txt (n + 1) d = rowT (txt n) (rowsOf d) := by cases d <;> first | rfl | cases e
theorem sumZ : ∀ l : List Nat, (l.map fun (n : Nat) => (n : Int)).sum = (l.sum : Int)
  | [] => rfl
  | n :: r => by
    rw [List.map_cons, List.sum_cons, List.sum_cons, sumZ r]
    omega
def spCells (K : PySem.W.Frag) (n : Nat) : Sp := spLook K (fun d => .int (cl n d)) (va n)
theorem cells_step {k n : Nat} (T : Tx K mg) (rec : Cal P w K mg base k "cells_of" fun vs H Q E => n ≠ 0 ∧ spCells K (n - 1) vs H Q E) (hk : 2 ≤ k) : Cal P w K mg base (k + 1) "cells_of" (spCells K n) := by
  refine T.cells_of.cal f_cells_of_sc (fun _ _ _ _ _ _ us hl => match us, hl with | [_], _ => rfl) (fun vs H Q E h => look_len h) (fun f cdv A outer s H vs Q E hr h => ?_)
  obtain ⟨v, d, rfl, hd, hv, q⟩ := h
  refine ⟨_, (pss_cons (ps_if (pt_not (pt_val (pe_c (cal_is_row T) hr (by omega) rfl (pa_cons (pv 0) pa_nil)))) (pss_one (ps_ret pe_int)) pss_nil)
      (pss_one (ps_ret (pe_op op_add pe_int (pe_callB (cr_sum rfl) rfl T.n_sum (by decide +kernel) (pa_cons (pe_lc (own := [("part", 1)]) (g := gName 1) (tt := tYes) rfl f_cells_of_sc.nd (pi_tup (pe_c (cal_parts_of T) hr (by omega) rfl (pa_cons (pv 0) pa_nil))) (blkOk_by (own := [("part", 1)]) (N := f_cells_of_N) (sc := defScope f_cells_of_s) (by decide +kernel)) (fun _ _ _ _ _ => (pg_name (i := 1) f_cells_of_sc.nd rfl (Or.inl rfl))) (fun _ _ _ _ _ => pts_nil) (fun _ _ _ _ _ => (pe_c rec hr (by omega) rfl (pa_cons (pv 1) pa_nil)))) pa_nil)))))), ?_⟩
  rw [show L2.start f_cells_of_N [v] = [some v, none] from rfl]
  simp only [cxOf, Cx.nox, tSeq, C8.tCut, tAsg, tRet, tRetN, tIfS, tTest, tB, tAnd, tOr, tNot, tAndV, tOrV, tNotV, tIf, tOp, tUn, tCB, tCall, tCons, tNil, tC, tTup, tLst, tChain, tPar, tDrop, tNext, tSl, tPart, tNoPart, tBM, tBM0, tM1, tM0, tAug, ipI, gName, gSub, tVar, wipe, rI0, rI, rU, List.cons_append, List.nil_append, List.append_nil, List.set_cons_zero, List.set_cons_succ, List.getElem?_cons_zero, List.getElem?_cons_succ, Option.some.injEq, V.int.injEq, V.bl.injEq, V.str.injEq, V.ref.injEq, exists_and_left, exists_eq_left, if_true, if_false, Bool.not_true, Bool.not_false, Bool.false_eq_true, List.map_cons, List.map_nil, List.cons.injEq, and_true, true_and, exists_eq_left']
  refine ⟨v, d, rfl, hd, trivial, fun H1 g1 => ⟨_, rfl, ite2 (fun e => ?_) (fun e => ?_)⟩⟩
  · have z := q _ g1
    have : cl n d = 0 := by cases n <;> cases d <;> first | rfl | simp [isSeq] at e
    dsimp only at z
    rw [this] at z
    exact z
  · have e' : isSeq d = true := by simpa using e
    obtain ⟨m, rfl, hrow⟩ := va_row hv e'
    obtain ⟨a, hd', ps, es, rfl, hc, hps, hes, hr⟩ := cell_data (hd.mono g1) e' hrow
    have hl := dpa_len hps
    have hle : es.length ≤ 7 := by
      have := hc.2.2
      rw [List.length_append] at this
      omega
    refine tLc_row (K := K) (zs := ps) (fun R r1 r2 => ?_) (by omega) (fun i y => ∃ e, es[i]? = some e ∧ y = .int (cl m e)) (fun i x H2 Q2 hi g2 k2 => ?_) (fun D H2 ys g2 hly hR hD => ?_)
    · exact ⟨_, rfl, hd', ps, a, rfl, hc, fun p H2 g2 h2 => ⟨p, rfl, ⟨_, h2⟩, r2 p H2 g2 h2⟩⟩
    · simp only [cxOf, Cx.nox, tSeq, C8.tCut, tAsg, tRet, tRetN, tIfS, tTest, tB, tAnd, tOr, tNot, tAndV, tOrV, tNotV, tIf, tOp, tUn, tCB, tCall, tCons, tNil, tC, tTup, tLst, tChain, tPar, tDrop, tNext, tSl, tPart, tNoPart, tBM, tBM0, tM1, tM0, tAug, ipI, gName, gSub, tVar, wipe, rI0, rI, rU, List.cons_append, List.nil_append, List.append_nil, List.set_cons_zero, List.set_cons_succ, List.getElem?_cons_zero, List.getElem?_cons_succ, Option.some.injEq, V.int.injEq, V.bl.injEq, V.str.injEq, V.ref.injEq, exists_and_left, exists_eq_left, if_true, if_false, Bool.not_true, Bool.not_false, Bool.false_eq_true, List.map_cons, List.map_nil, List.cons.injEq, and_true, true_and, exists_eq_left']
      obtain ⟨e, h1, h2⟩ := dpa_get hps hi
      exact ⟨Nat.succ_ne_zero m, x, e, rfl, h2.mono g2, hes e (List.mem_of_getElem? h1), fun H3 g3 => k2 _ _ ⟨e, h1, rfl⟩ g3⟩
    · have hys := ys_map (g := fun e => V.int (cl m e)) (hly.trans hl) hR
      refine ⟨D, (es.map (cl m)).map fun (n : Nat) => (n : Int), rfl, SqL.of ?_, ?_⟩
      · rw [hD, hys, List.map_map, List.map_map]
        rfl
      · have z := q _ (g1.trans g2)
        dsimp only at z
        rw [cl_row e', hr, List.map_append, List.sum_append, cl_strs, Nat.zero_add] at z
        rw [sumZ]
        have : ((1 + (es.map (cl m)).sum : Nat) : Int) = 1 + ((es.map (cl m)).sum : Int) := by omega
        rw [this] at z
        exact ⟨_, rfl, z⟩
theorem cells_b : ∀ (kV doc pm : Value) (an : Option Addr) (cdv ct : Value) (us : List Value), us.length = f_cells_of_P.length → bindArgs (PySem.W.fnOf "cells_of" "cells_of" (defArgs f_cells_of_s) (defBody f_cells_of_s) (defScope f_cells_of_s) .none kV doc pm an cdv ct) ⟨us, []⟩ = pure (f_cells_of_P.zip us) :=
  fun _ _ _ _ _ _ us hl => match us, hl with | [_], _ => rfl
theorem cal_cells_of (T : Tx K mg) : ∀ n, Cal P w K mg base (n + 3) "cells_of" (spCells K n)
  | 0 => cells_step T (k := 2) (T.cells_of.zero cells_b fun vs H Q E h => h.1 rfl) (by decide)
  | n + 1 => cells_step T (k := n + 3) ((cal_cells_of T n).imp fun vs H Q E h => h.2) (by omega)
/-! ### the text of a value -/
theorem joinL_len : ∀ {ps : List (List Nat)}, ps ≠ [] → (TL.joinL [32] ps).length + 1 = (ps.map (·.length)).sum + ps.length
  | [], h => absurd rfl h
  | [p], _ => by simp [TL.joinL]
  | p :: q :: r, _ => by
    have ih := joinL_len (ps := q :: r) (by simp)
    show (p ++ ([32] ++ TL.joinL [32] (q :: r))).length + 1 = _
    rw [List.length_append, List.length_append, List.map_cons, List.sum_cons, List.length_cons (as := q :: r)]
    simp only [List.length_singleton]
    omega
theorem join_size {ys : List Str} (h : ys ≠ []) : (ys.map (·.length)).sum + ys.length = (Txt.join " " ys).length + 1 := by
  rw [int_len, tl_join, joinL_len (by simpa using h), List.map_map, List.length_map]
  have : ys.map (·.length) = ys.map ((fun x : List Nat => x.length) ∘ tl) := List.map_congr_left fun y _ => int_len y
  rw [this]
theorem le_sum : ∀ {l : List Nat} {n : Nat}, n ∈ l → n ≤ l.sum
  | [], _, h => nomatch h
  | m :: r, n, h => by
    rw [List.sum_cons]
    rcases List.mem_cons.mp h with e | e
    · omega
    · have := le_sum e
      omega
theorem join_mem {ys : List Str} {y : Str} (h : y ∈ ys) : y.length ≤ (Txt.join " " ys).length := by
  have h1 := join_size (List.ne_nil_of_mem h)
  have h2 : y.length ≤ (ys.map (·.length)).sum := le_sum (List.mem_map.mpr ⟨y, h, rfl⟩)
  have h3 : 1 ≤ ys.length := List.length_pos_iff.mpr (List.ne_nil_of_mem h)
  omega
theorem rowT_len (f : PyData → Str) (ds : List PyData) : (rowT f ds).length = (Txt.join " " (ds.map (wordOf f))).length + 2 := by
  unfold rowT
  rw [strLen_append, strLen_append]
  have e1 : ((("(" : String) : Str)).length = 1 := rfl
  have e2 : (((")" : String) : Str)).length = 1 := rfl
  omega
def spText (K : PySem.W.Frag) (n : Nat) : Sp := spLook K (fun d => .str (txt n d)) fun d => va n d ∧ (txt n d).length ≤ 1000000
theorem text_step {k n : Nat} (T : Tx K mg) (rec : Cal P w K mg base k "value_text" fun vs H Q E => n ≠ 0 ∧ spText K (n - 1) vs H Q E) (hk : 2 ≤ k) : Cal P w K mg base (k + 1) "value_text" (spText K n) := by
  refine T.value_text.cal f_value_text_sc (fun _ _ _ _ _ _ us hl => match us, hl with | [_], _ => rfl) (fun vs H Q E h => look_len h) (fun f cdv A outer s H vs Q E hr h => ?_)
  obtain ⟨v, d, rfl, hd, ⟨hv, hsz⟩, q⟩ := h
  refine ⟨_, (pss_cons (ps_if (pt_not (pt_val (pe_c (cal_is_row T) hr (by omega) rfl (pa_cons (pv 0) pa_nil)))) (pss_one (ps_ret (pe_callTy call_str_int rfl T.n_str (by decide +kernel) (pa_cons (pv 0) pa_nil)))) pss_nil)
      (pss_one (ps_ret (pe_op op_add_str (pe_op op_add_str pe_str (pe_join pe_str (pe_op op_cat (pe_callTy call_list_of rfl T.n_list (by decide +kernel) (pa_cons (pe_c (cal_head_of T) hr (by omega) rfl (pa_cons (pv 0) pa_nil)) pa_nil)) (pe_lc (own := [("part", 1)]) (g := gName 1) (tt := tYes) rfl f_value_text_sc.nd (pi_tup (pe_c (cal_parts_of T) hr (by omega) rfl (pa_cons (pv 0) pa_nil))) (blkOk_by (own := [("part", 1)]) (N := f_value_text_N) (sc := defScope f_value_text_s) (by decide +kernel)) (fun _ _ _ _ _ => (pg_name (i := 1) f_value_text_sc.nd rfl (Or.inl rfl))) (fun _ _ _ _ _ => pts_nil) (fun _ _ _ _ _ => (pe_c rec hr (by omega) rfl (pa_cons (pv 1) pa_nil))))))) pe_str)))), ?_⟩
  rw [show L2.start f_value_text_N [v] = [some v, none] from rfl]
  simp only [cxOf, Cx.nox, tSeq, C8.tCut, tAsg, tRet, tRetN, tIfS, tTest, tB, tAnd, tOr, tNot, tAndV, tOrV, tNotV, tIf, tOp, tUn, tCB, tCall, tCons, tNil, tC, tTup, tLst, tChain, tPar, tDrop, tNext, tSl, tPart, tNoPart, tBM, tBM0, tM1, tM0, tAug, ipI, gName, gSub, tVar, wipe, rI0, rI, rU, List.cons_append, List.nil_append, List.append_nil, List.set_cons_zero, List.set_cons_succ, List.getElem?_cons_zero, List.getElem?_cons_succ, Option.some.injEq, V.int.injEq, V.bl.injEq, V.str.injEq, V.ref.injEq, exists_and_left, exists_eq_left, if_true, if_false, Bool.not_true, Bool.not_false, Bool.false_eq_true, List.map_cons, List.map_nil, List.cons.injEq, and_true, true_and, exists_eq_left']
  refine ⟨v, d, rfl, hd, trivial, fun H1 g1 => ⟨_, rfl, ite2 (fun e => ?_) (fun e => ?_)⟩⟩
  · obtain ⟨i, rfl, hi⟩ := va_num hv (by simpa using e)
    cases hd with
    | int =>
    refine ⟨i, rfl, ?_, ?_⟩
    · have h1 : i.natAbs < 2 ^ 1920 := Nat.lt_trans hi (by decide)
      by_cases h0 : i.natAbs = 0
      · rw [h0]; decide
      · exact (Nat.log2_lt h0).mpr h1
    · have z := q _ g1
      have : txt n (.int i) = Str.ofString (toString i) := by cases n <;> rfl
      dsimp only at z
      rw [this] at z
      exact z
  · have e' : isSeq d = true := by simpa using e
    obtain ⟨m, rfl, hrow⟩ := va_row hv e'
    obtain ⟨a, hd', ps, es, rfl, hc, hps, hes, hr⟩ := cell_data (hd.mono g1) e' hrow
    have hl := dpa_len hps
    have hle : hd'.length + es.length ≤ 7 := by
      have := hc.2.2
      rw [List.length_append, List.length_map] at this
      omega
    have hws : (rowsOf d).map (wordOf (txt m)) = hd' ++ es.map (txt m) := by
      rw [hr, List.map_append, List.map_map]
      congr 1
      · exact List.map_id'' (fun w => rfl) _
      · exact List.map_congr_left fun e he => va_word (hes e he) _
    have htx : txt (m + 1) d = ("(" ++ Txt.join " " (hd' ++ es.map (txt m))) ++ ")" := by rw [txt_row e', rowT, hws]
    have hlen : (txt (m + 1) d).length = (Txt.join " " (hd' ++ es.map (txt m))).length + 2 := by rw [txt_row e', rowT_len, hws]
    have hpart : ∀ e ∈ es, (txt m e).length ≤ 1000000 := fun e he => by
      have := join_mem (ys := hd' ++ es.map (txt m)) (List.mem_append_right _ (List.mem_map.mpr ⟨e, he, rfl⟩))
      omega
    have szL : (1000000 : Nat) + 2 ≤ sizeLine := by decide
    have e1 : ((("(" : String) : Str)).length = 1 := rfl
    have e2 : (((")" : String) : Str)).length = 1 := rfl
    have e3 : (((" " : String) : Str)).length = 1 := rfl
    refine ⟨⟨_, rfl⟩, hd', ps, a, rfl, hc, fun p H2 g2 h2 => ⟨p, rfl, _, .inr h2, fun l hl2 => ?_⟩⟩
    have g3 := g2.trans (same_new hl2 (.lst (hd'.map V.str)))
    have hc3 := hc.mono g3
    have hps3 := hps.mono g3
    have el : upd H2 l (.lst (hd'.map V.str)) l = some (.lst (hd'.map V.str)) := upd_same
    generalize upd H2 l (.lst (hd'.map V.str)) = H3 at g3 hc3 hps3 el ⊢
    refine tLc_row (K := K) (zs := ps) (fun R r1 r2 => ?_) (by omega) (fun i y => ∃ e, es[i]? = some e ∧ y = .str (txt m e)) (fun i x H4 Q4 hi g4 k4 => ?_) (fun D H4 ys g4 hly hR hD => ?_)
    · exact ⟨_, rfl, hd', ps, a, rfl, hc3, fun p H4 g4 h4 => ⟨p, rfl, ⟨_, h4⟩, r2 p H4 g4 h4⟩⟩
    · simp only [cxOf, Cx.nox, tSeq, C8.tCut, tAsg, tRet, tRetN, tIfS, tTest, tB, tAnd, tOr, tNot, tAndV, tOrV, tNotV, tIf, tOp, tUn, tCB, tCall, tCons, tNil, tC, tTup, tLst, tChain, tPar, tDrop, tNext, tSl, tPart, tNoPart, tBM, tBM0, tM1, tM0, tAug, ipI, gName, gSub, tVar, wipe, rI0, rI, rU, List.cons_append, List.nil_append, List.append_nil, List.set_cons_zero, List.set_cons_succ, List.getElem?_cons_zero, List.getElem?_cons_succ, Option.some.injEq, V.int.injEq, V.bl.injEq, V.str.injEq, V.ref.injEq, exists_and_left, exists_eq_left, if_true, if_false, Bool.not_true, Bool.not_false, Bool.false_eq_true, List.map_cons, List.map_nil, List.cons.injEq, and_true, true_and, exists_eq_left']
      obtain ⟨e, h1, h2⟩ := dpa_get hps3 hi
      have he := List.mem_of_getElem? h1
      exact ⟨Nat.succ_ne_zero m, x, e, rfl, h2.mono g4, ⟨hes e he, hpart e he⟩, fun H5 g5 => k4 _ _ ⟨e, h1, rfl⟩ g5⟩
    · have hys := ys_map (g := fun e => V.str (txt m e)) (hly.trans hl) hR
      have hys2 : ys = (es.map (txt m)).map V.str := by rw [hys, List.map_map]; rfl
      subst hys2
      refine ⟨l, D, _, _, rfl, rfl, g4 _ _ el, hD, small (by simp; omega), fun p5 hp5 => ?_⟩
      have hne : hd' ++ es.map (txt m) ≠ [] := by simp [hd_ne hc.2.1]
      have hjs := join_size hne
      refine ⟨p5, rfl, hd' ++ es.map (txt m), .inl (SqL.of ?_), ?_, ?_, ?_, ?_⟩
      · rw [upd_same, List.map_append]
      · rw [e3, Nat.mul_one]
        omega
      · rw [e1]
        omega
      · rw [strLen_append, e1, e2]
        omega
      · have z := q _ (((g1.trans g3).trans g4).trans (same_new hp5 (.lst (hd'.map V.str ++ (es.map (txt m)).map V.str))))
        dsimp only at z
        rw [htx] at z
        exact z
theorem text_b : ∀ (kV doc pm : Value) (an : Option Addr) (cdv ct : Value) (us : List Value), us.length = f_value_text_P.length → bindArgs (PySem.W.fnOf "value_text" "value_text" (defArgs f_value_text_s) (defBody f_value_text_s) (defScope f_value_text_s) .none kV doc pm an cdv ct) ⟨us, []⟩ = pure (f_value_text_P.zip us) :=
  fun _ _ _ _ _ _ us hl => match us, hl with | [_], _ => rfl
theorem cal_value_text (T : Tx K mg) : ∀ n, Cal P w K mg base (n + 3) "value_text" (spText K n)
  | 0 => text_step T (k := 2) (T.value_text.zero text_b fun vs H Q E h => h.1 rfl) (by decide)
  | n + 1 => text_step T (k := n + 3) ((cal_value_text T n).imp fun vs H Q E h => h.2) (by omega)
/-! ### is_value of values -/
def spIsv (K : PySem.W.Frag) (n : Nat) : Sp := spLook K (fun _ => .bl true) (va n)
theorem isv_step {k n : Nat} (T : Tx K mg) (rec : Cal P w K mg base k "is_value" fun vs H Q E => n ≠ 0 ∧ spIsv K (n - 1) vs H Q E) (hk : 2 ≤ k) : Cal P w K mg base (k + 1) "is_value" (spIsv K n) := by
  refine T.is_value.cal f_is_value_sc (fun _ _ _ _ _ _ us hl => match us, hl with | [_], _ => rfl) (fun vs H Q E h => look_len h) (fun f cdv A outer s H vs Q E hr h => ?_)
  obtain ⟨v, d, rfl, hd, hv, q⟩ := h
  refine ⟨_, (pss_cons (ps_if (pt_not (pt_val (pe_c (cal_is_row T) hr (by omega) rfl (pa_cons (pv 0) pa_nil)))) (pss_one (ps_ret (pe_c (cal_is_small T) hr (by omega) rfl (pa_cons (pv 0) pa_nil)))) pss_nil)
      (pss_cons (ps_if (PW.pt (pw_or (pt_cmpR op_eq (pe_callB call_len rfl T.n_len (by decide +kernel) (pa_cons (pv 0) pa_nil)) pe_int (nomark _)) (pw_or1 (pt_cmpR op_gt (pe_callB call_len rfl T.n_len (by decide +kernel) (pa_cons (pv 0) pa_nil)) (pe_g T.gMOST_WORDS) (nomark _))))) (pss_one (ps_ret pe_bl)) pss_nil)
      (pss_cons (ps_if (pt_cmpR (op_eqD hr.units) (pe_ix ix_seq (pv 0) pe_int (fun _ _ => rfl)) pe_str (nomark _)) (pss_one (ps_ret (pe_and (pe_cmpR op_gt (pe_callB call_len rfl T.n_len (by decide +kernel) (pa_cons (pv 0) pa_nil)) pe_int (nomark _)) (pe_and (pe_c (cal_is_name T) hr (by omega) rfl (pa_cons (pe_ix ix_seq (pv 0) pe_int (fun _ _ => rfl)) pa_nil)) (pe_one (pe_callB (cr_all rfl) rfl T.n_all (by decide +kernel) (pa_cons (pe_lc (own := [("part", 1)]) (g := gName 1) (tt := tYes) rfl f_is_value_sc.nd (pi_seq (pe_slice (sl_list.or sl_tupA) (pv 0) (po_some pe_int) po_none)) (blkOk_by (own := [("part", 1)]) (N := f_is_value_N) (sc := defScope f_is_value_s) (by decide +kernel)) (fun _ _ _ _ _ => (pg_name (i := 1) f_is_value_sc.nd rfl (Or.inl rfl))) (fun _ _ _ _ _ => pts_nil) (fun _ _ _ _ _ => (pe_c rec hr (by omega) rfl (pa_cons (pv 1) pa_nil)))) pa_nil))))))) pss_nil)
      (pss_one (ps_ret (pe_and (pe_c (cal_is_name T) hr (by omega) rfl (pa_cons (pe_ix ix_seq (pv 0) pe_int (fun _ _ => rfl)) pa_nil)) (pe_one (pe_callB (cr_all rfl) rfl T.n_all (by decide +kernel) (pa_cons (pe_lc (own := [("part", 1)]) (g := gName 1) (tt := tYes) rfl f_is_value_sc.nd (pi_seq (pe_slice (sl_list.or sl_tupA) (pv 0) (po_some pe_int) po_none)) (blkOk_by (own := [("part", 1)]) (N := f_is_value_N) (sc := defScope f_is_value_s) (by decide +kernel)) (fun _ _ _ _ _ => (pg_name (i := 1) f_is_value_sc.nd rfl (Or.inl rfl))) (fun _ _ _ _ _ => pts_nil) (fun _ _ _ _ _ => (pe_c rec hr (by omega) rfl (pa_cons (pv 1) pa_nil)))) pa_nil))))))))), ?_⟩
  rw [show L2.start f_is_value_N [v] = [some v, none] from rfl]
  simp only [cxOf, Cx.nox, tSeq, C8.tCut, tAsg, tRet, tRetN, tIfS, tTest, tB, tAnd, tOr, tNot, tAndV, tOrV, tNotV, tIf, tOp, tUn, tCB, tCall, tCons, tNil, tC, tTup, tLst, tChain, tPar, tDrop, tNext, tSl, tPart, tNoPart, tBM, tBM0, tM1, tM0, tAug, ipI, gName, gSub, tVar, wipe, rI0, rI, rU, List.cons_append, List.nil_append, List.append_nil, List.set_cons_zero, List.set_cons_succ, List.getElem?_cons_zero, List.getElem?_cons_succ, Option.some.injEq, V.int.injEq, V.bl.injEq, V.str.injEq, V.ref.injEq, exists_and_left, exists_eq_left, if_true, if_false, Bool.not_true, Bool.not_false, Bool.false_eq_true, List.map_cons, List.map_nil, List.cons.injEq, and_true, true_and, exists_eq_left']
  refine ⟨v, d, rfl, hd, trivial, fun H1 g1 => ⟨_, rfl, ite2 (fun e => ?_) (fun e => ?_)⟩⟩
  · obtain ⟨i, rfl, hi⟩ := va_num hv (by simpa using e)
    refine ⟨v, _, rfl, hd.mono g1, trivial, fun H2 g2 => ?_⟩
    have : sml (.int i) = true := decide_eq_true hi
    dsimp only
    rw [this]
    exact q _ (g1.trans g2)
  · have e' : isSeq d = true := by simpa using e
    obtain ⟨m, rfl, hrow⟩ := va_row hv e'
    obtain ⟨a, hd', ps, es, rfl, hc, hps, hes, hr⟩ := cell_data (hd.mono g1) e' hrow
    have hl := dpa_len hps
    have h7 := hc.2.2
    have hps7 : ps.length ≤ 7 := by
      have := h7
      rw [List.length_append] at this
      omega
    have hrows : DpAll K H1 (hd'.map V.str ++ ps) (hd'.map PyData.str ++ es) := dpa_app (dp_strs hd') hps
    have hdl : (hd'.map PyData.str ++ es).length ≤ 9 := by
      have := dpa_len hrows
      omega
    have hne : hd'.map V.str ++ ps ≠ [] := by simp [hd_ne hc.2.1]
    have hpos : 0 < (hd'.map V.str ++ ps).length := List.length_pos_iff.mpr hne
    refine ⟨_, len_data hc.1, rfl, _, rfl, ite2 (fun h0 => ?_) (fun h0 => ?_)⟩
    · have := of_decide_eq_true h0
      simp at this hpos
      exact absurd this (by omega)
    refine ⟨_, len_data hc.1, ite2 (fun h7' => ?_) (fun h7' => ?_)⟩
    · have := of_decide_eq_true h7'
      omega
    have fin : ∀ {H2 : Hp} {kk : Nat}, Same H1 H2 → 0 < kk → kk = hd'.length → tLc (fun σ H R => iList K (restOf K (tC (.int kk))) σ H R ∨ iTup K (restOf K (tC (.int kk))) σ H R) (gName 1) tYes (tCall (fun vs H Q E => m + 1 ≠ 0 ∧ spIsv K (m + 1 - 1) vs H Q E) [] E0 (tCons (tVar 1) tNil)) [1] [some (V.ref a), none] H2 (fun x H1 => rAll K [x] H1 Q) := by
      intro H2 kk g2 h0k hkk
      have edr : (hd'.map V.str ++ ps).drop kk = ps := by rw [hkk]; exact List.drop_left' (by simp)
      refine tLc_row (K := K) (zs := ps) (fun R r1 r2 => ?_) (by omega) (fun i y => y = .bl true) (fun i x H3 Q3 hi g3 k3 => ?_) (fun D H3 ys g3 hly hR hD => ?_)
      · rcases hc.1 with z | z
        · refine .inl ⟨_, rfl, _, rfl, slice_L (g2.seq z) fun p H3 g3 h3 => ?_⟩
          rw [edr] at h3
          exact ⟨p, rfl, ⟨_, h3⟩, r1 p H3 g3 h3⟩
        · refine .inr ⟨_, rfl, _, rfl, slice_T (sameT g2 z) hne h0k fun p H3 g3 h3 => ?_⟩
          rw [edr] at h3
          exact ⟨p, rfl, ⟨_, h3⟩, r2 p H3 g3 h3⟩
      · simp only [cxOf, Cx.nox, tSeq, C8.tCut, tAsg, tRet, tRetN, tIfS, tTest, tB, tAnd, tOr, tNot, tAndV, tOrV, tNotV, tIf, tOp, tUn, tCB, tCall, tCons, tNil, tC, tTup, tLst, tChain, tPar, tDrop, tNext, tSl, tPart, tNoPart, tBM, tBM0, tM1, tM0, tAug, ipI, gName, gSub, tVar, wipe, rI0, rI, rU, List.cons_append, List.nil_append, List.append_nil, List.set_cons_zero, List.set_cons_succ, List.getElem?_cons_zero, List.getElem?_cons_succ, Option.some.injEq, V.int.injEq, V.bl.injEq, V.str.injEq, V.ref.injEq, exists_and_left, exists_eq_left, if_true, if_false, Bool.not_true, Bool.not_false, Bool.false_eq_true, List.map_cons, List.map_nil, List.cons.injEq, and_true, true_and, exists_eq_left']
        obtain ⟨e, h1, h2⟩ := dpa_get hps hi
        exact ⟨Nat.succ_ne_zero m, x, e, rfl, (h2.mono g2).mono g3, hes e (List.mem_of_getElem? h1), fun H4 g4 => k3 _ _ rfl g4⟩
      · have hys := ys_map (g := fun _ : PyData => V.bl true) (ds := es) (hly.trans hl) (fun i y hy => by
          have hi : i < es.length := by
            have := (List.getElem?_eq_some_iff.mp hy).1
            omega
          exact ⟨es[i], by simp [hi], hR i y hy⟩)
        refine ⟨D, es.map fun _ => true, rfl, SqL.of ?_, ?_⟩
        · rw [hD, hys, List.map_map]
          rfl
        · have : (es.map fun _ => true).all id = true := by simp
          rw [this]
          exact q _ ((g1.trans g2).trans g3)
    rcases hc.2.1 with ⟨t, rfl, ht⟩ | ⟨f, rfl, hf⟩
    · refine ix_data hc.1 (atI_nat (j := 0) rfl) ?_
      refine eq_close (.str t) (n := 0) (nm_atom ht) (by decide) ⟨by decide +kernel, by decide +kernel⟩ ⟨_, rfl, ite2 (fun e => ?_) (fun e => ?_)⟩
      · have := close_not ht
        unfold isClose at this
        rw [this] at e
        cases e
      · refine ix_data hc.1 (atI_nat (j := 0) rfl) ?_
        refine ⟨_, .str t, rfl, .str t, ⟨0, nm_atom ht⟩, fun H2 g2 => ⟨_, rfl, ite2 (fun hn => ?_) (fun hn => absurd ht hn)⟩⟩
        exact fin g2 (by decide) rfl
    · refine ix_data hc.1 (atI_nat (j := 0) rfl) ?_
      refine eq_close (.str _) (n := 0) ⟨by decide +kernel, by decide +kernel⟩ (by decide) ⟨by decide +kernel, by decide +kernel⟩ ⟨_, rfl, ite2 (fun e => ?_) (fun e => absurd close_is e)⟩
      refine ⟨_, len_data hc.1, ite2 (fun h1 => ?_) (fun h1 => ?_)⟩
      · refine ix_data hc.1 (atI_nat (j := 1) rfl) ?_
        refine ⟨_, .str f, rfl, .str f, ⟨0, nm_atom hf⟩, fun H2 g2 => ⟨_, rfl, ite2 (fun hn => ?_) (fun hn => absurd hf hn)⟩⟩
        exact fin g2 (by decide) rfl
      · exact absurd (decide_eq_true (by simp; omega)) h1
theorem isv_b : ∀ (kV doc pm : Value) (an : Option Addr) (cdv ct : Value) (us : List Value), us.length = f_is_value_P.length → bindArgs (PySem.W.fnOf "is_value" "is_value" (defArgs f_is_value_s) (defBody f_is_value_s) (defScope f_is_value_s) .none kV doc pm an cdv ct) ⟨us, []⟩ = pure (f_is_value_P.zip us) :=
  fun _ _ _ _ _ _ us hl => match us, hl with | [_], _ => rfl
theorem cal_is_value (T : Tx K mg) : ∀ n, Cal P w K mg base (n + 3) "is_value" (spIsv K n)
  | 0 => isv_step T (k := 2) (T.is_value.zero isv_b fun vs H Q E h => h.1 rfl) (by decide)
  | n + 1 => isv_step T (k := n + 3) ((cal_is_value T n).imp fun vs H Q E h => h.2) (by omega)
end
end Rm

set_option Elab.async false
set_option linter.all false
set_option maxRecDepth 100000
set_option maxHeartbeats 4000000
namespace Rm
open PySem PySem.Spec PyProof.Rows L2
section
variable {P : Program} {w : World} {K : PySem.W.Frag} {mg : Str → Option Value} {base : Heap}
/-- the stack at S: rows at rs, the top first, holding st -/
structure Gs (K : PySem.W.Frag) (S : Addr) (rs : List Addr) (st : List (List PyData)) (n : Nat) (H : Hp) : Prop where
  eS : H S = some (.lst (rs.reverse.map V.ref))
  nd : (S :: rs).Nodup
  len : rs.length = st.length
  small : rs.length ≤ n + 1
  rows : ∀ (i : Nat) (r : Addr) (g : List PyData), rs[i]? = some r → st[i]? = some g → ∃ vs, H r = some (.lst vs) ∧ DpAll K (hid (S :: rs) H) vs g ∧ vs.length ≤ n
theorem Gs.same {S : Addr} {rs : List Addr} {st : List (List PyData)} {n : Nat} {H H' : Hp} (x : Gs K S rs st n H) (g : Same H H') : Gs K S rs st n H' :=
  ⟨g _ _ x.eS, x.nd, x.len, x.small, fun i r gg h1 h2 => by
    obtain ⟨vs, h3, h4, h5⟩ := x.rows i r gg h1 h2
    exact ⟨vs, g _ _ h3, h4.mono (hid_mono g), h5⟩⟩
theorem Gs.more {S : Addr} {rs : List Addr} {st : List (List PyData)} {n : Nat} {H : Hp} (x : Gs K S rs st n H) : Gs K S rs st (n + 1) H :=
  ⟨x.eS, x.nd, x.len, by have := x.small; omega, fun i r gg h1 h2 => by
    obtain ⟨vs, h3, h4, h5⟩ := x.rows i r gg h1 h2
    exact ⟨vs, h3, h4, by omega⟩⟩
theorem Gs.push {S p : Addr} {rs : List Addr} {st : List (List PyData)} {n : Nat} {H : Hp} (x : Gs K S rs st n H) (hp : H p = none) :
    Gs K S (p :: rs) ([] :: st) (n + 1) (upd (upd H p (.lst [])) S (.lst (rs.reverse.map V.ref ++ [V.ref p]))) := by
  have nS : p ≠ S := (ne_of_none x.eS hp).symm
  have nr : ∀ r ∈ rs, p ≠ r := fun r hr => by
    obtain ⟨i, hi⟩ := List.getElem?_of_mem hr
    have hi' : i < st.length := by
      have := (List.getElem?_eq_some_iff.mp hi).1
      have := x.len
      omega
    obtain ⟨vs, h3, _⟩ := x.rows i r st[i] hi (by simp [hi'])
    exact (ne_of_none h3 hp).symm
  have gz : Same (hid (S :: rs) H) (hid (S :: p :: rs) (upd (upd H p (.lst [])) S (.lst (rs.reverse.map V.ref ++ [V.ref p])))) :=
    ((hid_new (o := .lst []) hp).trans (hid_less (Z := S :: p :: rs) (Y := p :: S :: rs) (fun z hz => by
      simp only [List.mem_cons] at hz ⊢
      rcases hz with h | h | h
      · exact .inr (.inl h)
      · exact .inl h
      · exact .inr (.inr h)) _)).trans (hid_upd (by simp))
  refine ⟨?_, ?_, by simp [x.len], by have := x.small; simp; omega, fun i r g h1 h2 => ?_⟩
  · rw [upd_same]
    simp
  · have := x.nd
    rw [List.nodup_cons] at this ⊢
    refine ⟨by simp; exact ⟨nS.symm, this.1⟩, List.nodup_cons.mpr ⟨fun h => nr p h rfl, this.2⟩⟩
  · cases i with
    | zero =>
      simp at h1 h2
      subst h1 h2
      refine ⟨[], ?_, .nil, by simp⟩
      rw [upd_ne nS, upd_same]
    | succ i =>
      obtain ⟨vs, h3, h4, h5⟩ := x.rows i r g (by simpa using h1) (by simpa using h2)
      have hr : r ∈ rs := List.mem_of_getElem? (by simpa using h1)
      have hS : r ≠ S := fun e => (List.nodup_cons.mp x.nd).1 (e ▸ hr)
      refine ⟨vs, ?_, h4.mono gz, by omega⟩
      rw [upd_ne hS, upd_ne (nr r hr).symm]
      exact h3
theorem Gs.put {S r : Addr} {rs : List Addr} {g : List PyData} {st : List (List PyData)} {n : Nat} {H : Hp} {vs : List V} {v : V} {d : PyData} (x : Gs K S (r :: rs) (g :: st) n H) (hr : H r = some (.lst vs)) (hd : Dp K (hid (S :: r :: rs) H) v d) :
    Gs K S (r :: rs) ((g ++ [d]) :: st) (n + 1) (upd H r (.lst (vs ++ [v]))) := by
  have hS : S ≠ r := fun e => (List.nodup_cons.mp x.nd).1 (by rw [e]; simp)
  have gz : Same (hid (S :: r :: rs) H) (hid (S :: r :: rs) (upd H r (.lst (vs ++ [v])))) := hid_upd (by simp)
  refine ⟨by rw [upd_ne hS]; exact x.eS, x.nd, x.len, by have := x.small; omega, fun i r' g' h1 h2 => ?_⟩
  cases i with
  | zero =>
    simp at h1 h2
    subst h1 h2
    obtain ⟨vs', h3, h4, h5⟩ := x.rows 0 r g rfl rfl
    obtain rfl : vs = vs' := by rw [hr] at h3; cases h3; rfl
    exact ⟨vs ++ [v], upd_same, dpa_app (h4.mono gz) (.cons (hd.mono gz) .nil), by simp; omega⟩
  | succ i =>
    obtain ⟨vs', h3, h4, h5⟩ := x.rows (i + 1) r' g' h1 h2
    have nr : r' ≠ r := fun e => by
      have h6 := (List.nodup_cons.mp (List.nodup_cons.mp x.nd).2).1
      exact h6 (e ▸ List.mem_of_getElem? (by simpa using h1))
    exact ⟨vs', by rw [upd_ne nr]; exact h3, h4.mono gz, by omega⟩
theorem Gs.pop {S r : Addr} {rs : List Addr} {g : List PyData} {st : List (List PyData)} {n : Nat} {H : Hp} (x : Gs K S (r :: rs) (g :: st) n H) :
    Gs K S rs st n (upd H S (.lst (rs.reverse.map V.ref))) ∧ ∃ vs, upd H S (.lst (rs.reverse.map V.ref)) r = some (.lst vs) ∧ DpAll K (hid (S :: rs) (upd H S (.lst (rs.reverse.map V.ref)))) vs g ∧ vs.length ≤ n := by
  have gz : Same (hid (S :: r :: rs) H) (hid (S :: rs) (upd H S (.lst (rs.reverse.map V.ref)))) := (hid_less (Z := S :: rs) (Y := S :: r :: rs) (fun z hz => by
    simp only [List.mem_cons] at hz ⊢
    rcases hz with h | h
    · exact .inl h
    · exact .inr (.inr h)) H).trans (hid_upd (by simp))
  have nd := x.nd
  constructor
  · refine ⟨upd_same, ?_, by have := x.len; simpa using this, by have := x.small; simp at this; omega, fun i r' g' h1 h2 => ?_⟩
    · rw [List.nodup_cons] at nd ⊢
      exact ⟨fun h => nd.1 (List.mem_cons_of_mem _ h), (List.nodup_cons.mp nd.2).2⟩
    · obtain ⟨vs', h3, h4, h5⟩ := x.rows (i + 1) r' g' (by simpa using h1) (by simpa using h2)
      have hS : r' ≠ S := fun e => (List.nodup_cons.mp nd).1 (List.mem_cons_of_mem _ (e ▸ List.mem_of_getElem? h1))
      exact ⟨vs', by rw [upd_ne hS]; exact h3, h4.mono gz, h5⟩
  · obtain ⟨vs, h3, h4, h5⟩ := x.rows 0 r g rfl rfl
    have hS : r ≠ S := fun e => (List.nodup_cons.mp nd).1 (by rw [← e]; simp)
    exact ⟨vs, by rw [upd_ne hS]; exact h3, h4.mono gz, h5⟩
def spGrouped (K : PySem.W.Frag) : Sp := fun vs H Q _ => ∃ (a : Addr) (ws : List Str), vs = [.ref a] ∧ SqL K H a (ws.map V.str) ∧ ws.length ≤ 1000 ∧ (∀ w ∈ ws, w.length ≤ 900) ∧
  (∀ H', Same H H' → (∀ g, gfold ws [[]] ≠ some [g]) → Q .non H') ∧ ∀ r us g H', Same H H' → gfold ws [[]] = some [g] → H' r = some (.lst us) → DpAll K H' us g → Q (.ref r) H'
def GInv (K : PySem.W.Frag) (a S : Addr) (H : Hp) (ws : List Str) (i : Nat) (σ : L2.St) (H' : Hp) : Prop := Same H H' ∧ ∃ v2 v3 rs st, σ = [some (.ref a), some (.ref S), v2, v3] ∧ gfold (ws.take i) [[]] = some st ∧ st ≠ [] ∧ Gs K S rs st i H' ∧ ∀ r ∈ rs, H r = none
theorem wi_text {x : Str} (h : wi x = true) : intText? x = some (intOf x) ∧ x.length ≤ 31 := by
  unfold wi at h
  simp only [Bool.and_eq_true, decide_eq_true_eq, List.all_eq_true] at h
  obtain ⟨⟨⟨h1, h2⟩, h3⟩, _⟩ := h
  have hd : ∀ c ∈ digs.cps.toList, 48 ≤ c ∧ c ≤ 57 := by decide +kernel
  have had : NumText.AllDigits (tl (dgt x)) := fun c hc => hd c (h3 c hc)
  rw [int_len] at h1 h2
  have hne : tl (dgt x) ≠ [] := fun e => by rw [e] at h1; simp at h1
  rw [tl_dgt] at had hne h2
  unfold intOf
  by_cases h : (tl x).take 1 = [45]
  · rw [if_pos h] at had hne h2
    obtain ⟨c, r, e⟩ : ∃ c r, tl x = c :: r := List.exists_cons_of_ne_nil fun e => by rw [e] at h; simp at h
    rw [e] at h had hne h2
    simp at h
    subst h
    have hl : x.length ≤ 31 := by
      rw [int_len, e]
      simp at h2 ⊢
      omega
    rw [PySem.intText_neg (cs := r) e had hne (by omega)]
    exact ⟨rfl, hl⟩
  · rw [if_neg h] at had hne h2
    have hl : x.length ≤ 31 := by rw [int_len]; omega
    rw [PySem.intText_digits had hne (by omega)]
    exact ⟨rfl, hl⟩
theorem cal_grouped (T : Tx K mg) : Cal P w K mg base 2 "grouped" (spGrouped K) := by
  refine T.grouped.cal f_grouped_sc (fun _ _ _ _ _ _ us hl => match us, hl with | [_], _ => rfl) (fun vs H Q E h => ?_) (fun f cdv A outer s H vs Q E hr h => ?_)
  · obtain ⟨a, ws, rfl, _⟩ := h
    rfl
  obtain ⟨a, ws, rfl, hS, hl, hw, q1, q2⟩ := h
  refine ⟨_, (pss_cons (ps_set (i := 1) f_grouped_sc.nd rfl (Or.inl rfl) (pe_lst (pa_cons (pe_lst pa_nil) pa_nil)))
      (pss_cons (ps_for PassesOwn.never rfl (pi_list (pv 0)) (pg_name (i := 2) f_grouped_sc.nd rfl (Or.inl rfl)) (pss_one (ps_if (pt_cmpR op_eq (pv 2) pe_str (nomark _)) (pss_one (ps_expr (pe_bm PySem.F.plainAttrs_list PySem.F.slot_list_append PySem.F.type_list_append mt_append (pv 1) (pa_cons (pe_lst pa_nil) pa_nil)))) (pss_one (ps_if (pt_cmpR op_eq (pv 2) pe_str (nomark _)) (pss_cons (ps_if (pt_cmpR op_lt (pe_callB call_len_seq rfl T.n_len (by decide +kernel) (pa_cons (pv 1) pa_nil)) pe_int (nomark _)) (pss_one (ps_ret pe_non)) pss_nil)
      (pss_cons (ps_set (i := 3) f_grouped_sc.nd rfl (Or.inl rfl) (pe_callTy call_tuple_of rfl T.n_tuple (by decide +kernel) (pa_cons (pe_bm0 PySem.F.plainAttrs_list PySem.F.slot_list_pop PySem.F.type_list_pop mt_pop (pv 1)) pa_nil)))
      (pss_one (ps_expr (pe_bm PySem.F.plainAttrs_list PySem.F.slot_list_append PySem.F.type_list_append mt_append (pe_ix ix_list (pv 1) (pe_un un_neg pe_int) (fun _ _ => rfl)) (pa_cons (pv 3) pa_nil)))))) (pss_one (ps_expr (pe_bm PySem.F.plainAttrs_list PySem.F.slot_list_append PySem.F.type_list_append mt_append (pe_ix ix_list (pv 1) (pe_un un_neg pe_int) (fun _ _ => rfl)) (pa_cons (pe_ifExp (pt_val (pe_c (cal_is_written_integer T) hr (by omega) rfl (pa_cons (pv 2) pa_nil))) (pe_callTy call_int_str rfl T.n_int (by decide +kernel) (pa_cons (pv 2) pa_nil)) (pv 2)) pa_nil)))))))))
      (pss_one (ps_ret (pe_ifExp (pt_cmpR op_eq (pe_callB call_len_seq rfl T.n_len (by decide +kernel) (pa_cons (pv 1) pa_nil)) pe_int (nomark _)) (pe_ix ix_list (pv 1) pe_int (fun _ _ => rfl)) pe_non))))), ?_⟩
  rw [show L2.start f_grouped_N [.ref a] = [some (.ref a), none, none, none] from rfl]
  simp only [cxOf, Cx.nox, tSeq, C8.tCut, tAsg, tRet, tRetN, tIfS, tTest, tB, tAnd, tOr, tNot, tAndV, tOrV, tNotV, tIf, tOp, tUn, tCB, tCall, tCons, tNil, tC, tTup, tLst, tChain, tPar, tDrop, tNext, tSl, tPart, tNoPart, tBM, tBM0, tM1, tM0, tAug, ipI, gName, gSub, tVar, wipe, rI0, rI, rU, List.cons_append, List.nil_append, List.append_nil, List.set_cons_zero, List.set_cons_succ, List.getElem?_cons_zero, List.getElem?_cons_succ, Option.some.injEq, V.int.injEq, V.bl.injEq, V.str.injEq, V.ref.injEq, exists_and_left, exists_eq_left, if_true, if_false, Bool.not_true, Bool.not_false, Bool.false_eq_true, List.map_cons, List.map_nil, List.cons.injEq, and_true, true_and, exists_eq_left']
  refine ⟨Nat.zero_le _, fun p0 hp0 => ⟨by show 1 ≤ sizeLine; decide, fun S hpS => ?_⟩⟩
  have nS : p0 ≠ S := fun e => by rw [← e, upd_same] at hpS; cases hpS
  have x0 : Gs K S [p0] [[]] 0 (upd (upd H p0 (.lst [])) S (.lst [V.ref p0])) := by
    refine ⟨by rw [upd_same]; rfl, by simp [nS.symm], rfl, by simp, fun i r g h1 h2 => ?_⟩
    cases i with
    | zero =>
      simp at h1 h2
      subst h1 h2
      exact ⟨[], by rw [upd_ne nS]; exact upd_same, .nil, by simp⟩
    | succ i => simp at h1
  have g0 : Same H (upd (upd H p0 (.lst [])) S (.lst [V.ref p0])) := (same_new hp0 _).trans (same_new hpS _)
  have hSn : H S = none := (same_new hp0 (.lst [])).free hpS
  refine ⟨_, rfl, a, rfl, ⟨_, g0.seq hS⟩, ?_⟩
  refine for_it (walk_list (xs := ws.map V.str)) (GInv K a S H ws) ⟨g0, none, none, [p0], [[]], rfl, rfl, by simp, x0, fun r hr => by rw [List.mem_singleton.mp hr]; exact hp0⟩ (fun i σ H' _ h => h.1.seq hS) ?_ ?_
  · rintro i y σ H1 H2 hi ⟨g1, v2, v3, rs, st, rfl, hf, hne, x, hnew⟩ ⟨rfl, hy⟩
    have hi' : i < ws.length := by simpa using hi
    obtain ⟨wd, hwd, rfl⟩ : ∃ wd, ws[i]? = some wd ∧ y = .str wd := by
      rw [List.getElem?_map] at hy
      cases e : ws[i]? with
      | none => rw [e] at hy; cases hy
      | some wd => rw [e] at hy; exact ⟨wd, rfl, (Option.some.inj hy).symm⟩
    have hwl := hw wd (List.mem_of_getElem? hwd)
    have hstep : gfold (ws.take (i + 1)) [[]] = gst st wd := by
      rw [List.take_add_one, hwd, gfold_app, hf]
      show (gst st wd).bind (gfold []) = _
      cases gst st wd <;> rfl
    have hlen := x.len
    have hsm := x.small
    have out : ∀ {o : HO} {b : Addr} {H3 : Hp}, H b = none → Same H H3 → Same H (upd H3 b o) := fun hb g b' u e => by
      rw [upd_ne (ne_of_none e hb)]
      exact g _ _ e
    simp only [cxOf, Cx.nox, tSeq, C8.tCut, tAsg, tRet, tRetN, tIfS, tTest, tB, tAnd, tOr, tNot, tAndV, tOrV, tNotV, tIf, tOp, tUn, tCB, tCall, tCons, tNil, tC, tTup, tLst, tChain, tPar, tDrop, tNext, tSl, tPart, tNoPart, tBM, tBM0, tM1, tM0, tAug, ipI, gName, gSub, tVar, wipe, rI0, rI, rU, List.cons_append, List.nil_append, List.append_nil, List.set_cons_zero, List.set_cons_succ, List.getElem?_cons_zero, List.getElem?_cons_succ, Option.some.injEq, V.int.injEq, V.bl.injEq, V.str.injEq, V.ref.injEq, exists_and_left, exists_eq_left, if_true, if_false, Bool.not_true, Bool.not_false, Bool.false_eq_true, List.map_cons, List.map_nil, List.cons.injEq, and_true, true_and, exists_eq_left']
    refine ⟨rfl, _, rfl, ite2 (fun e1 => ?_) (fun e1 => ?_)⟩
    · have e1' : wd = "(" := V.str.inj (of_decide_eq_true e1)
      refine ⟨.inl ⟨rfl, _, SqL.of x.eS⟩, Nat.zero_le _, fun p hp => ?_⟩
      refine ⟨S, _, _, rfl, rfl, same_new hp _ _ _ x.eS, ?_, out hSn (g1.trans (same_new hp _)), _, _, p :: rs, [] :: st, rfl, ?_, by simp, x.push hp, fun r hr => ?_⟩
      · refine Nat.lt_of_le_of_lt ?_ (show 1001 < sizeLine by decide)
        simp
        omega
      · rw [hstep, gst, if_pos e1']
      · rcases List.mem_cons.mp hr with h | h
        · rw [h]; exact g1.free hp
        · exact hnew r h
    have e1' : wd ≠ "(" := fun e => e1 (decide_eq_true (congrArg V.str e))
    refine ⟨rfl, _, rfl, ite2 (fun e2 => ?_) (fun e2 => ?_)⟩
    · have e2' : wd = ")" := V.str.inj (of_decide_eq_true e2)
      have hst : gst st wd = gclose st := by rw [gst, if_neg e1', if_pos e2']
      refine ⟨_, .inl (SqL.of x.eS), ite2 (fun h2 => ?_) (fun h2 => ?_)⟩
      · have h2' := of_decide_eq_true h2
        simp at h2'
        refine q1 _ g1 fun g hg => ?_
        have hgn : gst st wd = none := by
          rw [hst]
          match st, hne, hlen with
          | [], h, _ => exact absurd rfl h
          | [g], _, _ => rfl
          | g :: h :: r, _, hl => simp at hl; omega
        have : gfold ws [[]] = none := by
          have e : ws = ws.take (i + 1) ++ ws.drop (i + 1) := (List.take_append_drop _ _).symm
          rw [e, gfold_app, hstep, hgn]
          rfl
        rw [this] at hg
        cases hg
      · have h2' : ¬ ((rs.reverse.map V.ref).length : Int) < 2 := fun z => h2 (decide_eq_true z)
        match rs, st, hlen, x, hnew, hst, h2' with
        | [], _, _, _, _, _, h => simp at h
        | [_], _, _, _, _, _, h => simp at h
        | r :: r2 :: rs, [], h, _, _, _, _ => simp at h
        | r :: r2 :: rs, [_], h, _, _, _, _ => simp at h
        | r :: r2 :: rs, g :: h :: st, hlen, x, hnew, hst, _ =>
          obtain ⟨x2, vs, hvs, hd, hvl⟩ := x.pop
          have e3 : (((r :: r2 :: rs).reverse.map V.ref)[((r :: r2 :: rs).reverse.map V.ref).length - 1]?) = some (V.ref r) := by simp
          have e4 : ((r :: r2 :: rs).reverse.map V.ref).dropLast = (r2 :: rs).reverse.map V.ref := by simp
          refine ⟨.inl ⟨rfl, _, SqL.of x.eS⟩, S, _, _, rfl, rfl, x.eS, e3, r, rfl, ?_⟩
          rw [e4]
          have gS : Same H (upd H2 S (.lst ((r2 :: rs).reverse.map V.ref))) := out hSn g1
          generalize upd H2 S (.lst ((r2 :: rs).reverse.map V.ref)) = H3 at x2 hvs hd gS ⊢
          refine ⟨vs, .inl ⟨SqL.of hvs, fun t ht => ?_⟩⟩
          have x4 := x2.same (same_new ht (.tup vs))
          have nt : t ∉ S :: r2 :: rs := fun hm => by
            rcases List.mem_cons.mp hm with e | e
            · rw [e, x2.eS] at ht; cases ht
            · obtain ⟨j, hj⟩ := List.getElem?_of_mem e
              have hj' : j < (h :: st).length := by
                have := (List.getElem?_eq_some_iff.mp hj).1
                have := x2.len
                omega
              obtain ⟨us, h3, _⟩ := x2.rows j t (h :: st)[j] hj (by simp [hj'])
              rw [h3] at ht
              cases ht
          have hdt : Dp K (hid (S :: r2 :: rs) (upd H3 t (.tup vs))) (.ref t) (.tuple g) := row_T upd_same nt (hd.mono (hid_mono (same_new ht _)))
          have g4 := gS.trans (same_new ht (.tup vs))
          generalize upd H3 t (.tup vs) = H4 at x4 hdt g4 ⊢
          obtain ⟨us, hus, hud, hul⟩ := x4.rows 0 r2 h rfl rfl
          have e5 : atI ((r2 :: rs).reverse.map V.ref) (-1) = some (V.ref r2) := by
            rw [List.reverse_cons, List.map_append]
            exact atI_last _ _
          refine ⟨S, _, -1, .ref r2, rfl, rfl, SqL.of x4.eS, e5, .inl ⟨rfl, _, SqL.of hus⟩, r2, us, _, rfl, rfl, hus, ?_, out (hnew r2 (by simp)) g4, _, _, r2 :: rs, (h ++ [.tuple g]) :: st, rfl, ?_, by simp, x4.put hus hdt, fun z hz => hnew z (List.mem_cons_of_mem _ hz)⟩
          · exact Nat.lt_of_le_of_lt hul (Nat.lt_of_lt_of_le hi' (Nat.le_trans hl (by decide)))
          · rw [hstep, hst]
            rfl
    · have e2' : wd ≠ ")" := fun e => e2 (decide_eq_true (congrArg V.str e))
      match rs, st, hlen, x, hnew, hne, hstep with
      | _, [], _, _, _, h, _ => exact absurd rfl h
      | [], _ :: _, h, _, _, _, _ => simp at h
      | r :: rs, g :: st, hlen, x, hnew, _, hstep =>
        have hst : gst (g :: st) wd = some ((g ++ [item wd]) :: st) := gst_word e1' e2' g st
        have e5 : atI ((r :: rs).reverse.map V.ref) (-1) = some (V.ref r) := by
          rw [List.reverse_cons, List.map_append]
          exact atI_last _ _
        obtain ⟨us, hus, hud, hul⟩ := x.rows 0 r g rfl rfl
        have ul : us.length < sizeLine := Nat.lt_of_le_of_lt hul (Nat.lt_of_lt_of_le hi' (Nat.le_trans hl (by decide)))
        refine ⟨S, _, -1, .ref r, rfl, rfl, SqL.of x.eS, e5, .inl ⟨rfl, _, SqL.of hus⟩, wd, rfl, by omega, fun H3 g3 => ⟨_, rfl, ite2 (fun hwi => ?_) (fun hwi => ?_)⟩⟩
        · obtain ⟨t1, t2⟩ := wi_text hwi
          refine ⟨_, t1, by omega, r, us, _, rfl, rfl, g3 _ _ hus, ul, out (hnew r (by simp)) (g1.trans g3), _, _, r :: rs, (g ++ [item wd]) :: st, rfl, by rw [hstep, hst], by simp, (x.same g3).put (g3 _ _ hus) ?_, hnew⟩
          rw [item, if_pos hwi]
          exact .int _
        · refine ⟨r, us, _, rfl, rfl, g3 _ _ hus, ul, out (hnew r (by simp)) (g1.trans g3), _, _, r :: rs, (g ++ [item wd]) :: st, rfl, by rw [hstep, hst], by simp, (x.same g3).put (g3 _ _ hus) ?_, hnew⟩
          rw [item, if_neg hwi]
          exact .str _
  · rintro σ H1 ⟨g1, v2, v3, rs, st, rfl, hf, hne, x, hnew⟩
    have hf' : gfold ws [[]] = some st := by
      rw [List.length_map, List.take_length] at hf
      exact hf
    simp only [cxOf, Cx.nox, tSeq, C8.tCut, tAsg, tRet, tRetN, tIfS, tTest, tB, tAnd, tOr, tNot, tAndV, tOrV, tNotV, tIf, tOp, tUn, tCB, tCall, tCons, tNil, tC, tTup, tLst, tChain, tPar, tDrop, tNext, tSl, tPart, tNoPart, tBM, tBM0, tM1, tM0, tAug, ipI, gName, gSub, tVar, wipe, rI0, rI, rU, List.cons_append, List.nil_append, List.append_nil, List.set_cons_zero, List.set_cons_succ, List.getElem?_cons_zero, List.getElem?_cons_succ, Option.some.injEq, V.int.injEq, V.bl.injEq, V.str.injEq, V.ref.injEq, exists_and_left, exists_eq_left, if_true, if_false, Bool.not_true, Bool.not_false, Bool.false_eq_true, List.map_cons, List.map_nil, List.cons.injEq, and_true, true_and, exists_eq_left']
    refine ⟨_, .inl (SqL.of x.eS), rfl, _, rfl, ite2 (fun e => ?_) (fun e => ?_)⟩
    · have e' := of_decide_eq_true e
      have e1 : rs.length = 1 := by simp at e'; omega
      match rs, st, x, e1, hf' with
      | [r], [g], x, _, hf' =>
        obtain ⟨us, hus, hud, hul⟩ := x.rows 0 r g rfl rfl
        exact ⟨S, _, 0, .ref r, rfl, rfl, SqL.of x.eS, atI_nat (j := 0) rfl, q2 r us g H1 g1 hf' hus (hud.mono (hid_same _ _))⟩
      | [r], [], x, _, _ => exact absurd x.len (by simp)
      | [r], _ :: _ :: _, x, _, _ => exact absurd x.len (by simp)
    · refine q1 _ g1 fun g hg => e (decide_eq_true ?_)
      rw [hf'] at hg
      cases hg
      have := x.len
      simp at this
      simp [this]
end
end Rm

set_option Elab.async false
set_option linter.all false
set_option maxRecDepth 100000
set_option maxHeartbeats 4000000
/-! rules where a token is out: a body that begins with e.replace -/
namespace Rm
open PySem PySem.Spec PyProof.Rows L2
section
variable {P : Program} {w : World} {K : PySem.W.Frag} {mg : Str → Option Value} {base : Heap} {x : Str} {st : Stmt} {N ps : List Str} {k : Nat} {sp : Sp}
theorem psst_nox {X : Cx} {st : List Stmt} {t : TS} (h : PSsT X.nox st t) : PSsT X st t := fun pins s σ H D h0 I hw =>
  wpAny_mono (h pins s σ H D h0 (I.wish _) hw) (fun _ _ q => q.unwish) fun _ _ z => False.elim z
theorem Df.calT (F : Df K mg x st) (S : FnScope N ps (defScope st)) (hnc : ∀ y ∈ (defScope st).names, y.2 ≠ .cell) (hps : 1 ≤ ps.length)
    (hb : ∀ (kV doc pm : Value) (an : Option Addr) (cdv ct : Value) (us : List Value), us.length = ps.length → bindArgs (PySem.W.fnOf x x (defArgs st) (defBody st) (defScope st) .none kV doc pm an cdv ct) ⟨us, []⟩ = pure (ps.zip us))
    (len : ∀ vs H Q E, sp vs H Q E → vs.length = ps.length)
    (hbody : ∀ (f : Addr) (cdv : Value) (A : Around) (outer : List Env) (s : Shared) (H : Hp) (vs : List V) (Q : VK) (E : XK), Room k (A.deeper (envOfC x (defScope st) s.heap.objs.size f cdv)) → sp vs H Q E →
      ∃ t, PSsT (cxOf CX0 P w K mg base N x (defScope st) f cdv A outer s H E).nox (defBody st) t ∧ t { nx := fun _ H' => Q .non H', rt := Q } (start N vs) H) : Cal P w K mg base (k + 1) x sp := by
  obtain ⟨f, fd, F, m⟩ := F.ex
  obtain ⟨oc, od, dV, kV, doc, pm, an, cdv, ct, osl, rfl, lk, hcd, q1, q2⟩ := _root_.id F.ex
  refine ⟨f, _, ps, fn_ofT lk hcd S hnc hps len fun A outer s H vs Q E hr hs => ?_, m, F.kp, F.bindsN hb⟩
  obtain ⟨t, h, q⟩ := hbody f cdv A outer s H vs Q E hr hs
  exact ⟨t, psst_nox h, q⟩
end
section
variable {X : Cx} {k j : Nat} {x : Str} {sp : Sp} {p pos : Pos} {o e : Expr} {es : List Expr} {t : TA} {to te : TE}
theorem pet_c (c : Cal X.prog X.w X.K X.mg X.base k x sp) (hr : Room j X.A) (hk : k ≤ j) (hg : Gl X x) (ha : PAT X (e :: es) t)
    (hdb : (x == ("__debug__" : Str)) = false := by decide) (he : starEach (e :: es) X.env = (false, eval e X.env) :: starEach es X.env := by rfl) (hpl : (backTo pos (starEach es X.env)).any (·.1) = false := by rfl) :
    PET X (.Call (.Name x p) (e :: es) [] pos) (tCall sp [] E0 t) := by
  obtain ⟨f, fd, ps, F, hm, kp, b⟩ := c.ex
  intro pins s σ H Q h0 I h
  refine wpAny_Call_Name_kw (ld_glob I hg hm ?_ hdb)
  refine PySem.W.callWith_K (h₀ := X.base) I.ok.mod.kin kp (thn (ha pos pins s σ H _ h0 I h) fun us s1 ⟨vs, H1, I1, r, q⟩ => ⟨I1.kIn, ?_⟩) he hpl
  exact run_fn F (hr.mono hk) b .nil pass0 I1 r q
theorem pet_m1 {id : String} {name : Str} {apos pos : Pos} {r : V → List V → Hp → VK → Prop} (slot : Slot "str" name id) (ty : typeOf (.builtin id) = pure (.type "method_descriptor")) (rule : MtR X id r) (ho : PET X o to) (he : PE X e te)
    (hs : starEach [e] X.env = [(false, eval e X.env)] := by rfl) (hbase : attributeBase o name X.env (eval o X.env) = eval o X.env := by rfl) (hline : (apos.endLine == pos.line) = true := by rfl) :
    PET X (.Call (.Attribute o name apos) [e] [] pos) (tM1 r to te) := by
  intro pins s σ H Q h0 I h
  refine PySem.Call_method1 hbase hs hline (thn (ho pins s σ H _ h0 I h) fun v s1 ⟨x, H1, I1, r1, q1⟩ => ?_)
  obtain ⟨⟨a, rfl⟩, q1⟩ := q1
  obtain ⟨t, rfl⟩ := _root_.id r1
  refine ⟨"str", _, F.plainAttrs_str, slot, ty, typeIs_str _ _ _, (fun _ e => nomatch e), Calls.callWith_builtin rfl (Calls.evalArgs_plain (Calls.spliced_cons ?_))⟩
  exact thn (he.run pins s1 σ H1 _ I1 q1) fun u s2 ⟨y, H2, I2, r2, q2⟩ => Calls.spliced_nil (rule pins s2 σ H2 _ [y] _ [u] Q I2 r1 (.cons r2 .nil) q2)
theorem pet_split {apos pos : Pos} (ho : PET X o to) (he : PE X e te) (hs : starEach [e] X.env = [(false, eval e X.env)] := by rfl) (hbase : attributeBase o "split" X.env (eval o X.env) = eval o X.env := by rfl) (hline : (apos.endLine == pos.line) = true := by rfl) :
    PET X (.Call (.Attribute o "split" apos) [e] [] pos) (tM1 (fun x xs H Q => ∃ a b, x = .str a ∧ xs = [.str b] ∧ (b.length == 0) = false ∧ a.length + 2 ≤ sizeLine ∧ rNewStrs (Txt.split a b) H Q) to te) :=
  pet_m1 F.slot_str_split F.type_str_split mt_split ho he hs hbase hline
theorem pst_set {i : Nat} {x : Str} {e : Expr} {te : TE} {pos pos' : Pos} (hN : X.N.Nodup) (hi : X.N[i]? = some x) (hx : Loc X.env.scope x) (he : PET X e te) (hs : swapsWith e (some (.Name x pos')) pos.line X.env = pure false := by rfl) (hf : X.fn x = true ∨ X.env.scope.names.lookup x = some .local := by first | exact .inl rfl | exact .inr rfl | assumption) :
    PST X (.Assign [.Name x pos'] e pos) (tAsg te (gName i)) := by
  intro pins s σ H D h0 I h
  refine wpAny_Assign_Name (thn (he pins s σ H _ h0 I h) fun v s1 ⟨y, H1, I1, r1, q1⟩ => ?_) hs
  exact store_ok I1 hN hi hx r1 (fun s2 I2 => ⟨_, H1, I2, q1⟩) hf
end
end Rm

set_option Elab.async false
set_option linter.all false
set_option maxRecDepth 100000
set_option maxHeartbeats 4000000
namespace Rm
open PySem PySem.Spec PyProof.Rows L2
theorem va_of_vt : ∀ {n : Nat} {d : PyData}, vt n d → va n d
  | n, .int i, h => by cases n <;> exact h
  | n + 1, .tuple ds, h => by
    obtain ⟨hd, es, e, h1, h2, h3⟩ := h
    exact ⟨hd, es, e, h1, h2, fun e he => va_of_vt (h3 e he)⟩
  | 0, .tuple ds, h => h.elim
  | 0, .list _, h => h.elim
  | _ + 1, .list _, h => h.elim
  | 0, .none, h => h.elim
  | _ + 1, .none, h => h.elim
  | 0, .bool _, h => h.elim
  | _ + 1, .bool _, h => h.elim
  | 0, .str _, h => h.elim
  | _ + 1, .str _, h => h.elim
  | 0, .dict _, h => h.elim
  | _ + 1, .dict _, h => h.elim
theorem rp_len : ∀ l : List Nat, (l.flatMap rp).length ≤ 2 * l.length
  | [] => by simp
  | c :: r => by
    have := rp_len r
    have h : (rp c).length ≤ 2 := by unfold rp; split; · simp
                                     · split <;> simp
    rw [List.flatMap_cons, List.length_append, List.length_cons]
    omega
theorem joinL_size : ∀ ws : List Str, ws.length ≤ (TL.joinL [32] (ws.map tl)).length + 1 ∧ ∀ w ∈ ws, w.length ≤ (TL.joinL [32] (ws.map tl)).length
  | [] => ⟨by simp, fun w h => (nomatch h)⟩
  | [w] => ⟨by simp, fun v h => by
      rw [List.mem_singleton.mp h, int_len]
      exact Nat.le_refl _⟩
  | w :: v :: r => by
    obtain ⟨h1, h2⟩ := joinL_size (v :: r)
    have e : TL.joinL [32] ((w :: v :: r).map tl) = tl w ++ ([32] ++ TL.joinL [32] ((v :: r).map tl)) := rfl
    rw [e]
    constructor
    · simp only [List.length_append, List.length_cons, List.length_nil] at h1 ⊢
      omega
    · intro u hu
      rw [List.length_append, List.length_append]
      rcases List.mem_cons.mp hu with rfl | hu
      · rw [int_len]; omega
      · have := h2 u hu
        omega
theorem toks_size {n : Nat} {d : PyData} (h : vt n d) : (toks n d).length ≤ 2 * (txt n d).length + 1 ∧ ∀ w ∈ toks n d, w.length ≤ 2 * (txt n d).length := by
  obtain ⟨h1, _⟩ := txt_toks h
  obtain ⟨h2, h3⟩ := joinL_size (toks n d)
  have h4 := rp_len (tl (txt n d))
  rw [h1, ← int_len] at h4
  exact ⟨by omega, fun w hw => Nat.le_trans (h3 w hw) h4⟩
section
variable {P : Program} {w : World} {K : PySem.W.Frag} {mg : Str → Option Value} {base : Heap}
def spRead (K : PySem.W.Frag) (n : Nat) : Sp := fun vs H Q _ => ∃ d, vs = [.str (txt n d)] ∧ vt n d ∧ (txt n d).length ≤ 400 ∧ ∀ v H', Same H H' → Dp K H' v d → Q v H'
theorem repl_size (x y z : Str) (h : x.length ≤ 5000) (hz : z.length = 2) : x.length + (x.length + 1) * z.length ≤ 16777216 := by
  rw [hz]; omega
theorem cal_read_value (T : Tx K mg) (n : Nat) : Cal P w K mg base (n + 4) "read_value" (spRead K n) := by
  refine T.read_value.calT f_read_value_sc (by decide +kernel) (by decide) (fun _ _ _ _ _ _ us hl => match us, hl with | [_], _ => rfl) (fun vs H Q E h => ?_) (fun f cdv A outer s H vs Q E hr h => ?_)
  · obtain ⟨d, rfl, _⟩ := h
    rfl
  obtain ⟨d, rfl, hv, hl, q⟩ := h
  refine ⟨_, psst_cons (pst_set (i := 1) f_read_value_sc.nd rfl (Or.inl rfl) (pet_c (cal_grouped T) hr (by omega) rfl (pat_cons (pet_split (CwR.pet_replT (CwR.pet_replC (pv 0))) pe_str) pat_nil))) (PSsT.of (pss_cons (ps_if (PW.pt (pw_or (pt_cmpR op_isN (pv 1) pe_non (nomark _)) (pw_or (pt_cmpR op_ne (pe_callB call_len_seq rfl T.n_len (by decide +kernel) (pa_cons (pv 1) pa_nil)) pe_int (nomark _)) (pw_or (pt_not (pt_val (pe_c (cal_is_value T n) hr (by omega) rfl (pa_cons (pe_ix ix_list (pv 1) pe_int (fun _ _ => rfl)) pa_nil)))) (pw_or1 (pt_cmpR op_ne (pe_c (cal_value_text T n) hr (by omega) rfl (pa_cons (pe_ix ix_list (pv 1) pe_int (fun _ _ => rfl)) pa_nil)) (pv 0) (nomark _))))))) (pss_one ps_never) pss_nil)
      (pss_one (ps_ret (pe_ix ix_list (pv 1) pe_int (fun _ _ => rfl)))))), ?_⟩
  rw [show L2.start f_read_value_N [.str (txt n d)] = [some (.str (txt n d)), none] from rfl]
  have z1 : ("( " : Str).length = 2 := by decide +kernel
  have z2 : (" )" : Str).length = 2 := by decide +kernel
  have r1 := TK.replace_len (txt n d) "(" "( "
  rw [z1] at r1
  have r2 := TK.replace_len (Txt.replace (txt n d) "(" "( ") ")" " )"
  rw [z2] at r2
  obtain ⟨hs1, hs2⟩ := toks_size hv
  have hw := words_txt hv
  unfold wordsOf at hw
  simp only [CwR.tReplC]
  simp only [cxOf, Cx.nox, tSeq, C8.tCut, tAsg, tRet, tRetN, tIfS, tTest, tB, tAnd, tOr, tNot, tAndV, tOrV, tNotV, tIf, tOp, tUn, tCB, tCall, tCons, tNil, tC, tTup, tLst, tChain, tPar, tDrop, tNext, tSl, tPart, tNoPart, tBM, tBM0, tM1, tM0, tAug, ipI, gName, gSub, tVar, wipe, rI0, rI, rU, List.cons_append, List.nil_append, List.append_nil, List.set_cons_zero, List.set_cons_succ, List.getElem?_cons_zero, List.getElem?_cons_succ, Option.some.injEq, V.int.injEq, V.bl.injEq, V.str.injEq, V.ref.injEq, exists_and_left, exists_eq_left, if_true, if_false, Bool.not_true, Bool.not_false, Bool.false_eq_true, List.map_cons, List.map_nil, List.cons.injEq, and_true, true_and, exists_eq_left']
  have hz : ((" " : Str).length == 0) = false := by decide +kernel
  refine ⟨.str (txt n d), rfl, txt n d, rfl, repl_size (txt n d) "(" "( " (by omega) z1, Txt.replace (txt n d) "(" "( ", rfl, repl_size _ ")" " )" (by omega) z2, ⟨_, rfl⟩, _, rfl, hz, ?_, fun p hp => ?_⟩
  · exact Nat.le_trans (show _ ≤ 6000 by omega) (by decide)
  rw [hw]
  have g0 := same_new hp (.lst ((toks n d).map V.str))
  have hgf : gfold (toks n d) [[]] = some [[d]] := by
    have := gfold_vt hv [] []
    simpa using this
  refine ⟨p, _, rfl, SqL.of upd_same, by omega, fun w hw' => Nat.le_trans (hs2 w hw') (by omega), fun H1 g1 hno => absurd hgf (hno _), fun r us g H1 g1 hg hr' hd => ?_⟩
  obtain rfl : [d] = g := by rw [hgf] at hg; cases hg; rfl
  cases hd with
  | cons hd0 hd1 =>
    cases hd1
    rename_i u
    have gH := g0.trans g1
    generalize upd H p (.lst ((toks n d).map V.str)) = H0 at g0 g1 ⊢
    refine ite2 (fun e => nomatch (of_decide_eq_true e)) fun _ => ?_
    refine ⟨r, rfl, [u], .inl (SqL.of hr'), ?_⟩
    have hix : ∀ {H2 : Hp} {Q2 : VK}, Same H1 H2 → Q2 u H2 → rIxL K (V.ref r) (V.int 0) H2 Q2 := fun g2 q2 => ⟨r, [u], 0, u, rfl, rfl, SqL.of (g2 _ _ hr'), atI_nat (j := 0) rfl, q2⟩
    refine ⟨rfl, _, rfl, ite2 (fun e => by simp at e) fun _ => hix (fun _ _ e => e) ?_⟩
    refine ⟨u, d, rfl, hd0, va_of_vt hv, fun H2 g2 => ⟨true, rfl, ite2 (fun e => nomatch e) fun _ => hix g2 ?_⟩⟩
    refine ⟨u, d, rfl, hd0.mono g2, ⟨va_of_vt hv, by omega⟩, fun H3 g3 => ⟨rfl, _, rfl, ite2 (fun e => by simp at e) fun _ => hix (g2.trans g3) ?_⟩⟩
    exact q u H3 ((gH.trans g2).trans g3) ((hd0.mono g2).mono g3)
end
end Rm

set_option Elab.async false
set_option linter.all false
set_option maxRecDepth 100000
set_option maxHeartbeats 4000000
/-! list(zip(a, b)): the pairs stay alive, so the zip makes a new one at each turn -/
namespace Rm
open PySem PySem.Spec PyProof.Rows L2
section
variable {prog : Program} {w : World} {A : Around} {E : Value → Shared → Prop} {s : Shared} {z TI TO i1 i2 T : Addr} {fp1 fp2 : List Addr} {n1 n2 i : Nat} {P1 P2 : Nat → Value → Prop} {St1 St2 : Nat → Heap → Prop} {f : Bool} {oT : Obj}
theorem zh_item {Q : Value → Shared → Prop} (S : ZipSep2 z TI TO i1 i2 fp1 fp2) (D1 : Draws prog w A i1 fp1 n1 P1 St1) (D2 : Draws prog w A i2 fp2 n2 P2 St2)
    (hz : IsZipHeld s.heap z TI TO T f) (hT : s.heap.get? T = some oT) (hTI : IsTupOf2 s.heap TI (.ref i1) (.ref i2)) (st1 : St1 i s.heap) (st2 : St2 i s.heap) (hlt1 : i < n1) (hlt2 : i < n2)
    (hQ : ∀ x1 x2 h' tk, P1 i x1 → P2 i x2 → IsZipHeld h' z TI TO T true → St1 (i + 1) h' → St2 (i + 1) h' → IsTupOf2 h' s.heap.objs.size x1 x2 → h'.objs.size = s.heap.objs.size + 1 →
      (∀ c o, c ≠ z → c ≠ i1 → c ≠ i2 → s.heap.get? c = some o → h'.get? c = some o) → Q (.ref s.heap.objs.size) { s with heap := h', toks := tk }) :
    wpAny (model prog w) A (Builtin.«zip.__next__» ⟨[.ref z], []⟩) (fun fin s' => ∃ v, fin = .done (.ret v) ∧ Q v s') E s := by
  obtain ⟨hp, g, d, tk0, os⟩ := s
  show wpAny _ _ (field (.ref z) 2 >>= _) _ _ _
  refine wpAny_bind (wpAny_field hz rfl (x := .bool false) rfl ?_)
  show wpAny _ _ (field (.ref z) 3 >>= _) _ _ _
  refine wpAny_bind (wpAny_field hz rfl (x := .ref TI) rfl ?_)
  refine wpAny_bind (wpAny_seqItems hTI rfl ?_)
  show wpAny _ _ (Builtin.SmallTypes.ownedTupleIsFree (.ref z) >>= _) _ _ _
  refine wpAny_bind (wpAny_tupleHeld_zip hz hT fun h₁ hz₁ hs₁ => ?_)
  replace hs₁ : Heap.SameBut z hp h₁ := hs₁
  simp only [Bool.false_eq_true, if_false]
  refine wpAny_bind ?_
  rw [← Array.forIn_toList]
  simp only [List.forIn_cons, List.forIn_nil]
  refine wpAny_bind (wpAny_bind (wpAny_holding ?_))
  show wpAny _ _ (Builtin.SmallTypes.nextOf (.ref i1) >>= _) _ _ ⟨h₁, g, d, tk0, os⟩
  refine wpAny_bind (D1.item i _ _ _ hlt1 (D1.over st1 hs₁ S.zf1) fun x1 p1 tk1 hx1 sn1 hp1 => wpAny_pure ?_)
  replace hp1 : Heap.SameBut i1 h₁ p1 := hp1
  refine wpAny_pure ?_
  refine wpAny_bind (wpAny_bind (wpAny_holding ?_))
  show wpAny _ _ (Builtin.SmallTypes.nextOf (.ref i2) >>= _) _ _ ⟨p1, g, d, tk1, os⟩
  refine wpAny_bind (D2.item i _ _ _ hlt2 (D2.over (D2.over st2 hs₁ S.zf2) hp1 S.sep1_2) fun x2 p2 tk2 hx2 sn2 hp2 => wpAny_pure ?_)
  replace hp2 : Heap.SameBut i2 p1 p2 := hp2
  refine wpAny_pure (wpAny_pure ?_)
  show wpAny _ _ (newTuple [x1, x2] >>= _) _ _ _
  refine wpAny_bind (wpAny_newTuple ?_)
  have hsz : p2.objs.size = hp.objs.size := by rw [hp2.1, hp1.1, hs₁.1]
  have hz₃ : IsZipHeld p2 z TI TO T true := hp2.extBut _ _ S.zi2 (hp1.extBut _ _ S.zi1 hz₁)
  have hk : ∀ c o, c ≠ z → c ≠ i1 → c ≠ i2 → hp.get? c = some o → p2.get? c = some o := fun c o c1 c2 c3 e => hp2.extBut _ _ c3 (hp1.extBut _ _ c2 (hs₁.extBut _ _ c1 e))
  have h1₃ : St1 (i + 1) p2 := D1.over sn1 hp2 S.sep2_1
  refine wpAny_pure ⟨_, rfl, ?_⟩
  show Q (.ref p2.objs.size) _
  have hpp : IsTupOf2 (p2.push { cls := .type "tuple", data := .seq #[x1, x2] }) p2.objs.size x1 x2 := Heap.get?_push_size _ rfl
  have hz4 : (p2.push { cls := .type "tuple", data := .seq #[x1, x2] }).objs.size = p2.objs.size + 1 := Heap.size_push ..
  rw [hsz] at hpp hz4 ⊢
  exact hQ x1 x2 _ tk2 hx1 hx2 (Heap.get?_push_of_some _ hz₃) (D1.frame _ _ _ h1₃ fun b _ o e => Heap.get?_push_of_some _ e) (D2.frame _ _ _ sn2 fun b _ o e => Heap.get?_push_of_some _ e) hpp hz4 fun c o c1 c2 c3 e => Heap.get?_push_of_some _ (hk c o c1 c2 c3 e)
theorem zh_end {Q : Fin → Shared → Prop} (S : ZipSep2 z TI TO i1 i2 fp1 fp2) (D1 : Draws prog w A i1 fp1 n1 P1 St1) (D2 : Draws prog w A i2 fp2 n2 P2 St2)
    (hz : IsZipHeld s.heap z TI TO T f) (hT : s.heap.get? T = some oT) (hTI : IsTupOf2 s.heap TI (.ref i1) (.ref i2)) (st1 : St1 n1 s.heap)
    (hE : ∀ h' tk e, (∀ c o, c ≠ z → c ≠ i1 → c ≠ i2 → s.heap.get? c = some o → h'.get? c = some o) → (∃ o, h'.get? e = some o ∧ o.cls = .type "StopIteration") → E (.ref e) { s with heap := h', toks := tk }) :
    wpAny (model prog w) A (Builtin.«zip.__next__» ⟨[.ref z], []⟩) Q E s := by
  obtain ⟨hp, g, d, tk0, os⟩ := s
  show wpAny _ _ (field (.ref z) 2 >>= _) _ _ _
  refine wpAny_bind (wpAny_field hz rfl (x := .bool false) rfl ?_)
  show wpAny _ _ (field (.ref z) 3 >>= _) _ _ _
  refine wpAny_bind (wpAny_field hz rfl (x := .ref TI) rfl ?_)
  refine wpAny_bind (wpAny_seqItems hTI rfl ?_)
  show wpAny _ _ (Builtin.SmallTypes.ownedTupleIsFree (.ref z) >>= _) _ _ _
  refine wpAny_bind (wpAny_tupleHeld_zip hz hT fun h₁ hz₁ hs₁ => ?_)
  replace hs₁ : Heap.SameBut z hp h₁ := hs₁
  simp only [Bool.false_eq_true, if_false]
  refine wpAny_bind ?_
  rw [← Array.forIn_toList]
  simp only [List.forIn_cons, List.forIn_nil]
  refine wpAny_bind (wpAny_bind (wpAny_holding ?_))
  show wpAny _ _ (Builtin.SmallTypes.nextOf (.ref i1) >>= _) _ _ ⟨h₁, g, d, tk0, os⟩
  refine wpAny_bind (D1.done _ _ _ (D1.over st1 hs₁ S.zf1) fun h₂ e hs₂ he => ?_)
  exact hE h₂ tk0 e (fun c o c1 c2 _ x => hs₂ _ _ c2 (hs₁.extBut _ _ c1 x)) he
theorem zh_next {Q : Option Value → Shared → Prop} (S : ZipSep2 z TI TO i1 i2 fp1 fp2) (D1 : Draws prog w A.in1 i1 fp1 n1 P1 St1) (D2 : Draws prog w A.in1 i2 fp2 n2 P2 St2)
    (hz : IsZipHeld s.heap z TI TO T f) (hT : s.heap.get? T = some oT) (hTI : IsTupOf2 s.heap TI (.ref i1) (.ref i2)) (st1 : St1 i s.heap) (st2 : St2 i s.heap) (hlt1 : i < n1) (hlt2 : i < n2)
    (hQ : ∀ x1 x2 h' tk, P1 i x1 → P2 i x2 → IsZipHeld h' z TI TO T true → St1 (i + 1) h' → St2 (i + 1) h' → IsTupOf2 h' s.heap.objs.size x1 x2 → h'.objs.size = s.heap.objs.size + 1 →
      (∀ c o, c ≠ z → c ≠ i1 → c ≠ i2 → s.heap.get? c = some o → h'.get? c = some o) → Q (some (.ref s.heap.objs.size)) { s with heap := h', toks := tk }) :
    wpAny (model prog w) A (pyNext (.ref z)) Q E s := by
  have hTy : s.TypeIs (.ref z) "zip" := ⟨_, hz, rfl⟩
  unfold pyNext
  exact wpAny_bind (wpAny_attempt (wpAny_callSpecial?_slot (name := Str.ofString "__next__") hTy F.slot_zip_next
    (wpAny_call_entry F.slot_zip_next hTy F.entry_zip_next
      (zh_item S D1 D2 hz hT hTI st1 st2 hlt1 hlt2 fun x1 x2 h' tk a1 a2 a3 a4 a5 a6 a7 a8 => wpAny_pure (hQ x1 x2 h' tk a1 a2 a3 a4 a5 a6 a7 a8)) (F.args_zip_next_1 _))))
theorem zh_stop {Q : Option Value → Shared → Prop} (S : ZipSep2 z TI TO i1 i2 fp1 fp2) (D1 : Draws prog w A.in1 i1 fp1 n1 P1 St1) (D2 : Draws prog w A.in1 i2 fp2 n2 P2 St2)
    (hz : IsZipHeld s.heap z TI TO T f) (hT : s.heap.get? T = some oT) (hTI : IsTupOf2 s.heap TI (.ref i1) (.ref i2)) (st1 : St1 n1 s.heap)
    (hQ : ∀ h' tk, (∀ c o, c ≠ z → c ≠ i1 → c ≠ i2 → s.heap.get? c = some o → h'.get? c = some o) → Q none { s with heap := h', toks := tk }) : wpAny (model prog w) A (pyNext (.ref z)) Q E s := by
  have hTy : s.TypeIs (.ref z) "zip" := ⟨_, hz, rfl⟩
  unfold pyNext
  refine wpAny_bind (wpAny_attempt (wpAny_callSpecial?_slot (name := Str.ofString "__next__") hTy F.slot_zip_next
    (wpAny_call_entry F.slot_zip_next hTy F.entry_zip_next (zh_end S D1 D2 hz hT hTI st1 fun h' tk e hk he => ?_) (F.args_zip_next_1 _))))
  obtain ⟨o, ho, hc⟩ := he
  refine wpAny_bind (wpAny_isInstance (T := "StopIteration") (b := true) ⟨o, ho, hc⟩ isSubtype_stop ?_)
  exact wpAny_pure (hQ _ _ hk)
end

theorem zip_no_len : typeLookup (.type "zip") "__len__" = pure none := by rw [typeLookup_type, builtinLookup_eq_fast]; kernel_rfl
theorem zip_no_hint : typeLookup (.type "zip") "__length_hint__" = pure none := by rw [typeLookup_type, builtinLookup_eq_fast]; kernel_rfl
/-- a zip over two iterators, i pairs made; ts: those alive -/
structure ZSt (z TI TO i1 i2 : Addr) (St1 St2 : Nat → Heap → Prop) (ts : List Addr) (i : Nat) (h : Heap) : Prop where
  hTI : IsTupOf2 h TI (.ref i1) (.ref i2)
  hTO : ∃ a1 a2, IsTupOf2 h TO a1 a2
  st1 : St1 i h
  st2 : St2 i h
  hz : IsZip h z TI TO .none ∨ ∃ T f, T ∈ ts ∧ IsZipHeld h z TI TO T f
theorem ZSt.type {z TI TO i1 i2 : Addr} {St1 St2 : Nat → Heap → Prop} {ts : List Addr} {i : Nat} {s : Shared} (h : ZSt z TI TO i1 i2 St1 St2 ts i s.heap) : s.TypeIs (.ref z) "zip" := by
  rcases h.hz with q | ⟨T, f, _, q⟩
  · exact ⟨_, q, rfl⟩
  · exact ⟨_, q, rfl⟩
theorem ZSt.keep {prog : Program} {w : World} {A : Around} {z TI TO i1 i2 : Addr} {fp1 fp2 : List Addr} {n1 n2 : Nat} {P1 P2 : Nat → Value → Prop} {St1 St2 : Nat → Heap → Prop} {ts : List Addr} {i : Nat} {h h' : Heap} {L : Addr}
    (D1 : Draws prog w A i1 fp1 n1 P1 St1) (D2 : Draws prog w A i2 fp2 n2 P2 St2) (x : ZSt z TI TO i1 i2 St1 St2 ts i h) (k : ∀ b o, b ≠ L → h.get? b = some o → h'.get? b = some o) (lz : z ≠ L) (lI : TI ≠ L) (lO : TO ≠ L) (l1 : L ∉ fp1) (l2 : L ∉ fp2) :
    ZSt z TI TO i1 i2 St1 St2 ts i h' := by
  obtain ⟨hTI, ⟨a1, a2, hTO⟩, st1, st2, hz⟩ := x
  refine ⟨k _ _ lI hTI, ⟨a1, a2, k _ _ lO hTO⟩, D1.frame _ _ _ st1 fun b hb o e => k b o (fun q => l1 (q ▸ hb)) e, D2.frame _ _ _ st2 fun b hb o e => k b o (fun q => l2 (q ▸ hb)) e, ?_⟩
  rcases hz with q | ⟨T, f, h1, q⟩
  · exact .inl (k _ _ lz q)
  · exact .inr ⟨T, f, h1, k _ _ lz q⟩
section
variable {prog : Program} {w : World} {A : Around} {E : Value → Shared → Prop} {s : Shared} {z TI TO i1 i2 : Addr} {fp1 fp2 : List Addr} {n i : Nat} {P1 P2 : Nat → Value → Prop} {St1 St2 : Nat → Heap → Prop} {ts : List Addr}
theorem zs_next {Q : Option Value → Shared → Prop} (S : ZipSep2 z TI TO i1 i2 fp1 fp2) (D1 : Draws prog w A.in1 i1 fp1 n P1 St1) (D2 : Draws prog w A.in1 i2 fp2 n P2 St2) (st : ZSt z TI TO i1 i2 St1 St2 ts i s.heap) (al : ∀ T ∈ ts, ∃ o, s.heap.get? T = some o) (hi : i < n)
    (hQ : ∀ x1 x2 h' tk, P1 i x1 → P2 i x2 → ZSt z TI TO i1 i2 St1 St2 (ts ++ [s.heap.objs.size]) (i + 1) h' → IsTupOf2 h' s.heap.objs.size x1 x2 → (∀ c o, c ∉ [z, TI, TO, i1, i2] → s.heap.get? c = some o → h'.get? c = some o) → Q (some (.ref s.heap.objs.size)) { s with heap := h', toks := tk }) :
    wpAny (model prog w) A (pyNext (.ref z)) Q E s := by
  obtain ⟨hTI, ⟨a1, a2, hTO⟩, st1, st2, hz⟩ := st
  rcases hz with hz | ⟨T, f, hm, hz⟩
  · refine wpAny_pyNext_zipD2_item S D1 D2 hz hTI hTO st1 st2 hi hi fun x1 x2 h' tk p1 p2 z' TO' q1 q2 hT _ hk => ?_
    refine hQ x1 x2 h' tk p1 p2 ⟨hk _ _ S.TIz S.TITO S.TIi1 S.TIi2 hTI, ⟨_, _, TO'⟩, q1, q2, .inr ⟨_, false, by simp, z'⟩⟩ hT fun c o hc e => ?_
    exact hk c o (fun q => hc (by simp [q])) (fun q => hc (by simp [q])) (fun q => hc (by simp [q])) (fun q => hc (by simp [q])) e
  · obtain ⟨oT, hT⟩ := al T hm
    refine zh_next S D1 D2 hz hT hTI st1 st2 hi hi fun x1 x2 h' tk p1 p2 z' q1 q2 hT' _ hk => ?_
    refine hQ x1 x2 h' tk p1 p2 ⟨hk _ _ S.TIz S.TIi1 S.TIi2 hTI, ⟨_, _, hk _ _ S.TOz S.Ti1 S.Ti2 hTO⟩, q1, q2, .inr ⟨T, true, by simp [hm], z'⟩⟩ hT' fun c o hc e => ?_
    exact hk c o (fun q => hc (by simp [q])) (fun q => hc (by simp [q])) (fun q => hc (by simp [q])) e
theorem zs_stop {Q : Option Value → Shared → Prop} (S : ZipSep2 z TI TO i1 i2 fp1 fp2) (D1 : Draws prog w A.in1 i1 fp1 n P1 St1) (D2 : Draws prog w A.in1 i2 fp2 n P2 St2) (st : ZSt z TI TO i1 i2 St1 St2 ts n s.heap) (al : ∀ T ∈ ts, ∃ o, s.heap.get? T = some o)
    (hQ : ∀ h' tk, (∀ c o, c ∉ [z, TI, TO, i1, i2] → s.heap.get? c = some o → h'.get? c = some o) → Q none { s with heap := h', toks := tk }) :
    wpAny (model prog w) A (pyNext (.ref z)) Q E s := by
  obtain ⟨hTI, ⟨a1, a2, hTO⟩, st1, st2, hz⟩ := st
  rcases hz with hz | ⟨T, f, hm, hz⟩
  · refine wpAny_pyNext_zipD2_end S D1 D2 hz hTI hTO st1 st2 (Nat.le_refl _) (Nat.le_refl _) (.inl rfl) fun h' tk hk => hQ h' tk fun c o hc e => ?_
    exact hk c o (fun q => hc (by simp [q])) (fun q => hc (by simp [q])) (fun q => hc (by simp [q])) (fun q => hc (by simp [q])) e
  · obtain ⟨oT, hT⟩ := al T hm
    refine zh_stop S D1 D2 hz hT hTI st1 fun h' tk hk => hQ h' tk fun c o hc e => ?_
    exact hk c o (fun q => hc (by simp [q])) (fun q => hc (by simp [q])) (fun q => hc (by simp [q])) e
end
theorem vals_refs : ∀ {ts : List Addr} {us : List Value}, Vals (ts.map V.ref) us → us = ts.map Value.ref
  | [], _, h => by cases h; rfl
  | t :: ts, _, h => by
    cases h with
    | cons r rr =>
      cases r
      rw [vals_refs rr]
      rfl
theorem refs_vals : ∀ ts : List Addr, Vals (ts.map V.ref) (ts.map Value.ref)
  | [] => .nil
  | t :: ts => .cons rfl (refs_vals ts)
section
variable {X : Cx} {pins : List (Addr × Obj)} {σ : L2.St} {H : Hp} {z TI TO i1 i2 L : Addr} {fp1 fp2 : List Addr} {St1 St2 : Nat → Heap → Prop} {xs ys : List V} {its1 its2 : List Value} {A : Around} {R : Result → Shared → Prop} {res : Value}
/-- the pairs at ts -/
def Prs (xs ys : List V) (ts : List Addr) (H : Hp) : Prop := ∀ (j : Nat) (t : Addr), ts[j]? = some t → ∃ x y, xs[j]? = some x ∧ ys[j]? = some y ∧ H t = some (.tup [x, y])
theorem lz_loop (S : ZipSep2 z TI TO i1 i2 fp1 fp2) (D1 : Draws X.prog X.w A.in1.in1 i1 fp1 xs.length (fun j v => its1[j]? = some v) St1) (D2 : Draws X.prog X.w A.in1.in1 i2 fp2 xs.length (fun j v => its2[j]? = some v) St2) (hl : ys.length = xs.length) (hn : xs.length ≤ 1000) (v1 : Vals xs its1) (v2 : Vals ys its2)
    (lz : z ≠ L) (lI : TI ≠ L) (lO : TO ≠ L) (l1 : L ∉ fp1) (l2 : L ∉ fp2)
    (fin : ∀ Hf ts s', Inv X pins σ Hf s' → Same H Hf → Hf L = some (.lst (ts.map V.ref)) → ts.length = xs.length → Prs xs ys ts Hf → R (.ok (.ret res)) s') (hL : H L = none) :
    ∀ (k i : Nat) (s : Shared) (Hi : Hp) (ts : List Addr), xs.length - i = k → i ≤ xs.length → Inv X pins σ Hi s → Same H Hi → Hi L = some (.lst (ts.map V.ref)) → ts.length = i → Prs xs ys ts Hi → ZSt z TI TO i1 i2 St1 St2 ts i s.heap → (∀ b ∈ [z, TI, TO, i1, i2], FpOk X pins Hi b) →
      codeAny (model X.prog X.w) A (.builtin "list.extend.loop" ⟨[.ref L, .ref z, res], []⟩) R s := by
  intro k
  induction k with
  | zero =>
    intro i s Hi ts hk hi I g hLi hts hp st hf
    have hin : i = xs.length := by omega
    subst hin
    have al : ∀ T ∈ ts, ∃ o, s.heap.get? T = some o := fun T hT => by
      obtain ⟨j, hj⟩ := List.getElem?_of_mem hT
      obtain ⟨x, y, _, _, e⟩ := hp j T hj
      obtain ⟨_, _, _, ⟨o, ho, _⟩⟩ := I.hok _ _ e
      exact ⟨o, ho⟩
    refine codeAny_builtin F.entry_extend_loop ?_
    rw [Around.under_plainId F.plain_extend_loop _]
    show wpAny _ A.in1 (pyNext (.ref z) >>= _) _ _ s
    refine wpAny_bind (zs_stop S D1 D2 st al fun h' tk hk => ?_)
    exact wpAny_pure (fin Hi ts _ (I.turnedL (t' := tk) (ch := [z, TI, TO, i1, i2]) hk hf) g hLi hts hp)
  | succ k ih =>
    intro i s Hi ts hk hi I g hLi hts hp st hf
    have hlt : i < xs.length := by omega
    have al : ∀ T ∈ ts, ∃ o, s.heap.get? T = some o := fun T hT => by
      obtain ⟨j, hj⟩ := List.getElem?_of_mem hT
      obtain ⟨x, y, _, _, e⟩ := hp j T hj
      obtain ⟨_, _, _, ⟨o, ho, _⟩⟩ := I.hok _ _ e
      exact ⟨o, ho⟩
    refine codeAny_builtin F.entry_extend_loop ?_
    rw [Around.under_plainId F.plain_extend_loop _]
    show wpAny _ A.in1 (pyNext (.ref z) >>= _) _ _ s
    refine wpAny_bind (zs_next S D1 D2 st al hlt fun u1 u2 h' tk p1 p2 st' hT hk' => ?_)
    obtain ⟨x, hx, rx⟩ : ∃ x, xs[i]? = some x ∧ RelV x u1 := by
      have hx : xs[i]? = some xs[i] := List.getElem?_eq_getElem hlt
      obtain ⟨u, hu, ru⟩ := v1.get hx
      rw [hu] at p1
      cases p1
      exact ⟨_, hx, ru⟩
    obtain ⟨y, hy, ry⟩ : ∃ y, ys[i]? = some y ∧ RelV y u2 := by
      have hy : ys[i]? = some (ys[i]'(by omega)) := List.getElem?_eq_getElem (by omega)
      obtain ⟨u, hu, ru⟩ := v2.get hy
      rw [hu] at p2
      cases p2
      exact ⟨_, hy, ru⟩
    have new : ObjOk X.prog X.w (upd Hi s.heap.objs.size (.tup [x, y])) h' s.heap.objs.size (.tup [x, y]) :=
      ⟨by show 2 ≤ sizeLine; decide, [u1, u2], .cons rx (.cons ry .nil), ⟨_, hT, rfl, _, rfl⟩⟩
    have hnT : Hi s.heap.objs.size = none := I.hok.fresh (Nat.le_refl _)
    have I1 : Inv X pins σ (upd Hi s.heap.objs.size (.tup [x, y])) { s with heap := h', toks := tk } := I.turnedNew (t' := tk) (ch := [z, TI, TO, i1, i2]) hk' hf (Nat.le_refl _) new
    have g1 : Same Hi (upd Hi s.heap.objs.size (.tup [x, y])) := same_new hnT _
    have hT1 : upd Hi s.heap.objs.size (.tup [x, y]) s.heap.objs.size = some (.tup [x, y]) := upd_same
    have hf1 : ∀ b ∈ [z, TI, TO, i1, i2], FpOk X pins (upd Hi s.heap.objs.size (.tup [x, y])) b := fun b hb => by
      have q := hf b hb
      refine ⟨?_, q.2⟩
      have hlt' : b < s.heap.objs.size := by
        obtain ⟨hTI, ⟨a1, a2, hTO⟩, st1, st2, hz⟩ := st
        have e' : b = z ∨ b = TI ∨ b = TO ∨ b = i1 ∨ b = i2 := by simpa using hb
        rcases e' with e | e | e | e | e
        · rw [e]
          rcases hz with q | ⟨_, _, _, q⟩
          · exact Heap.lt_size q
          · exact Heap.lt_size q
        · rw [e]; exact Heap.lt_size hTI
        · rw [e]; exact Heap.lt_size hTO
        · rw [e]; obtain ⟨_, q⟩ := D1.live _ _ st1; exact Heap.lt_size q
        · rw [e]; obtain ⟨_, q⟩ := D2.live _ _ st2; exact Heap.lt_size q
      rw [upd_ne (Nat.ne_of_lt hlt')]
      exact q.1
    have hL1 := g1 _ _ hLi
    have nLT : L ≠ s.heap.objs.size := ne_of_none hLi hnT
    obtain ⟨zl, us, c, rv, hLo⟩ := I1.hok _ _ hL1
    obtain rfl := vals_refs rv
    show wpAny _ A.in1 (updateSeq L (·.push (.ref s.heap.objs.size)) >>= _) _ _ _
    refine wpAny_bind ?_
    have hsz : (ts.map Value.ref).toArray.size = i := by simp [hts]
    refine wpAny_updateSeq hLo rfl (wpAny_pure ⟨plainId_quiet F.plain_extend_loop _, ?_⟩) (by rw [hsz]; exact Nat.le_trans (show i ≤ 1000 by omega) (by decide)) (by rw [Array.size_push, hsz]; exact Nat.le_trans (show i + 1 ≤ 1001 by omega) (by decide))
    have keep3 : ∀ b o, b ≠ L → h'.get? b = some o → (h'.update L (Obj.mapSeq (·.push (.ref s.heap.objs.size)))).get? b = some o := fun b o hb e => (Heap.get?_update_other _ _ (Ne.symm hb)).trans e
    have hLs := Heap.get?_update_self (Obj.mapSeq (·.push (Value.ref s.heap.objs.size))) hLo rfl
    have newL : ObjOk X.prog X.w (upd (upd Hi s.heap.objs.size (.tup [x, y])) L (.lst ((ts ++ [s.heap.objs.size]).map V.ref))) (h'.update L (Obj.mapSeq (·.push (.ref s.heap.objs.size)))) L (.lst ((ts ++ [s.heap.objs.size]).map V.ref)) := by
      refine ⟨?_, (ts ++ [s.heap.objs.size]).map Value.ref, c + 1, refs_vals _, ?_⟩
      · simp only [List.length_map, List.length_append, List.length_singleton, hts]
        exact Nat.le_trans (show i + 1 ≤ 1001 by omega) (by decide)
      · rw [hLs]
        simp [Obj.mapSeq]
    have I2 := I1.write (x := L) (e := L) (t' := tk) (by rw [hL1]; trivial) (.inl rfl) (fun b u hb e => keep3 b u hb e) ⟨_, hLs⟩ newL
    refine ih (i + 1) _ _ (ts ++ [s.heap.objs.size]) (by omega) hlt I2 ?_ upd_same (by simp [hts]) ?_ (st'.keep D1 D2 keep3 lz lI lO l1 l2) ?_
    · intro b o e
      rw [upd_ne (ne_of_none e hL)]
      exact g1 _ _ (g _ _ e)
    · intro j t hj
      by_cases hjl : j < ts.length
      · rw [List.getElem?_append_left hjl] at hj
        obtain ⟨x', y', e1, e2, e3⟩ := hp j t hj
        refine ⟨x', y', e1, e2, ?_⟩
        have e4 := g1 _ _ e3
        rw [upd_ne (fun q => by rw [q, hL1] at e4; cases e4)]
        exact e4
      · rw [List.getElem?_append_right (by omega)] at hj
        have h0 : j - ts.length = 0 := by
          by_cases h : j - ts.length = 0
          · exact h
          · rw [List.getElem?_eq_none (by simp; omega)] at hj
            cases hj
        rw [h0] at hj
        have ht : s.heap.objs.size = t := by simpa using hj
        have hji : j = i := by omega
        rw [hji, ← ht]
        refine ⟨x, y, hx, hy, ?_⟩
        rw [upd_ne nLT.symm]
        exact hT1
    · intro b hb
      have q := hf1 b hb
      refine ⟨?_, q.2⟩
      rw [upd_ne (fun e => by have := q.1; rw [e, hL1] at this; cases this)]
      exact q.1
end

section
variable {X : Cx} {pins : List (Addr × Obj)} {σ : L2.St} {H : Hp} {s : Shared} {z TI TO i1 i2 : Addr} {fp1 fp2 : List Addr} {St1 St2 : Nat → Heap → Prop} {xs ys : List V} {its1 its2 : List Value} {A : Around}
theorem call_lz {Q : Value → Shared → Prop} {E : Value → Shared → Prop} (S : ZipSep2 z TI TO i1 i2 fp1 fp2) (D1 : Draws X.prog X.w A.in1.in1.in1 i1 fp1 xs.length (fun j v => its1[j]? = some v) St1) (D2 : Draws X.prog X.w A.in1.in1.in1 i2 fp2 xs.length (fun j v => its2[j]? = some v) St2) (hl : ys.length = xs.length) (hn : xs.length ≤ 1000) (v1 : Vals xs its1) (v2 : Vals ys its2)
    (f1 : ∀ b ∈ fp1, b < s.heap.objs.size) (f2 : ∀ b ∈ fp2, b < s.heap.objs.size) (I : Inv X pins σ H s) (st : ZSt z TI TO i1 i2 St1 St2 [] 0 s.heap) (hf : ∀ b ∈ [z, TI, TO, i1, i2], FpOk X pins H b)
    (fin : ∀ L Hf ts s', Inv X pins σ Hf s' → Same H Hf → Hf L = some (.lst (ts.map V.ref)) → ts.length = xs.length → Prs xs ys ts Hf → Q (.ref L) s') :
    wpAny (model X.prog X.w) A (call (.type "list") [.ref z]) Q E s := by
  have lt : ∀ {b o}, s.heap.get? b = some o → b ≠ s.heap.objs.size := fun e => Nat.ne_of_lt (Heap.lt_size e)
  have lz : z ≠ s.heap.objs.size := by
    rcases st.hz with q | ⟨_, _, _, q⟩
    · exact lt q
    · exact lt q
  have lI : TI ≠ s.heap.objs.size := lt st.hTI
  have lO : TO ≠ s.heap.objs.size := by obtain ⟨_, _, q⟩ := st.hTO; exact lt q
  have l1 : s.heap.objs.size ∉ fp1 := fun h => Nat.lt_irrefl _ (f1 _ h)
  have l2 : s.heap.objs.size ∉ fp2 := fun h => Nat.lt_irrefl _ (f2 _ h)
  refine callType_codes (Q₁ := fun obj s₁ => obj = .ref s.heap.objs.size ∧ s₁ = { s with heap := s.heap.push { cls := .type "list", data := .seq #[] } }) F.called_list (F.typeCall_list_1 _) F.entry_list_init
    (code_list_new _ ⟨rfl, rfl⟩) fun obj s₁ h₁ => ?_
  obtain ⟨rfl, rfl⟩ := h₁
  have hS : (s.heap.push { cls := .type "list", data := .seq #[] }).get? s.heap.objs.size = some { cls := .type "list", data := .seq #[] } := Heap.get?_push_size _ rfl
  refine ⟨⟨_, hS, rfl⟩, F.args_list_init_2 _ _, ?_⟩
  show wpAny _ A.in1.in1 (do let old ← Builtin.List.listItems (.ref s.heap.objs.size); Builtin.List.listUpdate (.ref s.heap.objs.size) (fun _ => #[]); letGo old.toList.reverse; Builtin.List.listExtendWith (.ref s.heap.objs.size) (.ref z) .none) _ _ _
  refine wpAny_bind ?_
  unfold Builtin.List.listItems
  refine wpAny_bind (wpAny_seqItems hS rfl (wpAny_pure ?_))
  show wpAny _ A.in1.in1 (updateSeq s.heap.objs.size (fun _ => #[]) >>= fun _ => letGo (#[] : Array Value).toList.reverse >>= fun _ => Builtin.List.listExtendWith (.ref s.heap.objs.size) (.ref z) .none) _ _ _
  refine wpAny_bind (wpAny_updateSeq hS rfl ?_)
  have hS2 := Heap.get?_update_self (Obj.mapSeq (fun _ => (#[] : Array Value))) hS rfl
  refine wpAny_bind (wpAny_letGo ?_)
  unfold Builtin.List.listExtendWith
  have up : ∀ (h : Heap) (f : Obj → Obj), (∀ b o, s.heap.get? b = some o → h.get? b = some o) → ∀ b o, s.heap.get? b = some o → (h.update s.heap.objs.size f).get? b = some o := fun h f q b o e =>
    (Heap.get?_update_other _ _ (Ne.symm (Nat.ne_of_lt (Heap.lt_size e)))).trans (q b o e)
  have k1 : ∀ b o, s.heap.get? b = some o → (s.heap.push { cls := .type "list", data := .seq #[] }).get? b = some o := fun b o e => Heap.get?_push_of_some _ e
  have k2 := up _ (Obj.mapSeq (fun _ => (#[] : Array Value))) k1
  have gst : ∀ {h : Heap}, (∀ b o, s.heap.get? b = some o → h.get? b = some o) → ZSt z TI TO i1 i2 St1 St2 [] 0 h := fun {h} q => st.keep D1 D2 (L := s.heap.objs.size) (fun b o _ e => q b o e) lz lI lO l1 l2
  refine wpAny_bind (wpAny_typeOf (ZSt.type (s := { s with heap := _ }) (gst k2)) ?_)
  have h1 : Builtin.List.listSameRef (.ref s.heap.objs.size) (.ref z) = false := by simp [Builtin.List.listSameRef, lz.symm]
  have h2 : (Value.type "zip" == Value.type "list") = false := by decide
  have h3 : (Value.type "zip" == Value.type "tuple") = false := by decide
  simp only [h1, h2, h3, Bool.or_false, Bool.false_eq_true, if_false]
  have hzz : ∀ {h : Heap}, (∀ b o, s.heap.get? b = some o → h.get? b = some o) → IsZip h z TI TO .none := fun {h} q => by
    rcases (gst q).hz with q | ⟨_, _, q, _⟩
    · exact q
    · cases q
  refine wpAny_bind (wpAny_pyIter_zip (s := { s with heap := _ }) (hzz k2) ?_)
  refine wpAny_bind (wpAny_holding ?_)
  unfold Builtin.List.listLengthHint
  refine wpAny_bind (wpAny_specialOf (ZSt.type (s := { s with heap := _ }) (gst k2)) zip_no_len ?_)
  show wpAny _ A.in1.in1 (specialOf (Value.ref z) (Str.ofString "__length_hint__") >>= _) _ _ _
  refine wpAny_bind (wpAny_specialOf (ZSt.type (s := { s with heap := _ }) (gst k2)) zip_no_hint ?_)
  refine wpAny_pure ?_
  show wpAny _ A.in1.in1 (rule "list.extend.makes-room" >>= fun _ => Builtin.List.listTouch (.ref s.heap.objs.size) >>= fun _ =>
    again (.builtin "list.extend.loop" ⟨[.ref s.heap.objs.size, .ref z, .none], []⟩)) _ _ _
  refine wpAny_bind (wpAny_rule ?_)
  refine wpAny_bind ?_
  show wpAny _ A.in1.in1 (updateSeq s.heap.objs.size (·.push .none) >>= fun _ => updateSeq s.heap.objs.size (·.pop)) _ _ _
  refine wpAny_bind (wpAny_updateSeq hS2 rfl ?_)
  have hS3 := Heap.get?_update_self (Obj.mapSeq (·.push Value.none)) hS2 rfl
  refine wpAny_updateSeq (hz := by seq_fits) hS3 rfl ?_
  have hS4 := Heap.get?_update_self (Obj.mapSeq (·.pop)) hS3 rfl
  have k4 := up _ (Obj.mapSeq (·.pop)) (up _ (Obj.mapSeq (·.push Value.none)) k2)
  refine wpAny_pure ⟨plainId_quiet F.plain_extend_loop _, ?_⟩
  have hnL : H s.heap.objs.size = none := I.hok.fresh (Nat.le_refl _)
  have I1 := I.laid (a := s.heap.objs.size) (o := .lst []) (t' := s.toks) k4 (Nat.le_refl _) ⟨Nat.zero_le _, [], _, .nil, hS4⟩
  refine lz_loop (H := H) (A := A.in1) (L := s.heap.objs.size) (xs := xs) (ys := ys) S D1 D2 hl hn v1 v2 lz lI lO l1 l2 (fun Hf ts s' J g e1 e2 e3 => ⟨rfl, fin _ Hf ts s' J g e1 e2 e3⟩) hnL xs.length 0 _ _ [] (by omega) (Nat.zero_le _) I1 (same_new hnL _) upd_same rfl (fun j t e => by simp at e) (gst k4) fun b hb => ?_
  have q := hf b hb
  refine ⟨?_, q.2⟩
  have hb' : b = z ∨ b = TI ∨ b = TO ∨ b = i1 ∨ b = i2 := by simpa using hb
  have hne : b ≠ s.heap.objs.size := by
    rcases hb' with e | e | e | e | e
    · rw [e]; exact lz
    · rw [e]; exact lI
    · rw [e]; exact lO
    · rw [e]; obtain ⟨_, q⟩ := D1.live _ _ st.st1; exact lt q
    · rw [e]; obtain ⟨_, q⟩ := D2.live _ _ st.st2; exact lt q
  rw [upd_ne hne]
  exact q.1
end

section
variable {X : Cx} {e e2 : Expr} {ta : TA} {p pos p' pos' : Pos}
def tLZip (K : PySem.W.Frag) (ta : TA) : TE := fun σ H Q => ta σ H fun vs H1 => ∃ a b xs ys, vs = [.ref a, .ref b] ∧ ((SqL K H1 a xs ∧ SqL K H1 b ys) ∨ (SqT K H1 a xs ∧ SqT K H1 b ys)) ∧ ys.length = xs.length ∧ xs.length ≤ 1000 ∧
  ∀ L ts Hf, Same H1 Hf → Hf L = some (.lst (ts.map V.ref)) → ts.length = xs.length → Prs xs ys ts Hf → Q (.ref L) Hf
/-- list(zip(e, e2)) -/
theorem pe_lzip (hc : X.calm = true) (hgl : Gl X "list") (hml : X.mg "list" = none) (hgz : Gl X "zip") (hmz : X.mg "zip" = none) (ha : PA X [e, e2] ta)
    (hs : starEach [e, e2] X.env = (false, eval e X.env) :: starEach [e2] X.env := by rfl) (hpl : (backTo pos (starEach [e2] X.env)).any (·.1) = false := by rfl)
    (na : starEach [.Call (.Name "zip" p) [e, e2] [] pos] X.env = (false, eval (.Call (.Name "zip" p) [e, e2] [] pos) X.env) :: starEach [] X.env := by rfl) :
    PE X (.Call (.Name "list" p') [.Call (.Name "zip" p) [e, e2] [] pos] [] pos') (tLZip X.K ta) := by
  refine ⟨fun pins s σ H Q I h => ?_⟩
  have hd : ∀ {A : Around}, A.handled = X.A.handled → A.handled = none := fun e => by rw [e]; exact I.ok.hd hc
  refine Call_ (ld_blt I hgl hml boot_list (PyProof.Rows.callWith_type1 (args_cons (Q := fun us s1 => wpAny (model X.prog X.w) X.A (call (.type "list") us) (EP X pins σ Q) X.xe s1) ?_ na) na))
  refine Call_ (ld_blt I hgz hmz PyProof.Rows.boot_zip (PyProof.Rows.callWith_type1 (thn (ha.run pos pins s σ H _ I h) fun us s1 ⟨vs, H1, I1, r1, q1⟩ => ?_) hs hpl))
  obtain ⟨a, b, xs, ys, ex, hq, hl, hn, q⟩ := q1
  subst ex
  cases r1 with
  | cons r rr =>
    cases rr with
    | cons r' rr =>
      cases rr
      cases r
      cases r'
      have fresh5 : ∀ c, c ∈ [s1.heap.objs.size + 4, s1.heap.objs.size + 2, s1.heap.objs.size + 3, s1.heap.objs.size, s1.heap.objs.size + 1] → FpOk X pins H1 c := fun c hcm => by
        have e' : c = s1.heap.objs.size + 4 ∨ c = s1.heap.objs.size + 2 ∨ c = s1.heap.objs.size + 3 ∨ c = s1.heap.objs.size ∨ c = s1.heap.objs.size + 1 := by simpa using hcm
        have hle : s1.heap.objs.size ≤ c := by
          rcases e' with z | z | z | z | z
          · rw [z]; exact Nat.le_add_right _ _
          · rw [z]; exact Nat.le_add_right _ _
          · rw [z]; exact Nat.le_add_right _ _
          · rw [z]; exact Nat.le_refl _
          · rw [z]; exact Nat.le_add_right _ _
        exact I1.fpOk hle (I1.hok.fresh hle)
      rcases hq with ⟨hqx, hqy⟩ | ⟨hqx, hqy⟩
      · obtain ⟨its, rv, p1, _⟩ := I1.list hqx
        obtain ⟨its2, rv2, p2, _⟩ := I1.list hqy
        refine zip_begins2 (begins_list a its.toArray) (begins_list b its2.toArray) p1.isList p2.isList fun h' hz hTI hTO h1 h2 hsz hk => args_nil ?_
        have I2 : Inv X pins σ H1 { s1 with heap := h' } := I1.kept (t' := s1.toks) hk
        have la : a < s1.heap.objs.size := p1.lt
        have lb : b < s1.heap.objs.size := p2.lt
        have D1 := Draws.list (prog := X.prog) (w := X.w) (A := X.A.in1.in1.in1) (hd rfl) s1.heap.objs.size a (Nat.ne_of_lt la) its.toArray
        have D2 := Draws.list (prog := X.prog) (w := X.w) (A := X.A.in1.in1.in1) (hd rfl) (s1.heap.objs.size + 1) b (Nat.ne_of_lt (Nat.lt_succ_of_lt lb)) its2.toArray
        have e1 : its.toArray.size = xs.length := by simp [rv.length]
        have e2 : its2.toArray.size = xs.length := by rw [← hl]; simp [rv2.length]
        rw [e1] at D1
        rw [e2] at D2
        simp only [List.getElem?_toArray] at D1 D2
        refine call_lz (zip_sep2 (fp1 := [a]) (fp2 := [b]) (fun c hc => by rw [List.mem_singleton.mp hc]; exact la) (fun c hc => by rw [List.mem_singleton.mp hc]; exact lb)) (its1 := its) (its2 := its2) D1 D2 hl hn rv rv2 ?_ ?_ I2 ⟨hTI, ⟨_, _, hTO⟩, ⟨⟨_, h1, rfl, rfl⟩, ?_⟩, ⟨⟨_, h2, rfl, rfl⟩, ?_⟩, .inl hz⟩ fresh5 fun L Hf ts s' J g q1 q2 q3 => ⟨.ref L, Hf, J, rfl, q L ts Hf g q1 q2 q3⟩
        · intro c hc
          show c < h'.objs.size
          rw [hsz]
          rcases List.mem_cons.mp hc with z | z
          · rw [z]; exact Nat.lt_add_of_pos_right (by decide)
          · rw [List.mem_singleton.mp z]; exact Nat.lt_of_lt_of_le la (Nat.le_add_right _ _)
        · intro c hc
          show c < h'.objs.size
          rw [hsz]
          rcases List.mem_cons.mp hc with z | z
          · rw [z]; exact Nat.add_lt_add_left (by decide) _
          · rw [List.mem_singleton.mp z]; exact Nat.lt_of_lt_of_le lb (Nat.le_add_right _ _)
        · exact p1.isList.at fun o e => hk _ o e
        · exact p2.isList.at fun o e => hk _ o e
      · obtain ⟨its, rv, p1, _⟩ := I1.tuple hqx
        obtain ⟨its2, rv2, p2, _⟩ := I1.tuple hqy
        have t1 : s1.heap.IsTuple a its.toArray := p1
        have t2 : s1.heap.IsTuple b its2.toArray := p2
        refine zip_begins2 (begins_tuple a its.toArray) (begins_tuple b its2.toArray) t1 t2 fun h' hz hTI hTO h1 h2 hsz hk => args_nil ?_
        have I2 : Inv X pins σ H1 { s1 with heap := h' } := I1.kept (t' := s1.toks) hk
        have la : a < s1.heap.objs.size := by obtain ⟨o, ho, _⟩ := t1; exact Heap.lt_size ho
        have lb : b < s1.heap.objs.size := by obtain ⟨o, ho, _⟩ := t2; exact Heap.lt_size ho
        have D1 := Draws.tuple (prog := X.prog) (w := X.w) (A := X.A.in1.in1.in1) (hd rfl) s1.heap.objs.size a (Nat.ne_of_lt la) its.toArray
        have D2 := Draws.tuple (prog := X.prog) (w := X.w) (A := X.A.in1.in1.in1) (hd rfl) (s1.heap.objs.size + 1) b (Nat.ne_of_lt (Nat.lt_succ_of_lt lb)) its2.toArray
        have e1 : its.toArray.size = xs.length := by simp [rv.length]
        have e2 : its2.toArray.size = xs.length := by rw [← hl]; simp [rv2.length]
        rw [e1] at D1
        rw [e2] at D2
        simp only [List.getElem?_toArray] at D1 D2
        refine call_lz (zip_sep2 (fp1 := [a]) (fp2 := [b]) (fun c hc => by rw [List.mem_singleton.mp hc]; exact la) (fun c hc => by rw [List.mem_singleton.mp hc]; exact lb)) (its1 := its) (its2 := its2) D1 D2 hl hn rv rv2 ?_ ?_ I2 ⟨hTI, ⟨_, _, hTO⟩, ⟨⟨_, h1, rfl, rfl⟩, ?_⟩, ⟨⟨_, h2, rfl, rfl⟩, ?_⟩, .inl hz⟩ fresh5 fun L Hf ts s' J g q1 q2 q3 => ⟨.ref L, Hf, J, rfl, q L ts Hf g q1 q2 q3⟩
        · intro c hc
          show c < h'.objs.size
          rw [hsz]
          rcases List.mem_cons.mp hc with z | z
          · rw [z]; exact Nat.lt_add_of_pos_right (by decide)
          · rw [List.mem_singleton.mp z]; exact Nat.lt_of_lt_of_le la (Nat.le_add_right _ _)
        · intro c hc
          show c < h'.objs.size
          rw [hsz]
          rcases List.mem_cons.mp hc with z | z
          · rw [z]; exact Nat.add_lt_add_left (by decide) _
          · rw [List.mem_singleton.mp z]; exact Nat.lt_of_lt_of_le lb (Nat.le_add_right _ _)
        · exact t1.at fun o e => hk _ o e
        · exact t2.at fun o e => hk _ o e
end
end Rm

set_option Elab.async false
set_option linter.all false
set_option maxRecDepth 100000
set_option maxHeartbeats 4000000
namespace Rm
open PySem PySem.Spec PyProof.Rows L2
/-! ### _law_same of one datum twice -/
def sq : Nat → PyData → Prop
  | n + 1, .tuple ds => ds.length ≤ 1000 ∧ ∀ e ∈ ds, sq n e
  | n + 1, .list ds => ds.length ≤ 1000 ∧ ∀ e ∈ ds, sq n e
  | _, .int _ => True
  | _, .str _ => True
  | _, .bool _ => True
  | _, .none => True
  | _, _ => False
section
variable {P : Program} {w : World} {K : PySem.W.Frag} {mg : Str → Option Value} {base : Heap}
theorem isi_many {H : Hp} {v : V} {d : PyData} {p : Addr} {Q : VK} (ts : List String) (h : Dp K H v d) (hp : H p = none) (ht : ∀ t ∈ ts, t = "int" ∨ t = "bool" ∨ t = "str" ∨ t = "tuple" ∨ t = "list")
    (q : Q (.bl (ts.any (isT · d))) (upd H p (.tup (ts.map V.ty)))) : rIsiT K [v, .ref p] (upd H p (.tup (ts.map V.ty))) Q := by
  refine ⟨v, p, _, .type (tyN d), ts.map Value.type, _, rfl, upd_same, ?_, (Dp.mono (same_new hp _) h).tyx, kit_many h.nodict ts ht, q⟩
  clear q ht
  induction ts with
  | nil => exact .nil
  | cons t r ih => exact .cons (.ty _) ih
/-- a comprehension of any targets whose elements make new things at most -/
theorem lc_pureG {J : It} {n : Nat} {G : Hp → Prop} {Y : Nat → Hp → V → Hp → Prop} (w : Walk J n G Y) {g : TG} {te : TE} {vs : List Nat} {σ : L2.St} {H1 : Hp} {D : Addr} {Qd : Hp → Prop} (nD : H1 D = none) (hn : n ≤ 1000000)
    (R : Nat → V → Prop) (hG : ∀ H, Same H1 H → G H) (hY : ∀ i H x H', Y i H x H' → H' = H)
    (he : ∀ i x H Q, i < n → Same H1 H → Y i H x H → (∀ y H4, R i y → Same H H4 → Q y H4) → g x (wipe σ vs) H fun σ2 H2 => wipe σ2 vs = wipe σ vs ∧ te σ2 H2 Q)
    (hd : ∀ H ys, Same H1 H → ys.length = n → (∀ i y, ys[i]? = some y → R i y) → H D = some (.lst ys) → Qd H) :
    ∃ W : Nat → Nat → Hp → Prop, (∃ m, W 0 m (upd H1 D (.lst []))) ∧ ∀ i m H, W i m H →
      (J.stop i H ∧ Qd H) ∨ (J.go i H ∧ ∃ Nx : Hp → Prop, (∀ H', Nx H' → ∃ m', m' < m ∧ W (i + 1) m' H') ∧ ∀ x H', J.yld i H x H' → g x (wipe σ vs) H' fun σ2 H2 => wipe σ2 vs = wipe σ vs ∧ tYes σ2 H2 fun b H3 =>
        if b = true then te σ2 H3 fun y H4 => ∃ acc, H4 D = some (.lst acc) ∧ acc.length < sizeLine ∧ Nx (upd H4 D (.lst (acc ++ [y]))) else Nx H3) := by
  refine lc_it w (fun i H => Same H1 H ∧ ∃ ys, ys.length = i ∧ (∀ k y, ys[k]? = some y → R k y) ∧ H D = some (.lst ys)) ⟨same_new nD _, [], rfl, fun k y e => by simp at e, upd_same⟩ (fun i H _ p => hG H p.1) ?_ fun H p => ?_
  · rintro i x H H' hi ⟨g1, ys, hl, hR, hD⟩ hy
    obtain rfl := hY i H x H' hy
    unfold tYes
    simp only [if_true]
    refine he i x H' _ hi g1 hy fun y H4 r g2 => ⟨ys, g2 _ _ hD, ?_, ?_, ys ++ [y], ?_, ?_, upd_same⟩
    · exact Nat.lt_of_lt_of_le (show ys.length < 1000000 by omega) (by decide)
    · intro b o e
      rw [upd_ne (ne_of_none e nD)]
      exact g2 _ _ (g1 _ _ e)
    · rw [List.length_append, List.length_singleton, hl]
    · intro k z e
      by_cases hk : k < ys.length
      · rw [List.getElem?_append_left hk] at e
        exact hR k z e
      · rw [List.getElem?_append_right (by omega)] at e
        have h0 : k - ys.length = 0 := by
          by_cases h : k - ys.length = 0
          · exact h
          · rw [List.getElem?_eq_none (by simp; omega)] at e
            cases e
        rw [h0] at e
        have h1 : y = z := by simpa using e
        have h2 : k = i := by omega
        rw [h2, ← h1]
        exact r
  · obtain ⟨g1, ys, hl, hR, hD⟩ := p
    exact hd H ys g1 hl hR hD
theorem wipe2 (σ : L2.St) (i j : Nat) (v u : Option V) : wipe (((wipe σ [i, j]).set i v).set j u) [i, j] = wipe σ [i, j] := by
  simp only [wipe, List.foldl_cons, List.foldl_nil, List.foldr_cons, List.foldr_nil]
  by_cases h : i = j
  · subst h; simp
  · apply List.ext_getElem?
    intro k
    simp only [List.getElem?_set, List.length_set]
    by_cases h1 : j = k
    · simp [h1]
    · by_cases h2 : i = k
      · simp [h1, h2]
      · simp [h1, h2]
/-- .. over a list of pairs -/
theorem tLc_pairs {wi : TI} {te : TE} {j k : Nat} {σ : L2.St} {H : Hp} {Q : VK} {xs ys : List V} {ts : List Addr} (hp : Prs xs ys ts H)
    (hw : ∀ R : It → Hp → Prop, (∀ p H1, Same H H1 → SqL K H1 p (ts.map V.ref) → R (Itl K p) H1) → wi σ H R) (hn : ts.length ≤ 1000000) (R : Nat → V → Prop)
    (he : ∀ i x y H1 Q, xs[i]? = some x → ys[i]? = some y → Same H H1 → (∀ y H4, R i y → Same H1 H4 → Q y H4) → te (((wipe σ [j, k]).set j (some x)).set k (some y)) H1 Q)
    (hd : ∀ D H' zs, Same H H' → zs.length = ts.length → (∀ i y, zs[i]? = some y → R i y) → H' D = some (.lst zs) → Q (.ref D) H') : tLc wi (gTup K 2 (gCons (gName j) (gCons (gName k) gNil))) tYes te [j, k] σ H Q := by
  refine hw _ (fun p H1 g q D nD => ?_)
  refine lc_pureG (walk_list (xs := ts.map V.ref)) nD (by simpa using hn) R (fun H2 g2 => g2.seq q) (fun _ _ _ _ y => y.1) (fun i x H2 Q2 hi g2 y kk => ?_) fun H2 zs g2 hl hR hD => hd D H2 zs (g.trans g2) (by simpa using hl) hR hD
  obtain ⟨_, hx⟩ := y
  obtain ⟨t, ht, rfl⟩ : ∃ t, ts[i]? = some t ∧ x = .ref t := by
    rw [List.getElem?_map] at hx
    cases e : ts[i]? with
    | none => rw [e] at hx; cases hx
    | some t => rw [e] at hx; exact ⟨t, rfl, (Option.some.inj hx).symm⟩
  obtain ⟨x, y, e1, e2, e3⟩ := hp i t ht
  refine ⟨t, [x, y], rfl, SqT.of (g2 _ _ (g _ _ e3)), rfl, x, [y], rfl, y, [], rfl, rfl, wipe2 _ _ _ _ _, ?_⟩
  exact he i x y H2 Q2 e1 e2 (g.trans g2) kk
theorem pair_rows {H : Hp} {n : Nat} {v u : V} {d : PyData} (hv : Dp K H v d) (hu : Dp K H u d) (e : (["list", "tuple"].any (isT · d)) = true) (hd : sq n d) :
    ∃ a b xs ys ds m, v = .ref a ∧ u = .ref b ∧ n = m + 1 ∧ ((SqL K H a xs ∧ SqL K H b ys) ∨ (SqT K H a xs ∧ SqT K H b ys)) ∧ DpAll K H xs ds ∧ DpAll K H ys ds ∧ ds.length ≤ 1000 ∧ ∀ e ∈ ds, sq m e := by
  cases d with
  | list ds =>
    cases hv with
    | lst h1 h2 =>
      cases hu with
      | lst h3 h4 =>
        cases n with
        | zero => exact hd.elim
        | succ m => exact ⟨_, _, _, _, ds, m, rfl, rfl, rfl, .inl ⟨h1, h3⟩, h2, h4, hd.1, hd.2⟩
  | tuple ds =>
    cases hv with
    | tup h1 h2 =>
      cases hu with
      | tup h3 h4 =>
        cases n with
        | zero => exact hd.elim
        | succ m => exact ⟨_, _, _, _, ds, m, rfl, rfl, rfl, .inr ⟨h1, h3⟩, h2, h4, hd.1, hd.2⟩
  | none => exact absurd (show false = true from e) Bool.false_ne_true
  | bool b => exact absurd (show false = true from e) Bool.false_ne_true
  | int i => exact absurd (show false = true from e) Bool.false_ne_true
  | str x => exact absurd (show false = true from e) Bool.false_ne_true
  | dict k => exact absurd rfl (hv.nodict k)
theorem pair_atoms {H : Hp} {v u : V} {d : PyData} (hv : Dp K H v d) (hu : Dp K H u d) (e : ¬ (["list", "tuple"].any (isT · d)) = true) : v = u ∧ scal v u = true := by
  cases d with
  | list ds => exact absurd rfl e
  | tuple ds => exact absurd rfl e
  | none => cases hv; cases hu; exact ⟨rfl, rfl⟩
  | bool b => cases hv; cases hu; exact ⟨rfl, rfl⟩
  | int i => cases hv; cases hu; exact ⟨rfl, rfl⟩
  | str x => cases hv; cases hu; exact ⟨rfl, rfl⟩
  | dict k => exact absurd rfl (hv.nodict k)
def spSame (K : PySem.W.Frag) (n : Nat) : Sp := fun vs H Q _ => ∃ (v u : V) (d : PyData), vs = [v, u] ∧ Dp K H v d ∧ Dp K H u d ∧ sq n d ∧ ∀ H', Same H H' → Q (.bl true) H'
theorem same_step {k n : Nat} (T : Tx K mg) (rec : Cal P w K mg base k "_law_same" fun vs H Q E => n ≠ 0 ∧ spSame K (n - 1) vs H Q E) : Cal P w K mg base (k + 1) "_law_same" (spSame K n) := by
  refine T.same.cal f_law_same_sc (fun _ _ _ _ _ _ us hl => match us, hl with | [_, _], _ => rfl) (fun vs H Q E h => ?_) (fun f cdv A outer s H vs Q E hr h => ?_)
  · obtain ⟨v, u, d, rfl, _⟩ := h
    rfl
  obtain ⟨v, u, d, rfl, hv, hu, hd, q⟩ := h
  refine ⟨_, (pss_cons (ps_if (pt_val (pe_callB call_isiT rfl T.n_isinstance (by decide +kernel) (pa_cons (pv 1) (pa_cons (pe_tup (pa_cons (pe_bltn (v := .ty "list") (u := .type "list") rfl T.n_list (by decide +kernel) rfl) (pa_cons (pe_bltn (v := .ty "tuple") (u := .type "tuple") rfl T.n_tuple (by decide +kernel) rfl) pa_nil))) pa_nil)))) (pss_cons (ps_if (PW.pt (pw_or (pt_cmpR op_ne (pe_callB call_isi rfl T.n_isinstance (by decide +kernel) (pa_cons (pv 0) (pa_cons (pe_bltn (v := .ty "list") (u := .type "list") rfl T.n_list (by decide +kernel) rfl) pa_nil))) (pe_callB call_isi rfl T.n_isinstance (by decide +kernel) (pa_cons (pv 1) (pa_cons (pe_bltn (v := .ty "list") (u := .type "list") rfl T.n_list (by decide +kernel) rfl) pa_nil))) (nomark _)) (pw_or1 (pt_cmpR op_ne (pe_callB call_isi rfl T.n_isinstance (by decide +kernel) (pa_cons (pv 0) (pa_cons (pe_bltn (v := .ty "tuple") (u := .type "tuple") rfl T.n_tuple (by decide +kernel) rfl) pa_nil))) (pe_callB call_isi rfl T.n_isinstance (by decide +kernel) (pa_cons (pv 1) (pa_cons (pe_bltn (v := .ty "tuple") (u := .type "tuple") rfl T.n_tuple (by decide +kernel) rfl) pa_nil))) (nomark _))))) (pss_one (ps_ret pe_bl)) pss_nil)
      (pss_cons (ps_set (i := 2) f_law_same_sc.nd rfl (Or.inl rfl) (pe_lzip rfl rfl T.n_list rfl T.n_zip (pa_cons (pv 0) (pa_cons (pv 1) pa_nil))))
      (pss_one (ps_ret (pe_and (pe_cmpR op_eq (pe_callB call_len rfl T.n_len (by decide +kernel) (pa_cons (pv 0) pa_nil)) (pe_callB call_len rfl T.n_len (by decide +kernel) (pa_cons (pv 1) pa_nil)) (nomark _)) (pe_one (pe_callB (cr_all rfl) rfl T.n_all (by decide +kernel) (pa_cons (pe_lc (own := [("_law_one", 3), ("_law_other", 4)]) (g := gTup K 2 (gCons (gName 3) (gCons (gName 4) gNil))) (tt := tYes) (te := tCall (fun vs H Q E => n ≠ 0 ∧ spSame K (n - 1) vs H Q E) [] E0 (tCons (tVar 3) (tCons (tVar 4) tNil))) rfl f_law_same_sc.nd (pi_list (pv 2)) (blkOk_by (own := [("_law_one", 3), ("_law_other", 4)]) (N := f_law_same_N) (sc := defScope f_law_same_s) (by decide +kernel)) (fun _ _ _ _ _ => (pg_tup rfl (pgs_cons (pg_name (i := 3) f_law_same_sc.nd rfl (Or.inl rfl)) (pgs_cons (pg_name (i := 4) f_law_same_sc.nd rfl (Or.inl rfl)) pgs_nil)))) (fun _ _ _ _ _ => pts_nil) (fun _ _ _ _ _ => (pe_c rec hr (by omega) rfl (pa_cons (pv 3) (pa_cons (pv 4) pa_nil))))) pa_nil)))))))) pss_nil)
      (pss_cons (ps_if (pt_val (pe_callB call_isiT rfl T.n_isinstance (by decide +kernel) (pa_cons (pv 1) (pa_cons (pe_tup (pa_cons (pe_bltn (v := .ty "bool") (u := .type "bool") rfl T.n_bool (by decide +kernel) rfl) (pa_cons (pe_bltn (v := .ty "int") (u := .type "int") rfl T.n_int (by decide +kernel) rfl) pa_nil))) pa_nil)))) (pss_one (ps_ret (pe_and (pe_callB call_isi rfl T.n_isinstance (by decide +kernel) (pa_cons (pv 0) (pa_cons (pe_bltn (v := .ty "int") (u := .type "int") rfl T.n_int (by decide +kernel) rfl) pa_nil))) (pe_and (pe_cmpR op_eq (pe_callB call_isi rfl T.n_isinstance (by decide +kernel) (pa_cons (pv 0) (pa_cons (pe_bltn (v := .ty "bool") (u := .type "bool") rfl T.n_bool (by decide +kernel) rfl) pa_nil))) (pe_callB call_isi rfl T.n_isinstance (by decide +kernel) (pa_cons (pv 1) (pa_cons (pe_bltn (v := .ty "bool") (u := .type "bool") rfl T.n_bool (by decide +kernel) rfl) pa_nil))) (nomark _)) (pe_one (pe_cmpR op_eq (pv 0) (pv 1) (nomark _))))))) pss_nil)
      (pss_one (ps_ret (pe_and (pe_not (pe_callB call_isiT rfl T.n_isinstance (by decide +kernel) (pa_cons (pv 0) (pa_cons (pe_tup (pa_cons (pe_bltn (v := .ty "bool") (u := .type "bool") rfl T.n_bool (by decide +kernel) rfl) (pa_cons (pe_bltn (v := .ty "int") (u := .type "int") rfl T.n_int (by decide +kernel) rfl) (pa_cons (pe_bltn (v := .ty "list") (u := .type "list") rfl T.n_list (by decide +kernel) rfl) (pa_cons (pe_bltn (v := .ty "tuple") (u := .type "tuple") rfl T.n_tuple (by decide +kernel) rfl) pa_nil))))) pa_nil)))) (pe_one (pe_cmpR op_eq (pv 0) (pv 1) (nomark _)))))))), ?_⟩
  rw [show L2.start f_law_same_N [v, u] = [some v, some u, none, none, none] from rfl]
  simp only [cxOf, Cx.nox, tSeq, C8.tCut, tAsg, tRet, tRetN, tIfS, tTest, tB, tAnd, tOr, tNot, tAndV, tOrV, tNotV, tIf, tOp, tUn, tCB, tCall, tCons, tNil, tC, tTup, tLst, tChain, tPar, tDrop, tNext, tSl, tPart, tNoPart, tBM, tBM0, tM1, tM0, tAug, ipI, gName, gSub, tVar, wipe, rI0, rI, rU, List.cons_append, List.nil_append, List.append_nil, List.set_cons_zero, List.set_cons_succ, List.getElem?_cons_zero, List.getElem?_cons_succ, Option.some.injEq, V.int.injEq, V.bl.injEq, V.str.injEq, V.ref.injEq, exists_and_left, exists_eq_left, if_true, if_false, Bool.not_true, Bool.not_false, Bool.false_eq_true, List.map_cons, List.map_nil, List.cons.injEq, and_true, true_and, exists_eq_left']
  refine ⟨by show 2 ≤ sizeLine; decide, fun p hp => isi_many ["list", "tuple"] hu hp (by simp) ⟨_, rfl, ite2 (fun e => ?_) (fun e => ?_)⟩⟩
  · have g1 := same_new hp (.tup (["list", "tuple"].map V.ty))
    have hv1 := hv.mono g1
    have hu1 := hu.mono g1
    generalize upd H p (.tup (["list", "tuple"].map V.ty)) = H1 at g1 hv1 hu1 ⊢
    refine isi_one hv1 (by simp) (isi_one hu1 (by simp) ⟨rfl, _, rfl, ite2 (fun e => by simp at e) fun _ => isi_one hv1 (by simp) (isi_one hu1 (by simp) ⟨rfl, _, rfl, ite2 (fun e => by simp at e) fun _ => ?_⟩)⟩)
    obtain ⟨a, b, xs, ys, ds, m, rfl, rfl, rfl, hs, h1, h2, hl, hr'⟩ := pair_rows hv1 hu1 e hd
    have l1 := dpa_len h1
    have l2 := dpa_len h2
    refine ⟨_, rfl, _, rfl, a, b, xs, ys, rfl, hs, by omega, by omega, fun L ts Hf g2 eL hts hP => ?_⟩
    have hA : LenV K (.ref a) Hf xs.length := len_data (hs.elim (fun z => .inl (g2.seq z.1)) fun z => .inr (sameT g2 z.1))
    have hB : LenV K (.ref b) Hf ys.length := len_data (hs.elim (fun z => .inl (g2.seq z.2)) fun z => .inr (sameT g2 z.2))
    refine ⟨_, hA, _, hB, rfl, _, rfl, ite2 (fun _ => ?_) fun e => absurd (decide_eq_true (by rw [l1, l2])) e⟩
    refine tLc_pairs hP (fun R r => ⟨_, rfl, L, rfl, ⟨_, SqL.of eL⟩, r L Hf (fun _ _ e => e) (SqL.of eL)⟩) (by omega) (fun i y => y = .bl true) (fun i x y H3 Q3 hx hy g3 k3 => ?_) (fun D H3 zs g3 hlz hR hD => ?_)
    · simp only [cxOf, Cx.nox, tSeq, C8.tCut, tAsg, tRet, tRetN, tIfS, tTest, tB, tAnd, tOr, tNot, tAndV, tOrV, tNotV, tIf, tOp, tUn, tCB, tCall, tCons, tNil, tC, tTup, tLst, tChain, tPar, tDrop, tNext, tSl, tPart, tNoPart, tBM, tBM0, tM1, tM0, tAug, ipI, gName, gSub, tVar, wipe, rI0, rI, rU, List.cons_append, List.nil_append, List.append_nil, List.set_cons_zero, List.set_cons_succ, List.getElem?_cons_zero, List.getElem?_cons_succ, Option.some.injEq, V.int.injEq, V.bl.injEq, V.str.injEq, V.ref.injEq, exists_and_left, exists_eq_left, if_true, if_false, Bool.not_true, Bool.not_false, Bool.false_eq_true, List.map_cons, List.map_nil, List.cons.injEq, and_true, true_and, exists_eq_left']
      obtain ⟨e, e1, d1⟩ := dpa_get h1 hx
      obtain ⟨e', e2, d2⟩ := dpa_get h2 hy
      obtain rfl : e = e' := by rw [e1] at e2; exact Option.some.inj e2
      exact ⟨Nat.succ_ne_zero m, x, y, e, rfl, d1.mono (g2.trans g3), d2.mono (g2.trans g3), hr' e (List.mem_of_getElem? e1), fun H4 g4 => k3 _ _ rfl g4⟩
    · have hys := ys_map (g := fun _ : Addr => V.bl true) (ds := ts) hlz (fun i y hy => by
        have hi : i < ts.length := by
          have := (List.getElem?_eq_some_iff.mp hy).1
          omega
        exact ⟨ts[i], by simp [hi], hR i y hy⟩)
      refine ⟨D, ts.map fun _ => true, rfl, SqL.of ?_, ?_⟩
      · rw [hD, hys, List.map_map]
        rfl
      · have : (ts.map fun _ => true).all id = true := by simp
        rw [this]
        exact q _ ((g1.trans g2).trans g3)
  · have g1 := same_new hp (.tup (["list", "tuple"].map V.ty))
    have hv1 := hv.mono g1
    have hu1 := hu.mono g1
    obtain ⟨rfl, hsc⟩ := pair_atoms hv hu e
    generalize upd H p (.tup (["list", "tuple"].map V.ty)) = H1 at g1 hv1 hu1 ⊢
    refine ⟨by show 2 ≤ sizeLine; decide, fun p hp => isi_many ["bool", "int"] hu1 hp (by simp) ⟨_, rfl, ite2 (fun e2 => ?_) (fun e2 => ?_)⟩⟩
    · have g2 := same_new hp (.tup (["bool", "int"].map V.ty))
      have hv2 := hv1.mono g2
      generalize upd H1 p (.tup (["bool", "int"].map V.ty)) = H2 at g2 hv2 ⊢
      refine isi_one hv2 (by simp) ⟨_, rfl, ite2 (fun _ => ?_) fun e3 => ?_⟩
      · refine isi_one hv2 (by simp) (isi_one hv2 (by simp) ⟨rfl, _, rfl, ite2 (fun _ => ⟨hsc, ?_⟩) fun e => by simp at e⟩)
        rw [decide_eq_true rfl]
        exact q _ (g1.trans g2)
      · exfalso
        apply e3
        cases d <;> first | rfl | exact absurd (show false = true from e2) Bool.false_ne_true
    · refine ⟨by show 4 ≤ sizeLine; decide, fun p2 hp2 => isi_many ["bool", "int", "list", "tuple"] (hv1.mono (same_new hp _)) hp2 (by simp) ⟨_, rfl, ite2 (fun _ => ⟨hsc, ?_⟩) fun e3 => ?_⟩⟩
      · rw [decide_eq_true rfl]
        exact q _ ((g1.trans (same_new hp _)).trans (same_new hp2 _))
      · exfalso
        apply e3
        cases d <;> first | rfl | (exact absurd rfl e) | (exact absurd rfl e2) | (exact absurd rfl (hv.nodict _))
theorem same_b : ∀ (kV doc pm : Value) (an : Option Addr) (cdv ct : Value) (us : List Value), us.length = f_law_same_P.length → bindArgs (PySem.W.fnOf "_law_same" "_law_same" (defArgs f_law_same_s) (defBody f_law_same_s) (defScope f_law_same_s) .none kV doc pm an cdv ct) ⟨us, []⟩ = pure (f_law_same_P.zip us) :=
  fun _ _ _ _ _ _ us hl => match us, hl with | [_, _], _ => rfl
theorem cal_law_same (T : Tx K mg) : ∀ n, Cal P w K mg base (n + 1) "_law_same" (spSame K n)
  | 0 => same_step T (k := 0) (T.same.zero same_b fun vs H Q E h => h.1 rfl)
  | n + 1 => same_step T (k := n + 1) ((cal_law_same T n).imp fun vs H Q E h => h.2)
end
end Rm

set_option Elab.async false
set_option linter.all false
set_option maxRecDepth 100000
set_option maxHeartbeats 4000000
namespace Rm
open PySem PySem.Spec PyProof.Rows L2
theorem vt_int {n : Nat} {i : Int} (h : i.natAbs < 10 ^ 30) : vt n (.int i) := by cases n <;> exact h
def tc : Nat → Nat
  | 0 => 3
  | n + 1 => 6 * tc n + 13
section
variable {P : Program} {w : World} {K : PySem.W.Frag} {mg : Str → Option Value} {base : Heap}
def spThing (K : PySem.W.Frag) (n : Nat) : Sp := fun vs H Q _ => ∃ (Z : List Addr) (st sl : Addr) (c : Nat), vs = [.ref st, .int n] ∧ Sk st sl c H ∧ Liv Z st sl H ∧ c + tc n < 900000 ∧
  ∀ (v : V) (d : PyData) (H' : Hp) (c' : Nat), Dp K (hid Z H') v d → vt n d → Sk st sl c' H' → c' ≤ c + tc n → Keep st sl H H' → Q v H'
def spThings (K : PySem.W.Frag) (N : Nat) : Sp := fun vs H Q E => ∃ n, n ≤ N ∧ spThing K n vs H Q E
theorem thing_step {k N : Nat} (T : Tx K mg) (rec : Cal P w K mg base k "_law_thing" fun vs H Q E => N ≠ 0 ∧ spThings K (N - 1) vs H Q E) (hk : 3 ≤ k) : Cal P w K mg base (k + 1) "_law_thing" (spThings K N) := by
  refine T.thing.cal f_law_thing_sc (fun _ _ _ _ _ _ us hl => match us, hl with | [_, _], _ => rfl) (fun vs H Q E h => ?_) (fun f cdv A outer s H vs Q E hr h => ?_)
  · obtain ⟨n, _, Z, st, sl, c, rfl, _⟩ := h
    rfl
  obtain ⟨n, hnN, Z, st, sl, c, rfl, hk, lv, hc, q⟩ := h
  refine ⟨_, (pss_cons (ps_set (i := 2) f_law_thing_sc.nd rfl (Or.inl rfl) (pe_c (cal_draw T) hr (by omega) rfl (pa_cons (pv 0) (pa_cons pe_int pa_nil))))
      (pss_cons (ps_if (PW.pt (pw_or (pt_cmpR op_eq (pv 1) pe_int (nomark _)) (pw_or1 (pt_cmpR op_eq (pv 2) pe_int (nomark _))))) (pss_one (ps_ret (pe_c (cal_law_number T) hr (by omega) rfl (pa_cons (pv 0) pa_nil)))) pss_nil)
      (pss_cons (ps_set (i := 3) f_law_thing_sc.nd rfl (Or.inl rfl) (pe_c (cal_law_pick T) hr (by omega) rfl (pa_cons (pv 0) (pa_cons (pe_lst (pa_cons pe_int (pa_cons pe_int (pa_cons pe_int (pa_cons pe_int (pa_cons pe_int (pa_cons (pe_ix ix_tup (pe_tup (pa_cons pe_int (pa_cons pe_int pa_nil))) (pe_callTy call_int_b rfl T.n_int (by decide +kernel) (pa_cons (pe_cmpR op_lt (pv 1) pe_int (nomark _)) pa_nil)) (fun _ _ => rfl)) pa_nil))))))) pa_nil))))
      (pss_cons (ps_set (i := 4) f_law_thing_sc.nd rfl (Or.inl rfl) (pe_tup (pa_cons (pe_c (cal_law_fresh T) hr (by omega) rfl (pa_cons (pv 0) (pa_cons (pe_lst pa_nil) pa_nil))) pa_nil)))
      (C8.pss_cut (ps_if (pt_cmpR op_eq (pv 2) pe_int (nomark _)) (pss_one (ps_par (i := 4) (j := 3) (by rfl) f_law_thing_sc.nd rfl rfl (by decide) rfl rfl (pa_cons (pe_op op_catA (pe_tup (pa_cons pe_str pa_nil)) (pv 4)) (pa_cons (pe_callB (call_min2 rfl) rfl T.n_min (by decide +kernel) (pa_cons (pv 3) (pa_cons pe_int pa_nil))) pa_nil)) (by rfl))) pss_nil)
      (pss_one (ps_ret (pe_op op_catA (pv 4) (pe_callTy call_tuple_of rfl T.n_tuple (by decide +kernel) (pa_cons (pe_lc (own := [("_law_k", 5)]) (g := gName 5) (tt := tYes) rfl f_law_thing_sc.nd (pi_range1 rfl T.n_range (pa_cons (pv 3) pa_nil)) (blkOk_by (own := [("_law_k", 5)]) (N := f_law_thing_N) (sc := defScope f_law_thing_s) (by decide +kernel)) (fun _ _ _ _ _ => (pg_name (i := 5) f_law_thing_sc.nd rfl (Or.inl rfl))) (fun _ _ _ _ _ => pts_nil) (fun _ _ _ _ _ => (pe_c rec hr (by omega) rfl (pa_cons (pv 0) (pa_cons (pe_op op_sub (pv 1) pe_int) pa_nil))))) pa_nil)))))))))), ?_⟩
  rw [show L2.start f_law_thing_N [.ref st, .int n] = [some (.ref st), some (.int n), none, none, none, none] from rfl]
  simp only [cxOf, Cx.nox, tSeq, C8.tCut, tAsg, tRet, tRetN, tIfS, tTest, tB, tAnd, tOr, tNot, tAndV, tOrV, tNotV, tIf, tOp, tUn, tCB, tCall, tCons, tNil, tC, tTup, tLst, tChain, tPar, tDrop, tNext, tSl, tPart, tNoPart, tBM, tBM0, tM1, tM0, tAug, ipI, gName, gSub, tVar, wipe, rI0, rI, rU, List.cons_append, List.nil_append, List.append_nil, List.set_cons_zero, List.set_cons_succ, List.getElem?_cons_zero, List.getElem?_cons_succ, Option.some.injEq, V.int.injEq, V.bl.injEq, V.str.injEq, V.ref.injEq, exists_and_left, exists_eq_left, if_true, if_false, Bool.not_true, Bool.not_false, Bool.false_eq_true, List.map_cons, List.map_nil, List.cons.injEq, and_true, true_and, exists_eq_left']
  refine ⟨st, sl, c, 6, rfl, hk, by omega, by decide, by decide, fun r H1 r0 r1 k1 g1 => ?_⟩
  have num : ∀ H2, Same H1 H2 → spNumber [V.ref st] H2 Q E0 := fun H2 g2 => ⟨st, sl, c + 1, rfl, k1.same g2, by omega, fun i H3 c3 hi k3 hc3 g3 => q (.int i) (.int i) H3 c3 (.int i) (vt_int hi) k3 (by have : 3 ≤ tc n := (by cases n <;> simp only [tc] <;> omega); omega) ((g1.trans (.same g2)).trans g3)⟩
  refine ⟨rfl, _, rfl, ite2 (fun e => num H1 (Same.refl _)) (fun e => ?_)⟩
  obtain ⟨m, rfl⟩ : ∃ m, n = m + 1 := by
    cases n with
    | zero => exact absurd (decide_eq_true rfl) e
    | succ m => exact ⟨m, rfl⟩
  refine ⟨rfl, _, rfl, ite2 (fun e => num H1 (Same.refl _)) (fun e => ?_)⟩
  refine ⟨by show 2 ≤ sizeLine; decide, fun p hp => ?_⟩
  have hix : ∃ z : Int, (z = 2 ∨ z = 6) ∧ atI [V.int 2, V.int 6] (if decide (((m + 1 : Nat) : Int) < 3) = true then 1 else 0) = some (.int z) := by
    split
    · exact ⟨6, .inr rfl, rfl⟩
    · exact ⟨2, .inl rfl, rfl⟩
  obtain ⟨z, hz, ez⟩ := hix
  refine ⟨p, _, _, _, rfl, rfl, SqT.of upd_same, ez, by show 6 ≤ sizeLine; decide, fun p2 hp2 => ?_⟩
  have k2 := k1.new (o := .tup [V.int 2, V.int 6]) hp
  refine ⟨st, sl, c + 1, .ref p2, _, rfl, k2.new hp2, by omega, pick_new k2 hp2, by simp, by simp, fun i x4 H3 hx4 k3 g3 => ?_⟩
  have g13 : Keep st sl H H3 := ((g1.trans (.new hp)).trans (.new hp2)).trans g3
  obtain ⟨sz, rfl, hsz⟩ : ∃ sz : Nat, x4 = .int sz ∧ sz ≤ 6 := by
    have hm := List.mem_of_getElem? hx4
    simp only [List.mem_cons, List.not_mem_nil, or_false] at hm
    rcases hm with rfl | rfl | rfl | rfl | rfl | rfl
    · exact ⟨0, rfl, by decide⟩
    · exact ⟨1, rfl, by decide⟩
    · exact ⟨2, rfl, by decide⟩
    · exact ⟨2, rfl, by decide⟩
    · exact ⟨3, rfl, by decide⟩
    · rcases hz with rfl | rfl
      · exact ⟨2, rfl, by decide⟩
      · exact ⟨6, rfl, by decide⟩
  refine ⟨Nat.zero_le _, fun p4 hp4 => ?_⟩
  refine ⟨st, sl, p4, c + 1 + 1, [], rfl, k3.new hp4, by omega, upd_same, k3.nst hp4, k3.nsl hp4, by simp, ⟨"vaa", by decide +kernel, by simp⟩, fun x H5 c5 hx _ k5 hc5 g5 => ?_⟩
  have g15 : Keep st sl H H5 := (g13.trans (.new hp4)).trans g5
  refine ⟨by show 1 ≤ sizeLine; decide, fun p6 hp6 => ?_⟩
  have hnx : atom (.str x) := nm_atom hx
  refine ⟨fun σ' H' => ∃ (ph : Addr) (sz : Nat) (nms : List Str), σ' = [some (.ref st), some (.int ((m + 1 : Nat) : Int)), some (.int r), some (.int sz), some (.ref ph), none] ∧ sz + nms.length ≤ 7 ∧ H' ph = some (.tup (nms.map V.str)) ∧ ph ≠ st ∧ ph ≠ sl ∧ ph ∉ Z ∧ hdOk nms ∧ Keep st sl H H' ∧ Sk st sl c5 H', ?_, ?_⟩
  · have f6 : H5 p6 = none := hp6
    have z6 : p6 ∉ Z := (lv.keep g15 k5).out hp6
    refine ⟨rfl, _, rfl, ite2 (fun e1 => ?_) (fun e1 => ?_)⟩
    · refine ⟨by show 1 ≤ sizeLine; decide, fun p8 hp8 => ?_⟩
      refine ⟨p8, p6, [V.str "close"], [V.str x], rfl, rfl, SqT.of upd_same, SqT.of (same_new hp8 _ _ _ upd_same), by show 2 ≤ sizeLine; decide, fun e => (nomatch e), fun _ e => (nomatch e), fun _ _ p9 hp9 => ?_⟩
      have kk := (k5.new (o := .tup [V.str x]) hp6).new (o := .tup [V.str "close"]) hp8
      have gg : Keep st sl H (upd (upd H5 p6 (.tup [V.str x])) p8 (.tup [V.str "close"])) := (g15.trans (.new hp6)).trans (.new hp8)
      refine ⟨sz, 5, ⟨rfl, rfl⟩, _, _, ⟨rfl, rfl⟩, p9, min sz 5, ["close", x], ?_, by simp; omega, upd_same, kk.nst hp9, kk.nsl hp9, (lv.keep gg kk).out hp9, .inr ⟨x, rfl, hx⟩, gg.trans (.new hp9), kk.new hp9⟩
      have : (if (5 : Int) < (sz : Int) then 5 else (sz : Int)) = ((min sz 5 : Nat) : Int) := by split <;> omega
      rw [this]
    · exact ⟨p6, sz, [x], rfl, by simp; omega, upd_same, k5.nst hp6, k5.nsl hp6, z6, .inl ⟨x, rfl, hx⟩, g15.trans (.new hp6), k5.new hp6⟩
  · rintro σ' H7 ⟨ph, sz, nms, rfl, hsz, hph, n1, n2, n3, hne, g7, k7⟩
    refine ⟨_, rfl, ?_⟩
    have l7 := lv.keep g7 k7
    have htc : tc (m + 1) = 6 * tc m + 13 := rfl
    have hnl : 1 ≤ nms.length := List.length_pos_iff.mpr (hd_ne hne)
    refine tLc_draws (lo := 0) (n := sz) (c := c5) (u := tc m) (Z := Z) (fun R r => ⟨_, rfl, sz, rfl, by omega, by omega, r⟩) (by omega) k7 l7 (fun Hh v => ∃ d, Dp K Hh v d ∧ vt m d) (fun _ _ _ g ⟨d, h, o⟩ => ⟨d, h.mono g, o⟩) (fun D i H8 c8 Q8 hi g8 k8 l8 hc8 kk => ?_) (fun D H8 ys c8 g8 k8 hc8 hly hR hD l8 nD nD0 => ?_)
    · simp only [cxOf, Cx.nox, tSeq, C8.tCut, tAsg, tRet, tRetN, tIfS, tTest, tB, tAnd, tOr, tNot, tAndV, tOrV, tNotV, tIf, tOp, tUn, tCB, tCall, tCons, tNil, tC, tTup, tLst, tChain, tPar, tDrop, tNext, tSl, tPart, tNoPart, tBM, tBM0, tM1, tM0, tAug, ipI, gName, gSub, tVar, wipe, rI0, rI, rU, List.cons_append, List.nil_append, List.append_nil, List.set_cons_zero, List.set_cons_succ, List.getElem?_cons_zero, List.getElem?_cons_succ, Option.some.injEq, V.int.injEq, V.bl.injEq, V.str.injEq, V.ref.injEq, exists_and_left, exists_eq_left, if_true, if_false, Bool.not_true, Bool.not_false, Bool.false_eq_true, List.map_cons, List.map_nil, List.cons.injEq, and_true, true_and, exists_eq_left']
      have h1 : i * tc m ≤ 5 * tc m := Nat.mul_le_mul_right _ (by omega)
      refine ⟨by omega, m, by omega, D :: Z, st, sl, c8, ?_, k8, l8, by show c8 + tc m < _; omega, fun v d H9 c9 hd ho k9 hc9 g9 => kk v H9 c9 ⟨d, hd, ho⟩ g9 k9 hc9⟩
      have : (((m + 1 : Nat) : Int) - 1) = (m : Int) := by omega
      rw [this]
    · have h1 : sz * tc m ≤ 6 * tc m := Nat.mul_le_mul_right _ (by omega)
      obtain ⟨ds, hds, hok⟩ := dpa_of hR
      have hdl := dpa_len hds
      have hph8 := g8 _ _ n1 n2 hph
      refine ⟨D, rfl, ys, .inl ⟨SqL.of hD, fun p9 hp9 => ?_⟩⟩
      have k9 := k8.new (o := .tup ys) hp9
      have g78 := (g7.trans g8).trans (.new (o := .tup ys) hp9)
      have l9 := lv.keep g78 k9
      have hm9 : DpAll K (hid Z (upd H8 p9 (.tup ys))) ys ds := (hds.mono (hid_less (fun z hz => List.mem_cons_of_mem _ hz) H8)).mono (hid_mono (same_new hp9 _))
      have hph9 := same_new hp9 (.tup ys) _ _ hph8
      have hrow : vt (m + 1) (.tuple (nms.map PyData.str ++ ds)) := ⟨nms, ds, rfl, hne, by rw [List.length_append, List.length_map]; omega, hok⟩
      have hnn : nms.map V.str ≠ [] := by simp [hd_ne hne]
      refine ⟨ph, p9, _, _, rfl, rfl, SqT.of hph9, SqT.of upd_same, ?_, fun e => absurd e hnn, fun _ e => ?_, fun _ _ p10 hp10 => ?_⟩
      · refine small ?_
        rw [List.length_map]
        omega
      · subst e
        cases hds
        refine q _ (.tuple (nms.map PyData.str ++ [])) _ _ (row_T hph9 n3 ?_) hrow k9 (by omega) g78
        rw [List.append_nil]
        exact dp_strs nms
      · exact q _ (.tuple (nms.map PyData.str ++ ds)) _ _ (row_T upd_same (l9.out hp10) ((dpa_app (dp_strs nms) hm9).mono (hid_mono (same_new hp10 _)))) hrow (k9.new hp10) (by omega) (g78.trans (.new hp10))
theorem thing_b : ∀ (kV doc pm : Value) (an : Option Addr) (cdv ct : Value) (us : List Value), us.length = f_law_thing_P.length → bindArgs (PySem.W.fnOf "_law_thing" "_law_thing" (defArgs f_law_thing_s) (defBody f_law_thing_s) (defScope f_law_thing_s) .none kV doc pm an cdv ct) ⟨us, []⟩ = pure (f_law_thing_P.zip us) :=
  fun _ _ _ _ _ _ us hl => match us, hl with | [_, _], _ => rfl
theorem cal_law_thing (T : Tx K mg) : ∀ n, Cal P w K mg base (n + 4) "_law_thing" (spThings K n)
  | 0 => thing_step T (k := 3) (T.thing.zero thing_b fun vs H Q E h => h.1 rfl) (by decide)
  | n + 1 => thing_step T (k := n + 4) ((cal_law_thing T n).imp fun vs H Q E h => h.2) (by omega)
end
end Rm

set_option Elab.async false
set_option linter.all false
set_option maxRecDepth 100000
set_option maxHeartbeats 4000000
namespace Rm
open PySem PySem.Spec PyProof.Rows L2
theorem vt_tup {n : Nat} {d : PyData} (h : vt n d) (e : isT "tuple" d = true) : ∃ m ds, n = m + 1 ∧ d = .tuple ds ∧ vrow (vt m) ds := by
  cases d with
  | tuple ds =>
    cases n with
    | zero => exact h.elim
    | succ m => exact ⟨m, ds, rfl, rfl, h⟩
  | none => cases n <;> exact h.elim
  | bool b => cases n <;> exact h.elim
  | int i => exact absurd (show false = true from e) Bool.false_ne_true
  | str x => cases n <;> exact h.elim
  | list x => cases n <;> exact h.elim
  | dict x => cases n <;> exact h.elim
theorem vt_num {n : Nat} {d : PyData} (h : vt n d) (e : ¬ isT "tuple" d = true) : ∃ i, d = .int i ∧ i.natAbs < 10 ^ 30 := by
  cases d with
  | tuple ds => exact absurd rfl e
  | none => cases n <;> exact h.elim
  | bool b => cases n <;> exact h.elim
  | int i => exact ⟨i, rfl, by cases n <;> exact h⟩
  | str x => cases n <;> exact h.elim
  | list x => cases n <;> exact h.elim
  | dict x => cases n <;> exact h.elim
theorem vrow_part {C : PyData → Prop} {ds : List PyData} (h : vrow C ds) {e : PyData} (he : e ∈ ds) : (∃ x, e = .str x) ∨ C e := by
  obtain ⟨hd, es, rfl, _, _, h3⟩ := h
  rcases List.mem_append.mp he with z | z
  · obtain ⟨x, _, rfl⟩ := List.mem_map.mp z
    exact .inl ⟨x, rfl⟩
  · exact .inr (h3 e z)
theorem vrow_len {C : PyData → Prop} {ds : List PyData} (h : vrow C ds) : ds.length ≤ 7 ∧ ds ≠ [] := by
  obtain ⟨hd, es, rfl, h1, h2, _⟩ := h
  exact ⟨h2, by simp [hd_ne h1]⟩
theorem vt_notstr {n : Nat} {d : PyData} (h : vt n d) : isT "str" d = false := by
  cases d with
  | str x => cases n <;> exact h.elim
  | tuple ds => rfl
  | none => rfl
  | bool b => rfl
  | int i => rfl
  | list x => rfl
  | dict x => rfl
def ls : Nat → PyData → PyData
  | n + 1, .tuple ds => .list (ds.map (ls n))
  | _, d => d
section
variable {P : Program} {w : World} {K : PySem.W.Frag} {mg : Str → Option Value} {base : Heap}
theorem dp_tup {H : Hp} {v : V} {ds : List PyData} (h : Dp K H v (.tuple ds)) : ∃ a xs, v = .ref a ∧ SqT K H a xs ∧ DpAll K H xs ds := by
  cases h with
  | tup h1 h2 => exact ⟨_, _, rfl, h1, h2⟩
def spLText (K : PySem.W.Frag) (n : Nat) : Sp := spLook K (fun d => .str (txt n d)) fun d => vt n d ∧ (txt n d).length ≤ 1000000
theorem ltext_step {k n : Nat} (T : Tx K mg) (rec : Cal P w K mg base k "_law_text" fun vs H Q E => n ≠ 0 ∧ spLText K (n - 1) vs H Q E) : Cal P w K mg base (k + 1) "_law_text" (spLText K n) := by
  refine T.text.cal f_law_text_sc (fun _ _ _ _ _ _ us hl => match us, hl with | [_], _ => rfl) (fun vs H Q E h => look_len h) (fun f cdv A outer s H vs Q E hr h => ?_)
  obtain ⟨v, d, rfl, hd, ⟨hv, hsz⟩, q⟩ := h
  refine ⟨_, (pss_cons (ps_if (pt_not (pt_val (pe_callB call_isi rfl T.n_isinstance (by decide +kernel) (pa_cons (pv 0) (pa_cons (pe_bltn (v := .ty "tuple") (u := .type "tuple") rfl T.n_tuple (by decide +kernel) rfl) pa_nil))))) (pss_one (ps_ret (pe_callTy call_str_int rfl T.n_str (by decide +kernel) (pa_cons (pv 0) pa_nil)))) pss_nil)
      (pss_one (ps_ret (pe_op op_add_str (pe_op op_add_str pe_str (pe_join pe_str (pe_lc (own := [("_law_part", 1)]) (g := gName 1) (tt := tYes) (te := tIf (tB (tCB (rIsi K) (tCons (tVar 1) (tCons (tC (.ty "str")) tNil)))) (tVar 1) (tCall (fun vs H Q E => n ≠ 0 ∧ spLText K (n - 1) vs H Q E) [] E0 (tCons (tVar 1) tNil))) rfl f_law_text_sc.nd (pi_seq (pv 0)) (blkOk_by (own := [("_law_part", 1)]) (N := f_law_text_N) (sc := defScope f_law_text_s) (by decide +kernel)) (fun _ _ _ _ _ => (pg_name (i := 1) f_law_text_sc.nd rfl (Or.inl rfl))) (fun _ _ _ _ _ => pts_nil) (fun _ _ _ _ _ => (pe_ifExp (pt_val (pe_callB call_isi rfl T.n_isinstance (by decide +kernel) (pa_cons (pv 1) (pa_cons (pe_bltn (v := .ty "str") (u := .type "str") rfl T.n_str (by decide +kernel) rfl) pa_nil)))) (pv 1) (pe_c rec hr (by omega) rfl (pa_cons (pv 1) pa_nil))))))) pe_str)))), ?_⟩
  rw [show L2.start f_law_text_N [v] = [some v, none] from rfl]
  simp only [cxOf, Cx.nox, tSeq, C8.tCut, tAsg, tRet, tRetN, tIfS, tTest, tB, tAnd, tOr, tNot, tAndV, tOrV, tNotV, tIf, tOp, tUn, tCB, tCall, tCons, tNil, tC, tTup, tLst, tChain, tPar, tDrop, tNext, tSl, tPart, tNoPart, tBM, tBM0, tM1, tM0, tAug, ipI, gName, gSub, tVar, wipe, rI0, rI, rU, List.cons_append, List.nil_append, List.append_nil, List.set_cons_zero, List.set_cons_succ, List.getElem?_cons_zero, List.getElem?_cons_succ, Option.some.injEq, V.int.injEq, V.bl.injEq, V.str.injEq, V.ref.injEq, exists_and_left, exists_eq_left, if_true, if_false, Bool.not_true, Bool.not_false, Bool.false_eq_true, List.map_cons, List.map_nil, List.cons.injEq, and_true, true_and, exists_eq_left']
  refine isi_one hd (by simp) ⟨_, rfl, ite2 (fun e => ?_) (fun e => ?_)⟩
  · obtain ⟨i, rfl, hi⟩ := vt_num hv (by simpa using e)
    cases hd with
    | int =>
    refine ⟨i, rfl, ?_, ?_⟩
    · have h1 : i.natAbs < 2 ^ 1920 := Nat.lt_trans hi (by decide)
      by_cases h0 : i.natAbs = 0
      · rw [h0]; decide
      · exact (Nat.log2_lt h0).mpr h1
    · have z := q H (Same.refl _)
      have : txt n (.int i) = Str.ofString (toString i) := by cases n <;> rfl
      dsimp only at z
      rw [this] at z
      exact z
  · have e' : isT "tuple" d = true := by simpa using e
    obtain ⟨m, ds, rfl, rfl, hrow⟩ := vt_tup hv e'
    obtain ⟨a, xs, rfl, ha, hxs⟩ := dp_tup hd
    have hl := dpa_len hxs
    obtain ⟨h7, hne⟩ := vrow_len hrow
    have hlen : (txt (m + 1) (.tuple ds)).length = (Txt.join " " (ds.map (wordOf (txt m)))).length + 2 := rowT_len _ _
    have szL : (1000000 : Nat) + 2 ≤ sizeLine := by decide
    have e1 : ((("(" : String) : Str)).length = 1 := rfl
    have e2 : (((")" : String) : Str)).length = 1 := rfl
    have e3 : (((" " : String) : Str)).length = 1 := rfl
    refine ⟨⟨_, rfl⟩, tLc_row (K := K) (zs := xs) (fun R r1 r2 => .inr ⟨_, rfl, a, rfl, ⟨_, ha⟩, r2 a H (Same.refl _) ha⟩) (by omega) (fun i y => ∃ e, ds[i]? = some e ∧ y = .str (wordOf (txt m) e)) (fun i x H2 Q2 hi g2 k2 => ?_) (fun D H2 ys g2 hly hR hD => ?_)⟩
    · simp only [cxOf, Cx.nox, tSeq, C8.tCut, tAsg, tRet, tRetN, tIfS, tTest, tB, tAnd, tOr, tNot, tAndV, tOrV, tNotV, tIf, tOp, tUn, tCB, tCall, tCons, tNil, tC, tTup, tLst, tChain, tPar, tDrop, tNext, tSl, tPart, tNoPart, tBM, tBM0, tM1, tM0, tAug, ipI, gName, gSub, tVar, wipe, rI0, rI, rU, List.cons_append, List.nil_append, List.append_nil, List.set_cons_zero, List.set_cons_succ, List.getElem?_cons_zero, List.getElem?_cons_succ, Option.some.injEq, V.int.injEq, V.bl.injEq, V.str.injEq, V.ref.injEq, exists_and_left, exists_eq_left, if_true, if_false, Bool.not_true, Bool.not_false, Bool.false_eq_true, List.map_cons, List.map_nil, List.cons.injEq, and_true, true_and, exists_eq_left']
      obtain ⟨e, h1, h2⟩ := dpa_get hxs hi
      have he := List.mem_of_getElem? h1
      refine isi_one (h2.mono g2) (by simp) ⟨_, rfl, ite2 (fun es => ?_) (fun es => ?_)⟩
      · cases h2 with
        | str z => exact k2 _ _ ⟨_, h1, rfl⟩ (Same.refl _)
        | non => exact absurd (show false = true from es) Bool.false_ne_true
        | bl _ => exact absurd (show false = true from es) Bool.false_ne_true
        | int _ => exact absurd (show false = true from es) Bool.false_ne_true
        | lst _ _ => exact absurd (show false = true from es) Bool.false_ne_true
        | tup _ _ => exact absurd (show false = true from es) Bool.false_ne_true
      · rcases vrow_part hrow he with ⟨z, rfl⟩ | hp
        · exact absurd rfl es
        · have hw : wordOf (txt m) e = txt m e := vt_nostr' hp _
          have hm := join_mem (ys := ds.map (wordOf (txt m))) (List.mem_map.mpr ⟨e, he, rfl⟩)
          rw [hw] at hm
          exact ⟨Nat.succ_ne_zero m, x, e, rfl, h2.mono g2, ⟨hp, by show (txt m e).length ≤ _; omega⟩, fun H3 g3 => k2 _ _ ⟨e, h1, by rw [hw]; rfl⟩ g3⟩
    · have hys := ys_map (g := fun e => V.str (wordOf (txt m) e)) (hly.trans hl) hR
      have hys2 : ys = (ds.map (wordOf (txt m))).map V.str := by rw [hys, List.map_map]; rfl
      subst hys2
      have hjs := join_size (ys := ds.map (wordOf (txt m))) (by simpa using hne)
      refine ⟨D, rfl, ds.map (wordOf (txt m)), .inl (SqL.of hD), ?_, ?_, ?_, ?_⟩
      · rw [e3, Nat.mul_one]
        omega
      · rw [e1]
        omega
      · rw [strLen_append, e1, e2]
        omega
      · exact q _ g2
theorem ltext_b : ∀ (kV doc pm : Value) (an : Option Addr) (cdv ct : Value) (us : List Value), us.length = f_law_text_P.length → bindArgs (PySem.W.fnOf "_law_text" "_law_text" (defArgs f_law_text_s) (defBody f_law_text_s) (defScope f_law_text_s) .none kV doc pm an cdv ct) ⟨us, []⟩ = pure (f_law_text_P.zip us) :=
  fun _ _ _ _ _ _ us hl => match us, hl with | [_], _ => rfl
theorem cal_law_text (T : Tx K mg) : ∀ n, Cal P w K mg base (n + 1) "_law_text" (spLText K n)
  | 0 => ltext_step T (k := 0) (T.text.zero ltext_b fun vs H Q E h => h.1 rfl)
  | n + 1 => ltext_step T (k := n + 1) ((cal_law_text T n).imp fun vs H Q E h => h.2)
def spLCells (K : PySem.W.Frag) (n : Nat) : Sp := spLook K (fun d => .int (cl n d)) fun d => vt n d ∨ ∃ x, d = .str x
theorem lcells_step {k n : Nat} (T : Tx K mg) (rec : Cal P w K mg base k "_law_cells" fun vs H Q E => n ≠ 0 ∧ spLCells K (n - 1) vs H Q E) : Cal P w K mg base (k + 1) "_law_cells" (spLCells K n) := by
  refine T.cells.cal f_law_cells_sc (fun _ _ _ _ _ _ us hl => match us, hl with | [_], _ => rfl) (fun vs H Q E h => look_len h) (fun f cdv A outer s H vs Q E hr h => ?_)
  obtain ⟨v, d, rfl, hd, hv, q⟩ := h
  refine ⟨_, (pss_cons (ps_if (pt_not (pt_val (pe_callB call_isi rfl T.n_isinstance (by decide +kernel) (pa_cons (pv 0) (pa_cons (pe_bltn (v := .ty "tuple") (u := .type "tuple") rfl T.n_tuple (by decide +kernel) rfl) pa_nil))))) (pss_one (ps_ret pe_int)) pss_nil)
      (pss_one (ps_ret (pe_op op_add pe_int (pe_callB (cr_sum rfl) rfl T.n_sum (by decide +kernel) (pa_cons (pe_lc (own := [("_law_part", 1)]) (g := gName 1) (tt := tYes) rfl f_law_cells_sc.nd (pi_seq (pv 0)) (blkOk_by (own := [("_law_part", 1)]) (N := f_law_cells_N) (sc := defScope f_law_cells_s) (by decide +kernel)) (fun _ _ _ _ _ => (pg_name (i := 1) f_law_cells_sc.nd rfl (Or.inl rfl))) (fun _ _ _ _ _ => pts_nil) (fun _ _ _ _ _ => (pe_c rec hr (by omega) rfl (pa_cons (pv 1) pa_nil)))) pa_nil)))))), ?_⟩
  rw [show L2.start f_law_cells_N [v] = [some v, none] from rfl]
  simp only [cxOf, Cx.nox, tSeq, C8.tCut, tAsg, tRet, tRetN, tIfS, tTest, tB, tAnd, tOr, tNot, tAndV, tOrV, tNotV, tIf, tOp, tUn, tCB, tCall, tCons, tNil, tC, tTup, tLst, tChain, tPar, tDrop, tNext, tSl, tPart, tNoPart, tBM, tBM0, tM1, tM0, tAug, ipI, gName, gSub, tVar, wipe, rI0, rI, rU, List.cons_append, List.nil_append, List.append_nil, List.set_cons_zero, List.set_cons_succ, List.getElem?_cons_zero, List.getElem?_cons_succ, Option.some.injEq, V.int.injEq, V.bl.injEq, V.str.injEq, V.ref.injEq, exists_and_left, exists_eq_left, if_true, if_false, Bool.not_true, Bool.not_false, Bool.false_eq_true, List.map_cons, List.map_nil, List.cons.injEq, and_true, true_and, exists_eq_left']
  refine isi_one hd (by simp) ⟨_, rfl, ite2 (fun e => ?_) (fun e => ?_)⟩
  · have z := q H (Same.refl _)
    have : cl n d = 0 := by cases n <;> cases d <;> first | rfl | (simp [isT, isTn, tyN] at e; done) | (rcases hv with h | ⟨x, h⟩ <;> first | exact h.elim | cases h)
    dsimp only at z
    rw [this] at z
    exact z
  · have e' : isT "tuple" d = true := by simpa using e
    obtain ⟨m, ds, rfl, rfl, hrow⟩ := vt_tup (hv.resolve_right fun ⟨x, h⟩ => by subst h; exact absurd (show false = true from e') Bool.false_ne_true) e'
    obtain ⟨a, xs, rfl, ha, hxs⟩ := dp_tup hd
    have hl := dpa_len hxs
    obtain ⟨h7, hne⟩ := vrow_len hrow
    refine tLc_row (K := K) (zs := xs) (fun R r1 r2 => .inr ⟨_, rfl, a, rfl, ⟨_, ha⟩, r2 a H (Same.refl _) ha⟩) (by omega) (fun i y => ∃ e, ds[i]? = some e ∧ y = .int (cl m e)) (fun i x H2 Q2 hi g2 k2 => ?_) (fun D H2 ys g2 hly hR hD => ?_)
    · simp only [cxOf, Cx.nox, tSeq, C8.tCut, tAsg, tRet, tRetN, tIfS, tTest, tB, tAnd, tOr, tNot, tAndV, tOrV, tNotV, tIf, tOp, tUn, tCB, tCall, tCons, tNil, tC, tTup, tLst, tChain, tPar, tDrop, tNext, tSl, tPart, tNoPart, tBM, tBM0, tM1, tM0, tAug, ipI, gName, gSub, tVar, wipe, rI0, rI, rU, List.cons_append, List.nil_append, List.append_nil, List.set_cons_zero, List.set_cons_succ, List.getElem?_cons_zero, List.getElem?_cons_succ, Option.some.injEq, V.int.injEq, V.bl.injEq, V.str.injEq, V.ref.injEq, exists_and_left, exists_eq_left, if_true, if_false, Bool.not_true, Bool.not_false, Bool.false_eq_true, List.map_cons, List.map_nil, List.cons.injEq, and_true, true_and, exists_eq_left']
      obtain ⟨e, h1, h2⟩ := dpa_get hxs hi
      exact ⟨Nat.succ_ne_zero m, x, e, rfl, h2.mono g2, (vrow_part hrow (List.mem_of_getElem? h1)).symm, fun H3 g3 => k2 _ _ ⟨e, h1, rfl⟩ g3⟩
    · have hys := ys_map (g := fun e => V.int (cl m e)) (hly.trans hl) hR
      refine ⟨D, (ds.map (cl m)).map fun (n : Nat) => (n : Int), rfl, SqL.of ?_, ?_⟩
      · rw [hD, hys, List.map_map, List.map_map]
        rfl
      · have z := q _ g2
        dsimp only at z
        rw [sumZ]
        have : ((cl (m + 1) (.tuple ds) : Nat) : Int) = 1 + ((ds.map (cl m)).sum : Int) := by
          show ((1 + (ds.map (cl m)).sum : Nat) : Int) = _
          omega
        rw [this] at z
        exact ⟨_, rfl, z⟩
theorem lcells_b : ∀ (kV doc pm : Value) (an : Option Addr) (cdv ct : Value) (us : List Value), us.length = f_law_cells_P.length → bindArgs (PySem.W.fnOf "_law_cells" "_law_cells" (defArgs f_law_cells_s) (defBody f_law_cells_s) (defScope f_law_cells_s) .none kV doc pm an cdv ct) ⟨us, []⟩ = pure (f_law_cells_P.zip us) :=
  fun _ _ _ _ _ _ us hl => match us, hl with | [_], _ => rfl
theorem cal_law_cells (T : Tx K mg) : ∀ n, Cal P w K mg base (n + 1) "_law_cells" (spLCells K n)
  | 0 => lcells_step T (k := 0) (T.cells.zero lcells_b fun vs H Q E h => h.1 rfl)
  | n + 1 => lcells_step T (k := n + 1) ((cal_law_cells T n).imp fun vs H Q E h => h.2)
/-- a comprehension over a row whose elements are data -/
theorem tLc_data {wi : TI} {te : TE} {j : Nat} {σ : L2.St} {H : Hp} {Q : VK} {zs : List V} {Z : List Addr} {f : Nat → PyData}
    (hw : ∀ R : It → Hp → Prop, (∀ p H1, Same H H1 → SqL K H1 p zs → R (Itl K p) H1) → (∀ p H1, Same H H1 → SqT K H1 p zs → R (Itt K p) H1) → wi σ H R) (hn : zs.length ≤ 1000000) (hZ : ∀ z ∈ Z, H z ≠ none)
    (he : ∀ i x D H1 Q, zs[i]? = some x → Same H H1 → H D = none → H1 D ≠ none → (∀ y H4, Dp K (hid (D :: Z) H4) y (f i) → Same H1 H4 → Q y H4) → te ((wipe σ [j]).set j (some x)) H1 Q)
    (hd : ∀ D H' ys, Same H H' → H D = none → D ∉ Z → ys.length = zs.length → (∀ i y, ys[i]? = some y → Dp K (hid (D :: Z) H') y (f i)) → H' D = some (.lst ys) → Q (.ref D) H') : tLc wi (gName j) tYes te [j] σ H Q := by
  have main : ∀ {J : It} {n : Nat} {G : Hp → Prop} {Y : Nat → Hp → V → Hp → Prop} (w : Walk J n G Y) {H1 : Hp} (g0 : Same H H1) {D : Addr} (nD : H1 D = none) (hl : n = zs.length) (hG : ∀ H, Same H1 H → G H) (hY : ∀ i H x H', Y i H x H' → H' = H ∧ zs[i]? = some x),
      ∃ W : Nat → Nat → Hp → Prop, (∃ m, W 0 m (upd H1 D (.lst []))) ∧ ∀ i m H, W i m H →
      (J.stop i H ∧ Q (.ref D) H) ∨ (J.go i H ∧ ∃ Nx : Hp → Prop, (∀ H', Nx H' → ∃ m', m' < m ∧ W (i + 1) m' H') ∧ ∀ x H', J.yld i H x H' → gName j x (wipe σ [j]) H' fun σ2 H2 => wipe σ2 [j] = wipe σ [j] ∧ tYes σ2 H2 fun b H3 =>
        if b = true then te σ2 H3 fun y H4 => ∃ acc, H4 D = some (.lst acc) ∧ acc.length < sizeLine ∧ Nx (upd H4 D (.lst (acc ++ [y]))) else Nx H3) := by
    intro J n G Y w H1 g0 D nD hl hG hY
    have dZ : D ∉ Z := fun h => hZ D h (g0.free nD)
    refine lc_it w (fun i H => Same H1 H ∧ ∃ ys, ys.length = i ∧ (∀ k y, ys[k]? = some y → Dp K (hid (D :: Z) H) y (f k)) ∧ H D = some (.lst ys)) ⟨same_new nD _, [], rfl, fun k y e => by simp at e, upd_same⟩ (fun i H _ p => hG H p.1) ?_ fun H2 p => ?_
    · rintro i x H2 H' hi ⟨g1, ys, hly, hR, hD⟩ hy
      obtain ⟨rfl, hx⟩ := hY i H2 x H' hy
      refine ⟨wipe1 _ _ _, ?_⟩
      unfold tYes
      dsimp only
      rw [if_pos rfl]
      refine he i x D H' _ hx (g0.trans g1) (g0.free nD) (by rw [hD]; exact fun e => nomatch e) fun y H4 r g2 => ⟨ys, g2 _ _ hD, ?_, ?_, ys ++ [y], ?_, ?_, upd_same⟩
      · exact Nat.lt_of_lt_of_le (show ys.length < 1000000 by omega) (by decide)
      · intro b o e
        rw [upd_ne (ne_of_none e nD)]
        exact g2 _ _ (g1 _ _ e)
      · rw [List.length_append, List.length_singleton, hly]
      · have gm : Same (hid (D :: Z) H4) (hid (D :: Z) (upd H4 D (.lst (ys ++ [y])))) := hid_upd (List.mem_cons_self ..)
        intro k z e
        by_cases hk : k < ys.length
        · rw [List.getElem?_append_left hk] at e
          exact ((hR k z e).mono (hid_mono g2)).mono gm
        · rw [List.getElem?_append_right (by omega)] at e
          have h0 : k - ys.length = 0 := by
            by_cases h : k - ys.length = 0
            · exact h
            · rw [List.getElem?_eq_none (by simp; omega)] at e
              cases e
          rw [h0] at e
          have h1 : y = z := by simpa using e
          have h2 : k = i := by omega
          rw [h2, ← h1]
          exact r.mono gm
    · obtain ⟨g1, ys, hly, hR, hD⟩ := p
      exact hd D H2 ys (g0.trans g1) (g0.free nD) dZ (by omega) hR hD
  refine hw _ (fun p H1 g q D nD => ?_) (fun p H1 g q D nD => ?_)
  · exact main (walk_list (xs := zs)) g nD rfl (fun H2 g2 => g2.seq q) (fun _ _ _ _ y => y)
  · exact main (walk_tup (xs := zs)) g nD rfl (fun H2 g2 => sameT g2 q) (fun _ _ _ _ y => y)
theorem dpa_at {H : Hp} {g : PyData → PyData} : ∀ {ds : List PyData} {ys : List V}, ys.length = ds.length → (∀ (i : Nat) (y : V), ys[i]? = some y → ∃ d, ds[i]? = some d ∧ Dp K H y (g d)) → DpAll K H ys (ds.map g)
  | [], [], _, _ => .nil
  | [], _ :: _, h, _ => by simp at h
  | _ :: _, [], h, _ => by simp at h
  | d :: ds, y :: ys, h, f => by
    obtain ⟨e, h1, h2⟩ := f 0 y rfl
    simp at h1
    subst h1
    exact .cons h2 (dpa_at (by simpa using h) fun i y hy => by simpa using f (i + 1) y (by simpa using hy))
def spLists (K : PySem.W.Frag) (n : Nat) : Sp := fun vs H Q _ => ∃ (Z : List Addr) (v : V) (d : PyData), vs = [v] ∧ Dp K (hid Z H) v d ∧ (∀ z ∈ Z, H z ≠ none) ∧ (vt n d ∨ ∃ x, d = .str x) ∧ ∀ u H', Same H H' → Dp K (hid Z H') u (ls n d) → Q u H'
theorem lists_step {k n : Nat} (T : Tx K mg) (rec : Cal P w K mg base k "_law_lists" fun vs H Q E => n ≠ 0 ∧ spLists K (n - 1) vs H Q E) : Cal P w K mg base (k + 1) "_law_lists" (spLists K n) := by
  refine T.lists.cal f_law_lists_sc (fun _ _ _ _ _ _ us hl => match us, hl with | [_], _ => rfl) (fun vs H Q E h => ?_) (fun f cdv A outer s H vs Q E hr h => ?_)
  · obtain ⟨Z, v, d, rfl, _⟩ := h
    rfl
  obtain ⟨Z, v, d, rfl, hd, hZ, hv, q⟩ := h
  refine ⟨_, (pss_one (ps_ret (pe_ifExp (pt_val (pe_callB call_isi rfl T.n_isinstance (by decide +kernel) (pa_cons (pv 0) (pa_cons (pe_bltn (v := .ty "tuple") (u := .type "tuple") rfl T.n_tuple (by decide +kernel) rfl) pa_nil)))) (pe_lc (own := [("_law_part", 1)]) (g := gName 1) (tt := tYes) rfl f_law_lists_sc.nd (pi_seq (pv 0)) (blkOk_by (own := [("_law_part", 1)]) (N := f_law_lists_N) (sc := defScope f_law_lists_s) (by decide +kernel)) (fun _ _ _ _ _ => (pg_name (i := 1) f_law_lists_sc.nd rfl (Or.inl rfl))) (fun _ _ _ _ _ => pts_nil) (fun _ _ _ _ _ => (pe_c rec hr (by omega) rfl (pa_cons (pv 1) pa_nil)))) (pv 0)))), ?_⟩
  rw [show L2.start f_law_lists_N [v] = [some v, none] from rfl]
  simp only [cxOf, Cx.nox, tSeq, C8.tCut, tAsg, tRet, tRetN, tIfS, tTest, tB, tAnd, tOr, tNot, tAndV, tOrV, tNotV, tIf, tOp, tUn, tCB, tCall, tCons, tNil, tC, tTup, tLst, tChain, tPar, tDrop, tNext, tSl, tPart, tNoPart, tBM, tBM0, tM1, tM0, tAug, ipI, gName, gSub, tVar, wipe, rI0, rI, rU, List.cons_append, List.nil_append, List.append_nil, List.set_cons_zero, List.set_cons_succ, List.getElem?_cons_zero, List.getElem?_cons_succ, Option.some.injEq, V.int.injEq, V.bl.injEq, V.str.injEq, V.ref.injEq, exists_and_left, exists_eq_left, if_true, if_false, Bool.not_true, Bool.not_false, Bool.false_eq_true, List.map_cons, List.map_nil, List.cons.injEq, and_true, true_and, exists_eq_left']
  refine isi_one (hd.mono (hid_same _ _)) (by simp) ⟨_, rfl, ite2 (fun e => ?_) (fun e => ?_)⟩
  · obtain ⟨m, ds, rfl, rfl, hrow⟩ := vt_tup (hv.resolve_right fun ⟨x, h⟩ => by subst h; exact absurd (show false = true from e) Bool.false_ne_true) e
    obtain ⟨a, xs, rfl, ha, hxs⟩ := dp_tup hd
    have hl := dpa_len hxs
    obtain ⟨h7, hne⟩ := vrow_len hrow
    have ha' : SqT K H a xs := sameT (hid_same _ _) ha
    refine tLc_data (K := K) (zs := xs) (Z := Z) (f := fun i => ls m (ds.getD i .none)) (fun R r1 r2 => .inr ⟨_, rfl, a, rfl, ⟨_, ha'⟩, r2 a H (Same.refl _) ha'⟩) (by omega) hZ (fun i x D H2 Q2 hi g2 hD hD2 k2 => ?_) (fun D H2 ys g2 hD dZ hly hR hD2 => ?_)
    · simp only [cxOf, Cx.nox, tSeq, C8.tCut, tAsg, tRet, tRetN, tIfS, tTest, tB, tAnd, tOr, tNot, tAndV, tOrV, tNotV, tIf, tOp, tUn, tCB, tCall, tCons, tNil, tC, tTup, tLst, tChain, tPar, tDrop, tNext, tSl, tPart, tNoPart, tBM, tBM0, tM1, tM0, tAug, ipI, gName, gSub, tVar, wipe, rI0, rI, rU, List.cons_append, List.nil_append, List.append_nil, List.set_cons_zero, List.set_cons_succ, List.getElem?_cons_zero, List.getElem?_cons_succ, Option.some.injEq, V.int.injEq, V.bl.injEq, V.str.injEq, V.ref.injEq, exists_and_left, exists_eq_left, if_true, if_false, Bool.not_true, Bool.not_false, Bool.false_eq_true, List.map_cons, List.map_nil, List.cons.injEq, and_true, true_and, exists_eq_left']
      obtain ⟨e, h1, h2⟩ := dpa_get hxs hi
      have hge : ds.getD i .none = e := by rw [List.getD_eq_getElem?_getD, h1]; rfl
      rw [hge] at k2
      refine ⟨Nat.succ_ne_zero m, D :: Z, x, e, rfl, ?_, ?_, (vrow_part hrow (List.mem_of_getElem? h1)).symm, fun u H3 g3 hu => k2 _ _ hu g3⟩
      · refine h2.mono fun b o e => ?_
        obtain ⟨e1, e2⟩ := hid_some e
        rw [hid_ne]
        · exact g2 _ _ e1
        · intro hm
          rcases List.mem_cons.mp hm with z | z
          · rw [z, hD] at e1; cases e1
          · exact e2 z
      · intro z hz
        rcases List.mem_cons.mp hz with h | h
        · rw [h]; exact hD2
        · cases e : H z with
          | none => exact absurd e (hZ z h)
          | some o => rw [g2 _ _ e]; exact fun e => nomatch e
    · refine q _ _ g2 (row_L hD2 dZ (dpa_at (hly.trans hl) fun i y hy => ?_))
      have hi : i < ds.length := by
        have := (List.getElem?_eq_some_iff.mp hy).1
        omega
      refine ⟨ds[i], by simp [hi], ?_⟩
      have := hR i y hy
      have hge : ds.getD i .none = ds[i] := by rw [List.getD_eq_getElem?_getD]; simp [hi]
      rw [hge] at this
      exact this.mono (hid_less (fun z hz => List.mem_cons_of_mem _ hz) _)
  · have : ls n d = d := by cases n <;> cases d <;> first | rfl | exact absurd rfl e
    rw [this] at q
    exact q v H (Same.refl _) hd
theorem lists_b : ∀ (kV doc pm : Value) (an : Option Addr) (cdv ct : Value) (us : List Value), us.length = f_law_lists_P.length → bindArgs (PySem.W.fnOf "_law_lists" "_law_lists" (defArgs f_law_lists_s) (defBody f_law_lists_s) (defScope f_law_lists_s) .none kV doc pm an cdv ct) ⟨us, []⟩ = pure (f_law_lists_P.zip us) :=
  fun _ _ _ _ _ _ us hl => match us, hl with | [_], _ => rfl
theorem cal_law_lists (T : Tx K mg) : ∀ n, Cal P w K mg base (n + 1) "_law_lists" (spLists K n)
  | 0 => lists_step T (k := 0) (T.lists.zero lists_b fun vs H Q E h => h.1 rfl)
  | n + 1 => lists_step T (k := n + 1) ((cal_law_lists T n).imp fun vs H Q E h => h.2)
end
end Rm

set_option Elab.async false
set_option linter.all false
set_option maxRecDepth 100000
set_option maxHeartbeats 4000000
namespace Rm
open PySem PySem.Spec PyProof.Rows L2
theorem rowT_congr {f g : PyData → Str} {ds : List PyData} (h : ∀ e ∈ ds, wordOf f e = wordOf g e) : rowT f ds = rowT g ds := by
  unfold rowT
  rw [List.map_congr_left h]
theorem wordOf_word {f : PyData → Str} {e : PyData} (h : ∀ x, e ≠ .str x) : wordOf f e = f e := by
  cases e <;> first | rfl | exact absurd rfl (h _)
theorem vt_nos {n : Nat} {e : PyData} (h : vt n e) : ∀ x, e ≠ .str x := fun x z => by subst z; cases n <;> exact h.elim
theorem vt_succ : ∀ {n : Nat} {d : PyData}, vt n d → vt (n + 1) d ∧ txt (n + 1) d = txt n d ∧ sq n d
  | n, .int i, h => ⟨vt_int (by cases n <;> exact h), by cases n <;> rfl, by cases n <;> trivial⟩
  | n + 1, .tuple ds, h => by
    obtain ⟨hd, es, rfl, h1, h2, h3⟩ := h
    refine ⟨⟨hd, es, rfl, h1, h2, fun e he => (vt_succ (h3 e he)).1⟩, ?_, ⟨by omega, fun e he => ?_⟩⟩
    · refine rowT_congr fun e he => ?_
      rcases List.mem_append.mp he with z | z
      · obtain ⟨x, _, rfl⟩ := List.mem_map.mp z
        rfl
      · rw [vt_nostr' (h3 e z), vt_nostr' (h3 e z)]
        exact (vt_succ (h3 e z)).2.1
    · rcases List.mem_append.mp he with z | z
      · obtain ⟨x, _, rfl⟩ := List.mem_map.mp z
        cases n <;> trivial
      · exact (vt_succ (h3 e z)).2.2
  | 0, .tuple ds, h => h.elim
  | 0, .list _, h => h.elim
  | _ + 1, .list _, h => h.elim
  | 0, .none, h => h.elim
  | _ + 1, .none, h => h.elim
  | 0, .bool _, h => h.elim
  | _ + 1, .bool _, h => h.elim
  | 0, .str _, h => h.elim
  | _ + 1, .str _, h => h.elim
  | 0, .dict _, h => h.elim
  | _ + 1, .dict _, h => h.elim
theorem vt_le {n m : Nat} {d : PyData} (h : n ≤ m) (v : vt n d) : vt m d ∧ txt m d = txt n d := by
  induction h with
  | refl => exact ⟨v, rfl⟩
  | step _ ih =>
    obtain ⟨h1, h2, _⟩ := vt_succ ih.1
    exact ⟨h1, h2.trans ih.2⟩
theorem vt_sq {n : Nat} {d : PyData} (v : vt n d) : sq n d := (vt_succ v).2.2
theorem ls_facts : ∀ {n : Nat} {d : PyData}, vt n d → va n (ls n d) ∧ txt n (ls n d) = txt n d ∧ cl n (ls n d) = cl n d ∧ (∀ x, ls n d ≠ .str x)
  | n, .int i, h => by cases n <;> exact ⟨h, rfl, rfl, fun x e => (nomatch e)⟩
  | n + 1, .tuple ds, h => by
    obtain ⟨hd, es, rfl, h1, h2, h3⟩ := h
    have es' : ∀ hd : List Str, (hd.map PyData.str).map (ls n) = hd.map PyData.str := fun hd => by
      rw [List.map_map]
      exact List.map_congr_left fun x _ => by cases n <;> rfl
    refine ⟨⟨hd, es.map (ls n), ?_, h1, ?_, fun e he => ?_⟩, ?_, ?_, fun x e => (nomatch e)⟩
    · rw [List.map_append, es']
    · rw [List.length_map]; exact h2
    · obtain ⟨e', he', rfl⟩ := List.mem_map.mp he
      exact (ls_facts (h3 e' he')).1
    · show rowT (txt n) ((hd.map PyData.str ++ es).map (ls n)) = rowT (txt n) (hd.map PyData.str ++ es)
      unfold rowT
      rw [List.map_map]
      rw [List.map_congr_left (g := wordOf (txt n)) fun e he => ?_]
      rcases List.mem_append.mp he with z | z
      · obtain ⟨x, _, rfl⟩ := List.mem_map.mp z
        cases n <;> rfl
      · obtain ⟨_, q2, _, q4⟩ := ls_facts (h3 e z)
        show wordOf (txt n) (ls n e) = _
        rw [wordOf_word q4, wordOf_word (vt_nos (h3 e z)), q2]
    · show 1 + (((hd.map PyData.str ++ es).map (ls n)).map (cl n)).sum = 1 + ((hd.map PyData.str ++ es).map (cl n)).sum
      rw [List.map_map]
      rw [List.map_congr_left (g := cl n) fun e he => ?_]
      rcases List.mem_append.mp he with z | z
      · obtain ⟨x, _, rfl⟩ := List.mem_map.mp z
        cases n <;> rfl
      · exact (ls_facts (h3 e z)).2.2.1
  | 0, .tuple ds, h => h.elim
  | 0, .list _, h => h.elim
  | _ + 1, .list _, h => h.elim
  | 0, .none, h => h.elim
  | _ + 1, .none, h => h.elim
  | 0, .bool _, h => h.elim
  | _ + 1, .bool _, h => h.elim
  | 0, .str _, h => h.elim
  | _ + 1, .str _, h => h.elim
  | 0, .dict _, h => h.elim
  | _ + 1, .dict _, h => h.elim
def tb : Nat → Nat
  | 0 => 31
  | n + 1 => 7 * (tb n + 1) + 2
theorem tb_ge : ∀ n, 31 ≤ tb n
  | 0 => Nat.le_refl _
  | n + 1 => by have := tb_ge n; simp only [tb]; omega
theorem sum_le {b : Nat} : ∀ {l : List Nat}, (∀ x ∈ l, x ≤ b) → l.sum ≤ l.length * b
  | [], _ => by simp
  | x :: r, h => by
    have h1 := h x (by simp)
    have h2 := sum_le fun y hy => h y (List.mem_cons_of_mem _ hy)
    rw [List.sum_cons, List.length_cons, Nat.succ_mul]
    omega
theorem rowT_le {f : PyData → Str} {ds : List PyData} {b : Nat} (hne : ds ≠ []) (h7 : ds.length ≤ 7) (h : ∀ e ∈ ds, (wordOf f e).length ≤ b) : (rowT f ds).length ≤ 7 * (b + 1) + 2 := by
  rw [rowT_len]
  have h1 := join_size (ys := ds.map (wordOf f)) (by simpa using hne)
  have h2 : ((ds.map (wordOf f)).map (·.length)).sum ≤ ((ds.map (wordOf f)).map (·.length)).length * b := sum_le fun x hx => by
    obtain ⟨y, hy, rfl⟩ := List.mem_map.mp hx
    obtain ⟨e, he, rfl⟩ := List.mem_map.mp hy
    exact h e he
  simp only [List.length_map] at h2
  have h3 : ds.length * b ≤ 7 * b := Nat.mul_le_mul_right _ h7
  rw [List.length_map] at h1
  omega
theorem txt_le : ∀ {n : Nat} {d : PyData}, vt n d → (txt n d).length ≤ tb n
  | n, .int i, h => by
    have : (txt n (.int i)).length = (sg i).length := by rw [int_len, ← tl_int]; cases n <;> rfl
    rw [this]
    have := sg_len (i := i) (by cases n <;> exact h)
    have := tb_ge n
    omega
  | n + 1, .tuple ds, h => by
    obtain ⟨hd, es, rfl, h1, h2, h3⟩ := h
    refine rowT_le (by simp [hd_ne h1]) h2 fun e he => ?_
    rcases List.mem_append.mp he with z | z
    · obtain ⟨x, hx, rfl⟩ := List.mem_map.mp z
      have := (hd_words h1 x hx).2.2
      have := tb_ge n
      show x.length ≤ _
      omega
    · rw [vt_nostr' (h3 e z)]
      exact txt_le (h3 e z)
  | 0, .tuple ds, h => h.elim
  | 0, .list _, h => h.elim
  | _ + 1, .list _, h => h.elim
  | 0, .none, h => h.elim
  | _ + 1, .none, h => h.elim
  | 0, .bool _, h => h.elim
  | _ + 1, .bool _, h => h.elim
  | 0, .str _, h => h.elim
  | _ + 1, .str _, h => h.elim
  | 0, .dict _, h => h.elim
  | _ + 1, .dict _, h => h.elim
/-- a value of the law: a tree of tuples, its text not long -/
def gd (d : PyData) : Prop := vt 100 d ∧ (txt 100 d).length ≤ 100000
theorem gd_thing {n : Nat} {d : PyData} (hn : n ≤ 4) (h : vt n d) : gd d := by
  obtain ⟨h1, _⟩ := vt_le hn h
  obtain ⟨h3, h4⟩ := vt_le (show n ≤ 100 by omega) h
  obtain ⟨h5, h6⟩ := vt_le (show 4 ≤ 100 by decide) h1
  refine ⟨h3, ?_⟩
  rw [h6]
  exact Nat.le_trans (txt_le h1) (by decide)
/-! ### the chain -/
theorem nm_cons : nm "cons" = true := by decide +kernel
theorem nm_a : nm "a" = true := by decide +kernel
theorem word_int (f : PyData → Str) (i : Int) : wordOf f (.int i) = f (.int i) := rfl
theorem small_num : ∀ k : Nat, k < 59 → (Str.ofString (toString (k : Int))).length ≤ 2 := fun k h => by
  rw [int_len, tl_int]
  unfold sg
  rw [if_neg (by omega)]
  have : ∀ k : Nat, k < 59 → (TL.numL k).length ≤ 2 := by decide +kernel
  have e : ((k : Int)).natAbs = k := by omega
  rw [e]
  exact this k h
theorem txt_a {n : Nat} {d : PyData} (h : vt n d) : vt (n + 1) (.tuple [.str "a", d]) ∧ txt (n + 1) (.tuple [.str "a", d]) = ("(a " ++ txt n d) ++ ")" := by
  refine ⟨⟨["a"], [d], rfl, .inl ⟨_, rfl, nm_a⟩, by show 2 ≤ 7; decide, fun e he => by rw [List.mem_singleton.mp he]; exact h⟩, ?_⟩
  show rowT (txt n) [.str "a", d] = _
  unfold rowT
  have e : [PyData.str "a", d].map (wordOf (txt n)) = (["a", txt n d] : List Str) := by
    show [wordOf (txt n) (.str "a"), wordOf (txt n) d] = _
    rw [vt_nostr' h]
    rfl
  rw [e]
  have e2 : ("(" : Str) ++ Txt.join " " (["a", txt n d] : List Str) = "(a " ++ txt n d := by
    have : tl ("(" ++ Txt.join " " (["a", txt n d] : List Str)) = tl ("(a " ++ txt n d) := by
      rw [tl_app, tl_app, tl_join]
      have a1 : tl "(" = [40] := by decide +kernel
      have a2 : tl "a" = [97] := by decide +kernel
      have a3 : tl "(a " = [40, 97, 32] := by decide +kernel
      rw [a1, a3]
      show [40] ++ (tl "a" ++ ([32] ++ tl (txt n d))) = _
      rw [a2]
      rfl
    rw [← SX.S_tl ("(" ++ Txt.join " " (["a", txt n d] : List Str)), show ("(" ++ Txt.join " " (["a", txt n d] : List Str)).cps.toList = _ from this]
  rw [e2]
theorem txt_c {n : Nat} {d : PyData} {k : Nat} (h : vt n d) (hk : k < 59) : vt (n + 1) (.tuple [.str "cons", .int (k : Int), d]) ∧ (txt (n + 1) (.tuple [.str "cons", .int (k : Int), d])).length ≤ (txt n d).length + 10 := by
  refine ⟨⟨["cons"], [.int k, d], rfl, .inl ⟨_, rfl, nm_cons⟩, by show 3 ≤ 7; decide, fun e he => ?_⟩, ?_⟩
  · rcases List.mem_cons.mp he with rfl | z
    · refine vt_int ?_
      have : (10 : Nat) ^ 30 = 1000000000000000000000000000000 := by decide
      omega
    · rw [List.mem_singleton.mp z]; exact h
  show (rowT (txt n) [.str "cons", .int k, d]).length ≤ _
  rw [rowT_len]
  have h1 := join_size (ys := [PyData.str "cons", .int (k : Int), d].map (wordOf (txt n))) (by simp)
  have e1 : wordOf (txt n) (.str "cons") = "cons" := rfl
  have e2 : wordOf (txt n) (.int (k : Int)) = Str.ofString (toString (k : Int)) := by cases n <;> rfl
  have e3 : ("cons" : Str).length = 4 := by decide +kernel
  have h2 := small_num k hk
  simp only [List.map_cons, List.map_nil, e1, e2, e3, vt_nostr' h, List.sum_cons, List.sum_nil, List.length_cons, List.length_nil] at h1 ⊢
  omega
def chn (i : Nat) (d : PyData) : Prop := vt i d ∧ (txt i d).length ≤ 1 + 10 * i
theorem chn_0 : chn 0 (.int 7) := ⟨vt_int (by decide), by decide +kernel⟩
theorem chn_a {i : Nat} {d : PyData} (h : chn i d) : chn (i + 1) (.tuple [.str "a", d]) := by
  obtain ⟨h1, h2⟩ := txt_a h.1
  refine ⟨h1, ?_⟩
  rw [h2, strLen_append, strLen_append]
  have e1 : ("(a " : Str).length = 3 := by decide +kernel
  have e2 : (")" : Str).length = 1 := by decide +kernel
  have := h.2
  omega
theorem chn_c {i k : Nat} {d : PyData} (h : chn i d) (hk : k < 59) : chn (i + 1) (.tuple [.str "cons", .int (k : Int), d]) := by
  obtain ⟨h1, h2⟩ := txt_c h.1 hk
  exact ⟨h1, by have := h.2; omega⟩
theorem chn_gd {i : Nat} {d : PyData} (hi : i ≤ 100) (h : chn i d) : gd d := by
  obtain ⟨h1, h2⟩ := vt_le hi h.1
  exact ⟨h1, by rw [h2]; have := h.2; omega⟩
/-! ### the deep one -/
def deep : Nat → PyData
  | 0 => .int 7
  | i + 1 => .tuple [.str "a", deep i]
theorem mul_tl (x : Str) (n : Nat) : tl (Txt.mul x n) = (List.replicate n (tl x)).flatten := by
  unfold Txt.mul
  by_cases h1 : (n : Int) < 1
  · rw [if_pos h1]
    have e : n = 0 := by omega
    subst e
    rfl
  · rw [if_neg h1]
    by_cases h2 : n = 1
    · subst h2
      simp
    · by_cases h3 : x.length = 0
      · have e : ((n : Int) == 1 || x.length == 0) = true := by simp [h3]
        rw [if_pos e]
        have : tl x = [] := by
          rw [int_len] at h3
          exact List.eq_nil_of_length_eq_zero h3
        rw [this]
        simp
      · have e : ((n : Int) == 1 || x.length == 0) = false := by
          have a1 : ((n : Int) == 1) = false := by rw [beq_eq_false_iff_ne]; omega
          have a2 : (x.length == 0) = false := by rw [beq_eq_false_iff_ne]; exact h3
          rw [a1, a2]; rfl
        rw [e, if_neg Bool.false_ne_true]
        show ((List.replicate (n : Int).toNat x.cps).foldl (· ++ ·) #[]).toList = _
        have : ∀ (k : Nat) (acc : Array Nat), ((List.replicate k x.cps).foldl (· ++ ·) acc).toList = acc.toList ++ (List.replicate k (tl x)).flatten := by
          intro k
          induction k with
          | zero => intro acc; simp
          | succ k ih =>
            intro acc
            rw [List.replicate_succ, List.foldl_cons, ih]
            simp [List.replicate_succ]
        rw [this]
        simp
theorem rep_end (l : List Nat) : ∀ n, (List.replicate (n + 1) l).flatten = (List.replicate n l).flatten ++ l
  | 0 => by simp
  | n + 1 => by
    have := rep_end l n
    show (l :: List.replicate (n + 1) l).flatten = (l :: List.replicate n l).flatten ++ l
    rw [List.flatten_cons, List.flatten_cons, this, List.append_assoc]
theorem deep_txt : ∀ n, vt n (deep n) ∧ txt n (deep n) = (Txt.mul "(a " n ++ "7") ++ Txt.mul ")" n
  | 0 => ⟨vt_int (by decide), by decide +kernel⟩
  | n + 1 => by
    obtain ⟨h1, h2⟩ := deep_txt n
    obtain ⟨h3, h4⟩ := txt_a h1
    refine ⟨h3, ?_⟩
    show txt (n + 1) (.tuple [.str "a", deep n]) = _
    rw [h4, h2]
    have : tl (("(a " ++ ((Txt.mul "(a " n ++ "7") ++ Txt.mul ")" n)) ++ ")") = tl ((Txt.mul "(a " (n + 1 : Nat) ++ "7") ++ Txt.mul ")" (n + 1 : Nat)) := by
      simp only [tl_app, mul_tl]
      rw [rep_end (tl ")"), List.replicate_succ, List.flatten_cons]
      simp
    rw [← SX.S_tl (("(a " ++ ((Txt.mul "(a " n ++ "7") ++ Txt.mul ")" n)) ++ ")"), show ((("(a " ++ ((Txt.mul "(a " n ++ "7") ++ Txt.mul ")" n)) ++ ")") : Str).cps.toList = _ from this]
theorem deep_len (n : Nat) : (txt n (deep n)).length = 4 * n + 1 := by
  induction n with
  | zero => decide +kernel
  | succ n ih =>
    obtain ⟨h3, h4⟩ := txt_a (deep_txt n).1
    show (txt (n + 1) (.tuple [.str "a", deep n])).length = _
    rw [h4, strLen_append, strLen_append, ih]
    have e1 : ("(a " : Str).length = 3 := by decide +kernel
    have e2 : (")" : Str).length = 1 := by decide +kernel
    omega
theorem deep_100 {n : Nat} (h : n ≤ 99) : vt 100 (deep n) ∧ txt 100 (deep n) = (Txt.mul "(a " n ++ "7") ++ Txt.mul ")" n ∧ (txt 100 (deep n)).length ≤ 400 := by
  obtain ⟨h1, h2⟩ := deep_txt n
  obtain ⟨h3, h4⟩ := vt_le (show n ≤ 100 by omega) h1
  refine ⟨h3, h4.trans h2, ?_⟩
  rw [h4, deep_len]
  omega
end Rm

set_option Elab.async false
set_option linter.all false
set_option maxRecDepth 100000
set_option maxHeartbeats 4000000
namespace Rm
open PySem PySem.Spec PyProof.Rows L2
section
variable {P : Program} {w : World} {K : PySem.W.Frag} {mg : Str → Option Value} {base : Heap}
theorem tc_le : ∀ {n m : Nat}, n ≤ m → tc n ≤ tc m := by
  intro n m h
  induction h with
  | refl => exact Nat.le_refl _
  | step _ ih => simp only [tc]; omega
theorem Sk.liv {st sl : Addr} {c : Nat} {H : Hp} (k : Sk st sl c H) : Liv [st, sl] st sl H := ⟨by simp, by simp, fun z hz => by
  obtain ⟨_, _, _, _, e1, e2, _⟩ := k
  simp only [List.mem_cons, List.not_mem_nil, or_false] at hz
  rcases hz with rfl | rfl
  · rw [e1]; exact fun e => nomatch e
  · rw [e2]; exact fun e => nomatch e⟩
/-- while the chain grows -/
def CInv (K : PySem.W.Frag) (a st sl D : Addr) (ys : List V) (ds : List PyData) (c : Nat) (i : Nat) (σ : L2.St) (H : Hp) : Prop := ∃ (c' : Nat) (v3 : Option V) (vc : V) (d : PyData), σ = [some (.ref a), some (.ref st), some (.ref D), v3, some vc, none, none, none, none, none] ∧ Sk st sl c' H ∧ c' ≤ c + 1 + i ∧ H D = some (.lst ys) ∧ DpAll K (hid [st, sl] H) ys ds ∧ Dp K (hid [st, sl] H) vc d ∧ chn i d
/-- while the values are looked at -/
def WInv (K : PySem.W.Frag) (a st sl p : Addr) (xs : List V) (ds : List PyData) (c : Nat) (i : Nat) (σ : L2.St) (H : Hp) : Prop := ∃ (c' : Nat) (v2 v3 v4 v5 v6 v7 : Option V), σ = [some (.ref a), some (.ref st), v2, v3, v4, v5, v6, v7, none, none] ∧ Sk st sl c' H ∧ c' ≤ c + i ∧ H p = some (.lst xs) ∧ DpAll K (hid [st, sl] H) xs ds
def DInv (K : PySem.W.Frag) (a st : Addr) (v2 v4 v5 v6 v7 : Option V) (r : Int) (i : Nat) (σ : L2.St) (H : Hp) : Prop := ∃ (v3 : Option V) (w : V), σ = [some (.ref a), some (.ref st), v2, v3, v4, v5, v6, v7, some (.int r), some w] ∧ Dp K H w (deep i)
def spLaw (K : PySem.W.Frag) : Sp := fun vs H Q _ => ∃ (a : Addr) (ns : List Int), vs = [.ref a] ∧ SqL K H a (ns.map V.int) ∧ ns.length ≤ 63 ∧ ∀ H', Q (.bl true) H'
theorem body_law (T : Tx K mg) (f : Addr) (cdv : Value) (s : Shared) (H : Hp) (a : Addr) (Q : VK) (hr : Room 110 (callerA.deeper (envOfC "law" (defScope f_law_s) s.heap.objs.size f cdv))) (h : spLaw K [.ref a] H Q E0) :
    ∃ t, PSs (cxOf CX0 P w K mg base f_law_N "law" (defScope f_law_s) f cdv callerA [] s H E0).nox (defBody f_law_s) t ∧ t { nx := fun _ H' => Q .non H', rt := Q } (L2.start f_law_N [.ref a]) H := by
  obtain ⟨a', ns, e, hS, hl, q⟩ := h
  obtain rfl : a = a' := by simpa using e
  refine ⟨_, (pss_cons (ps_set (i := 1) f_law_sc.nd rfl (Or.inr rfl) (pe_c (cal_law_start T) hr (by omega) rfl (pa_cons (pv 0) pa_nil)))
      (pss_cons (ps_setLc (i := 2) (own := [("_law_k", 3)]) (g := gName 3) (tt := tYes) rfl f_law_sc.nd rfl rfl (sw_true rfl rfl rfl (by decide +kernel)) (pi_range1 rfl T.n_range (pa_cons pe_int pa_nil)) (blkOk_by (own := [("_law_k", 3)]) (N := f_law_N) (sc := defScope f_law_s) (by decide +kernel)) (fun _ _ _ _ _ => (pg_name (i := 3) f_law_sc.nd rfl (Or.inl rfl))) (fun _ _ _ _ _ => pts_nil) (fun _ _ _ _ _ => (pe_c (cal_law_thing T 4) hr (by omega) rfl (pa_cons (pv 1) (pa_cons (pe_op op_add pe_int (pe_c (cal_draw T) hr (by omega) rfl (pa_cons (pv 1) (pa_cons pe_int pa_nil)))) pa_nil)))))
      (pss_cons (ps_set (i := 4) f_law_sc.nd rfl (Or.inl rfl) pe_int)
      (pss_cons (ps_for PassesOwn.never rfl (pi_range1 rfl T.n_range (pa_cons (pe_c (cal_draw T) hr (by omega) rfl (pa_cons (pv 1) (pa_cons pe_int pa_nil))) pa_nil)) (pg_name (i := 3) f_law_sc.nd rfl (Or.inl rfl)) (pss_one (ps_set (i := 4) f_law_sc.nd rfl (Or.inl rfl) (pe_ix ix_list (pe_lst (pa_cons (pe_tup (pa_cons pe_str (pa_cons (pv 3) (pa_cons (pv 4) pa_nil)))) (pa_cons (pe_tup (pa_cons pe_str (pa_cons (pv 4) pa_nil))) pa_nil))) (pe_callTy call_int_b rfl T.n_int (by decide +kernel) (pa_cons (pe_cmpR op_gt (pe_c (cal_draw T) hr (by omega) rfl (pa_cons (pv 1) (pa_cons pe_int pa_nil))) pe_int (nomark _)) pa_nil)) (fun _ _ => rfl)))))
      (pss_cons (ps_for PassesOwn.never rfl (pi_list (pe_op op_cat (pv 2) (pe_lst (pa_cons (pv 4) pa_nil)))) (pg_name (i := 5) f_law_sc.nd rfl (Or.inl rfl)) (pss_cons (ps_set (i := 6) f_law_sc.nd rfl (Or.inl rfl) (pe_c (cal_law_text T 100) hr (by omega) rfl (pa_cons (pv 5) pa_nil)))
      (pss_cons (ps_set (i := 7) f_law_sc.nd rfl (Or.inl rfl) (pe_ifExp (pt_cmpR op_eq (pe_c (cal_draw T) hr (by omega) rfl (pa_cons (pv 1) (pa_cons pe_int pa_nil))) pe_int (nomark _)) (pe_c (cal_law_lists T 100) hr (by omega) rfl (pa_cons (pv 5) pa_nil)) (pv 5)))
      (pss_cons (ps_if (PW.pt (pw_or (pt_cmpR op_ne (pe_c (cal_value_text T 100) hr (by omega) rfl (pa_cons (pv 7) pa_nil)) (pv 6) (nomark _)) (pw_or1 (pt_not (pt_val (pe_c (cal_law_same T 100) hr (by omega) rfl (pa_cons (pe_c (cal_cells_of T 100) hr (by omega) rfl (pa_cons (pv 7) pa_nil)) (pa_cons (pe_c (cal_law_cells T 100) hr (by omega) rfl (pa_cons (pv 5) pa_nil)) pa_nil)))))))) (pss_one (ps_ret pe_bl)) pss_nil)
      (pss_one (ps_if (PW.pt (pw_and (pt_cmpR op_lt (pe_callB call_len_str rfl T.n_len (by decide +kernel) (pa_cons (pv 6) pa_nil)) pe_int (nomark _)) (pw_and1 (pt_not (pt_val (pe_c (cal_law_same T 100) hr (by omega) rfl (pa_cons (pe_c (cal_read_value T 100) hr (by omega) rfl (pa_cons (pv 6) pa_nil)) (pa_cons (pv 5) pa_nil)))))))) (pss_one (ps_ret pe_bl)) pss_nil))))))
      (pss_cons (ps_par (i := 8) (j := 9) (by rfl) f_law_sc.nd rfl rfl (by decide) rfl rfl (pa_cons (pe_c (cal_draw T) hr (by omega) rfl (pa_cons (pv 1) (pa_cons pe_int pa_nil))) (pa_cons pe_int pa_nil)) (by rfl))
      (pss_cons (ps_for PassesOwn.never rfl (pi_range1 rfl T.n_range (pa_cons (pv 8) pa_nil)) (pg_name (i := 3) f_law_sc.nd rfl (Or.inl rfl)) (pss_one (ps_set (i := 9) f_law_sc.nd rfl (Or.inl rfl) (pe_tup (pa_cons pe_str (pa_cons (pv 9) pa_nil))))))
      (pss_one (ps_ret (pe_c (cal_law_same T 100) hr (by omega) rfl (pa_cons (pe_c (cal_read_value T 100) hr (by omega) rfl (pa_cons (pe_op op_add_str (pe_op op_add_str (pe_op op_mul_str pe_str (pv 8)) pe_str) (pe_op op_mul_str pe_str (pv 8))) pa_nil)) (pa_cons (pv 9) pa_nil)))))))))))), ?_⟩
  rw [show L2.start f_law_N [.ref a] = [some (.ref a), none, none, none, none, none, none, none, none, none] from rfl]
  simp only [cxOf, Cx.nox, tSeq, C8.tCut, tAsg, tRet, tRetN, tIfS, tTest, tB, tAnd, tOr, tNot, tAndV, tOrV, tNotV, tIf, tOp, tUn, tCB, tCall, tCons, tNil, tC, tTup, tLst, tChain, tPar, tDrop, tNext, tSl, tPart, tNoPart, tBM, tBM0, tM1, tM0, tAug, ipI, gName, gSub, tVar, wipe, rI0, rI, rU, List.cons_append, List.nil_append, List.append_nil, List.set_cons_zero, List.set_cons_succ, List.getElem?_cons_zero, List.getElem?_cons_succ, Option.some.injEq, V.int.injEq, V.bl.injEq, V.str.injEq, V.ref.injEq, exists_and_left, exists_eq_left, if_true, if_false, Bool.not_true, Bool.not_false, Bool.false_eq_true, List.map_cons, List.map_nil, List.cons.injEq, and_true, true_and, exists_eq_left']
  refine ⟨a, ns, rfl, hS, hl, fun st sl H1 g1 k1 => ?_⟩
  dsimp only
  refine tLc_draws (lo := 0) (n := 8) (c := 0) (u := 7256) (Z := [st, sl]) (fun R r => ⟨8, rfl, by decide, by decide, r⟩) (by decide) k1 k1.liv (fun Hh v => ∃ d, Dp K Hh v d ∧ gd d) (fun _ _ _ g ⟨d, h, o⟩ => ⟨d, h.mono g, o⟩) (fun D i H2 c2 Q2 hi g2 k2 l2 hc2 kk => ?_) (fun D H2 ys c2 g2 k2 hc2 hly hR hD l2 nD nD0 => ?_)
  · simp only [cxOf, Cx.nox, tSeq, C8.tCut, tAsg, tRet, tRetN, tIfS, tTest, tB, tAnd, tOr, tNot, tAndV, tOrV, tNotV, tIf, tOp, tUn, tCB, tCall, tCons, tNil, tC, tTup, tLst, tChain, tPar, tDrop, tNext, tSl, tPart, tNoPart, tBM, tBM0, tM1, tM0, tAug, ipI, gName, gSub, tVar, wipe, rI0, rI, rU, List.cons_append, List.nil_append, List.append_nil, List.set_cons_zero, List.set_cons_succ, List.getElem?_cons_zero, List.getElem?_cons_succ, Option.some.injEq, V.int.injEq, V.bl.injEq, V.str.injEq, V.ref.injEq, exists_and_left, exists_eq_left, if_true, if_false, Bool.not_true, Bool.not_false, Bool.false_eq_true, List.map_cons, List.map_nil, List.cons.injEq, and_true, true_and, exists_eq_left']
    refine ⟨st, sl, c2, 4, rfl, k2, by omega, by decide, by decide, fun r H3 r0 r1 k3 g3 => ⟨r, rfl, ?_⟩⟩
    refine ⟨(1 + r).toNat, by omega, D :: [st, sl], st, sl, c2 + 1, ?_, k3, l2.keep g3 k3, ?_, fun v d H4 c4 hd hv k4 hc4 g4 => kk v H4 c4 ⟨d, hd, gd_thing (by omega) hv⟩ (g3.trans g4) k4 ?_⟩
    · have : (1 + r) = (((1 + r).toNat : Nat) : Int) := by omega
      rw [← this]
    · have : tc (1 + r).toNat ≤ tc 4 := tc_le (by omega)
      have h4 : tc 4 = 7255 := rfl
      omega
    · have : tc (1 + r).toNat ≤ tc 4 := tc_le (by omega)
      have h4 : tc 4 = 7255 := rfl
      omega
  obtain ⟨ds, hds, hgd⟩ := dpa_of hR
  have hds2 : DpAll K (hid [st, sl] H2) ys ds := hds.mono (hid_less (fun z hz => List.mem_cons_of_mem _ hz) H2)
  have nDs : D ≠ st ∧ D ≠ sl := by simpa using nD
  have g02 : Keep st sl H2 H2 := .refl _
  clear hds hR l2 nD nD0 g2
  refine ⟨_, rfl, st, sl, c2, 59, rfl, k2, by omega, by decide, by decide, fun r H3 r0 r1 k3 g3 => ⟨r, rfl, by omega, by omega, ?_⟩⟩
  have hc2' : c2 ≤ 58048 := by omega
  refine for_range (lo := 0) (n := r.toNat) (CInv K a st sl D ys ds c2) ⟨c2 + 1, none, .int 7, .int 7, rfl, k3, by omega, g3 _ _ nDs.1 nDs.2 hD, hds2.mono (g3.hid (by simp) (by simp)), .int 7, chn_0⟩ ?_ ?_
  · rintro i σ H4 hi ⟨c4, v3, vc, d, rfl, k4, hc4, eD, hys, hdc, hch⟩
    simp only [cxOf, Cx.nox, tSeq, C8.tCut, tAsg, tRet, tRetN, tIfS, tTest, tB, tAnd, tOr, tNot, tAndV, tOrV, tNotV, tIf, tOp, tUn, tCB, tCall, tCons, tNil, tC, tTup, tLst, tChain, tPar, tDrop, tNext, tSl, tPart, tNoPart, tBM, tBM0, tM1, tM0, tAug, ipI, gName, gSub, tVar, wipe, rI0, rI, rU, List.cons_append, List.nil_append, List.append_nil, List.set_cons_zero, List.set_cons_succ, List.getElem?_cons_zero, List.getElem?_cons_succ, Option.some.injEq, V.int.injEq, V.bl.injEq, V.str.injEq, V.ref.injEq, exists_and_left, exists_eq_left, if_true, if_false, Bool.not_true, Bool.not_false, Bool.false_eq_true, List.map_cons, List.map_nil, List.cons.injEq, and_true, true_and, exists_eq_left']
    rw [Int.zero_add]
    refine ⟨by show 3 ≤ sizeLine; decide, fun p1 hp1 => ⟨by show 2 ≤ sizeLine; decide, fun p2 hp2 => ⟨by show 2 ≤ sizeLine; decide, fun p3 hp3 => ?_⟩⟩⟩
    have f1 := k4.nst hp1
    have f2 := k4.nsl hp1
    have k5 := k4.new (o := .tup [V.str "cons", V.int (i : Int), vc]) hp1
    have f3 := k5.nst hp2
    have f4 := k5.nsl hp2
    have k6 := k5.new (o := .tup [V.str "a", vc]) hp2
    have f5 := k6.nst hp3
    have f6 := k6.nsl hp3
    have k7 := k6.new (o := .lst [V.ref p1, V.ref p2]) hp3
    have G := ((same_new hp1 (.tup [V.str "cons", V.int (i : Int), vc])).trans (same_new hp2 (.tup [V.str "a", vc]))).trans (same_new hp3 (.lst [V.ref p1, V.ref p2]))
    have e1 := same_new hp3 (.lst [V.ref p1, V.ref p2]) _ _ (same_new hp2 (.tup [V.str "a", vc]) _ _ (upd_same (H := H4) (a := p1) (o := .tup [V.str "cons", V.int (i : Int), vc])))
    have e2 := same_new hp3 (.lst [V.ref p1, V.ref p2]) _ _ (upd_same (H := upd H4 p1 (.tup [V.str "cons", V.int (i : Int), vc])) (a := p2) (o := .tup [V.str "a", vc]))
    have e3 : upd (upd (upd H4 p1 (.tup [V.str "cons", V.int (i : Int), vc])) p2 (.tup [V.str "a", vc])) p3 (.lst [V.ref p1, V.ref p2]) p3 = some (.lst [V.ref p1, V.ref p2]) := upd_same
    generalize upd (upd (upd H4 p1 (.tup [V.str "cons", V.int (i : Int), vc])) p2 (.tup [V.str "a", vc])) p3 (.lst [V.ref p1, V.ref p2]) = H5 at k7 G e1 e2 e3 ⊢
    refine ⟨st, sl, c4, 4, rfl, k7, by omega, by decide, by decide, fun r' H6 r0' r1' k8 g8 => ⟨r', rfl, ?_⟩⟩
    have gz : Same (hid [st, sl] H4) (hid [st, sl] H6) := (hid_mono G).trans (g8.hid (by simp) (by simp))
    have hd6 := hdc.mono gz
    have hy6 := hys.mono gz
    have eD6 := g8 _ _ nDs.1 nDs.2 (G _ _ eD)
    have e16 := g8 _ _ f1 f2 e1
    have e26 := g8 _ _ f3 f4 e2
    have e36 := g8 _ _ f5 f6 e3
    by_cases hz : 0 < r'
    · rw [decide_eq_true hz, if_pos rfl]
      refine ⟨p3, _, 1, .ref p2, rfl, rfl, SqL.of e36, rfl, c4 + 1, _, _, .tuple [.str "a", d], rfl, k8, by omega, eD6, hy6, row_T e26 (by simp [f3, f4]) (.cons (.str _) (.cons hd6 .nil)), chn_a hch⟩
    · rw [decide_eq_false hz, if_neg Bool.false_ne_true]
      refine ⟨p3, _, 0, .ref p1, rfl, rfl, SqL.of e36, rfl, c4 + 1, _, _, .tuple [.str "cons", .int i, d], rfl, k8, by omega, eD6, hy6, row_T e16 (by simp [f1, f2]) (.cons (.str _) (.cons (.int _) (.cons hd6 .nil))), chn_c hch (by omega)⟩
  · rintro σ H4 ⟨c4, v3, vc, d, rfl, k4, hc4, eD, hys, hdc, hch⟩
    refine ⟨_, rfl, _, rfl, by show 1 ≤ sizeLine; decide, fun p1 hp1 => ?_⟩
    refine ⟨D, p1, ys, [vc], rfl, rfl, same_new hp1 _ _ _ eD, upd_same, small (by rw [hly]; show 9 ≤ 1000; decide), fun p2 hp2 => ?_⟩
    have k5 := (k4.new (o := .lst [vc]) hp1)
    have f1 := k5.nst hp2
    have f2 := k5.nsl hp2
    have k6 := k5.new (o := .lst (ys ++ [vc])) hp2
    have G := (same_new hp1 (.lst [vc])).trans (same_new hp2 (.lst (ys ++ [vc])))
    have e2 : upd (upd H4 p1 (.lst [vc])) p2 (.lst (ys ++ [vc])) p2 = some (.lst (ys ++ [vc])) := upd_same
    have hall : DpAll K (hid [st, sl] H4) (ys ++ [vc]) (ds ++ [d]) := dpa_app hys (.cons hdc .nil)
    have hgood : ∀ e ∈ ds ++ [d], gd e := fun e he => by
      rcases List.mem_append.mp he with z | z
      · exact hgd e z
      · rw [List.mem_singleton.mp z]; exact chn_gd (by omega) hch
    have hall6 := hall.mono (hid_mono G)
    have hlen : (ys ++ [vc]).length = 9 := by simp [hly]
    generalize upd (upd H4 p1 (.lst [vc])) p2 (.lst (ys ++ [vc])) = H6 at k6 G e2 hall6 ⊢
    refine ⟨p2, rfl, ⟨_, SqL.of e2⟩, ?_⟩
    refine for_it (walk_list (xs := ys ++ [vc])) (WInv K a st sl p2 (ys ++ [vc]) (ds ++ [d]) c4) ⟨c4, _, _, _, _, _, _, rfl, k6, by omega, e2, hall6⟩ (fun i σ H' _ h => by obtain ⟨_, _, _, _, _, _, _, _, _, _, e, _⟩ := h; exact SqL.of e) ?_ ?_
    · rintro i v σ H7 H8 hi ⟨c7, v2, v3, v4, v5, v6, v7, rfl, k7, hc7, e7, hall7⟩ ⟨rfl, hv⟩
      obtain ⟨dv, hdv, hdp⟩ := dpa_get hall7 hv
      obtain ⟨gv, gl⟩ := hgood dv (List.mem_of_getElem? hdv)
      have szl : (400000 : Nat) ≤ sizeLine := by decide
      have fin : ∀ (u : V) (H9 : Hp), Keep st sl H8 H9 → Sk st sl (c7 + 1) H9 → WInv K a st sl p2 (ys ++ [vc]) (ds ++ [d]) c4 (i + 1) [some (V.ref a), some (V.ref st), v2, v3, v4, some v, some (.str (txt 100 dv)), some u, none, none] H9 := fun u H9 g9 k9 =>
        ⟨c7 + 1, _, _, _, _, _, _, rfl, k9, by omega, g9 _ _ f1 f2 e7, hall7.mono (g9.hid (by simp) (by simp))⟩
      have rest : ∀ (u : V) (d' : PyData) (H9 : Hp), Keep st sl H8 H9 → Sk st sl (c7 + 1) H9 → Dp K (hid [st, sl] H9) u d' → va 100 d' → txt 100 d' = txt 100 dv → cl 100 d' = cl 100 dv →
          spText K 100 [u] H9 (fun x_4 H1 => rNe x_4 (.str (txt 100 dv)) H1 fun x_5 H' => ∃ k, x_5 = V.bl k ∧ if k = true then Q (V.bl false) H' else
            spCells K 100 [u] H' (fun x_6 H1 => spLCells K 100 [v] H1 (fun x_7 H1 => spSame K 100 [x_6, x_7] H1 (fun x_8 H1 => ∃ c, x_8 = V.bl c ∧ if (!c) = true then Q (V.bl false) H1 else
              ∃ z, V.str (txt 100 dv) = V.str z ∧ z.length ≤ sizeLine ∧ if decide ((z.length : Int) < 400) = true then spRead K 100 [.str (txt 100 dv)] H1 (fun x_9 H1 => spSame K 100 [x_9, v] H1 (fun x_10 H1 => ∃ c, x_10 = V.bl c ∧ if (!c) = true then Q (V.bl false) H1 else
                WInv K a st sl p2 (ys ++ [vc]) (ds ++ [d]) c4 (i + 1) [some (V.ref a), some (V.ref st), v2, v3, v4, some v, some (.str (txt 100 dv)), some u, none, none] H1) E0) E0
              else WInv K a st sl p2 (ys ++ [vc]) (ds ++ [d]) c4 (i + 1) [some (V.ref a), some (V.ref st), v2, v3, v4, some v, some (.str (txt 100 dv)), some u, none, none] H1) E0) E0) E0) E0 := by
        intro u d' H9 g9 k9 hu hva ht hcl
        have hu' := hu.mono (hid_same _ _)
        have hv9 : Dp K H9 v dv := (hdp.mono (g9.hid (by simp) (by simp))).mono (hid_same _ _)
        refine ⟨u, d', rfl, hu', ⟨hva, by rw [ht]; omega⟩, fun H10 g10 => ⟨rfl, _, rfl, ite2 (fun e => ?_) fun _ => ?_⟩⟩
        · have e2 : decide (V.str (txt 100 d') = V.str (txt 100 dv)) = true := decide_eq_true (congrArg V.str ht)
          have e3 : (!decide (V.str (txt 100 d') = V.str (txt 100 dv))) = true := e
          rw [e2] at e3
          cases e3
        refine ⟨u, d', rfl, hu'.mono g10, hva, fun H11 g11 => ?_⟩
        refine ⟨v, dv, rfl, (hv9.mono g10).mono g11, .inl gv, fun H12 g12 => ?_⟩
        dsimp only
        rw [hcl]
        refine ⟨_, _, .int (cl 100 dv), rfl, .int _, .int _, trivial, fun H13 g13 => ⟨true, rfl, ite2 (fun e => nomatch e) fun _ => ?_⟩⟩
        have G13 := (((Same.trans g10 g11).trans g12).trans g13)
        refine ⟨_, rfl, by omega, ite2 (fun e => ?_) fun _ => ?_⟩
        · have e' := of_decide_eq_true e
          refine ⟨dv, rfl, gv, by omega, fun v' H14 g14 hv' => ?_⟩
          refine ⟨v', v, dv, rfl, hv', hv9.mono (G13.trans g14), vt_sq gv, fun H15 g15 => ⟨true, rfl, ite2 (fun e => nomatch e) fun _ => ?_⟩⟩
          exact fin u H15 (g9.trans (.same ((G13.trans g14).trans g15))) (k9.same ((G13.trans g14).trans g15))
        · exact fin u H13 (g9.trans (.same G13)) (k9.same G13)
      simp only [cxOf, Cx.nox, tSeq, C8.tCut, tAsg, tRet, tRetN, tIfS, tTest, tB, tAnd, tOr, tNot, tAndV, tOrV, tNotV, tIf, tOp, tUn, tCB, tCall, tCons, tNil, tC, tTup, tLst, tChain, tPar, tDrop, tNext, tSl, tPart, tNoPart, tBM, tBM0, tM1, tM0, tAug, ipI, gName, gSub, tVar, wipe, rI0, rI, rU, List.cons_append, List.nil_append, List.append_nil, List.set_cons_zero, List.set_cons_succ, List.getElem?_cons_zero, List.getElem?_cons_succ, Option.some.injEq, V.int.injEq, V.bl.injEq, V.str.injEq, V.ref.injEq, exists_and_left, exists_eq_left, if_true, if_false, Bool.not_true, Bool.not_false, Bool.false_eq_true, List.map_cons, List.map_nil, List.cons.injEq, and_true, true_and, exists_eq_left']
      refine ⟨v, dv, rfl, hdp.mono (hid_same _ _), ⟨gv, by omega⟩, fun H9 g9 => ?_⟩
      dsimp only
      have k9 := k7.same g9
      refine ⟨st, sl, c7, 2, rfl, k9, by omega, by decide, by decide, fun r' H10 r0' r1' k10 g10 => ⟨rfl, _, rfl, ite2 (fun _ => ?_) fun _ => ?_⟩⟩
      · have G10 : Keep st sl H8 H10 := (Keep.same g9).trans g10
        refine ⟨[st, sl], v, dv, rfl, hdp.mono (G10.hid (by simp) (by simp)), fun z hz => k10.liv.on z hz, .inl gv, fun u H11 g11 hu => ?_⟩
        obtain ⟨q1, q2, q3, _⟩ := ls_facts gv
        exact rest u _ H11 (G10.trans (.same g11)) (k10.same g11) hu q1 q2 q3
      · have G10 : Keep st sl H8 H10 := (Keep.same g9).trans g10
        exact rest v dv H10 G10 k10 (hdp.mono (G10.hid (by simp) (by simp))) (va_of_vt gv) rfl rfl
    · rintro σ H7 ⟨c7, v2, v3, v4, v5, v6, v7, rfl, k7, hc7, e7, hall7⟩
      simp only [cxOf, Cx.nox, tSeq, C8.tCut, tAsg, tRet, tRetN, tIfS, tTest, tB, tAnd, tOr, tNot, tAndV, tOrV, tNotV, tIf, tOp, tUn, tCB, tCall, tCons, tNil, tC, tTup, tLst, tChain, tPar, tDrop, tNext, tSl, tPart, tNoPart, tBM, tBM0, tM1, tM0, tAug, ipI, gName, gSub, tVar, wipe, rI0, rI, rU, List.cons_append, List.nil_append, List.append_nil, List.set_cons_zero, List.set_cons_succ, List.getElem?_cons_zero, List.getElem?_cons_succ, Option.some.injEq, V.int.injEq, V.bl.injEq, V.str.injEq, V.ref.injEq, exists_and_left, exists_eq_left, if_true, if_false, Bool.not_true, Bool.not_false, Bool.false_eq_true, List.map_cons, List.map_nil, List.cons.injEq, and_true, true_and, exists_eq_left']
      refine ⟨st, sl, c7, 100, rfl, k7, by omega, by decide, by decide, fun r' H8 r0' r1' k8 g8 => ⟨_, _, ⟨rfl, rfl⟩, ?_⟩⟩
      refine ⟨_, rfl, r', rfl, by omega, by omega, ?_⟩
      refine for_range (lo := 0) (n := r'.toNat) (DInv K a st v2 v4 v5 v6 v7 r') ⟨v3, _, rfl, .int 7⟩ ?_ ?_
      · rintro i σ H9 hi ⟨v3, w, rfl, hw⟩
        simp only [cxOf, Cx.nox, tSeq, C8.tCut, tAsg, tRet, tRetN, tIfS, tTest, tB, tAnd, tOr, tNot, tAndV, tOrV, tNotV, tIf, tOp, tUn, tCB, tCall, tCons, tNil, tC, tTup, tLst, tChain, tPar, tDrop, tNext, tSl, tPart, tNoPart, tBM, tBM0, tM1, tM0, tAug, ipI, gName, gSub, tVar, wipe, rI0, rI, rU, List.cons_append, List.nil_append, List.append_nil, List.set_cons_zero, List.set_cons_succ, List.getElem?_cons_zero, List.getElem?_cons_succ, Option.some.injEq, V.int.injEq, V.bl.injEq, V.str.injEq, V.ref.injEq, exists_and_left, exists_eq_left, if_true, if_false, Bool.not_true, Bool.not_false, Bool.false_eq_true, List.map_cons, List.map_nil, List.cons.injEq, and_true, true_and, exists_eq_left']
        refine ⟨by show 2 ≤ sizeLine; decide, fun p3 hp3 => ⟨_, _, rfl, .tup (SqT.of upd_same) (.cons (.str _) (.cons (hw.mono (same_new hp3 _)) .nil))⟩⟩
      · rintro σ H9 ⟨v3, w, rfl, hw⟩
        obtain ⟨q1, q2, q3⟩ := deep_100 (n := r'.toNat) (by omega)
        simp only [cxOf, Cx.nox, tSeq, C8.tCut, tAsg, tRet, tRetN, tIfS, tTest, tB, tAnd, tOr, tNot, tAndV, tOrV, tNotV, tIf, tOp, tUn, tCB, tCall, tCons, tNil, tC, tTup, tLst, tChain, tPar, tDrop, tNext, tSl, tPart, tNoPart, tBM, tBM0, tM1, tM0, tAug, ipI, gName, gSub, tVar, wipe, rI0, rI, rU, List.cons_append, List.nil_append, List.append_nil, List.set_cons_zero, List.set_cons_succ, List.getElem?_cons_zero, List.getElem?_cons_succ, Option.some.injEq, V.int.injEq, V.bl.injEq, V.str.injEq, V.ref.injEq, exists_and_left, exists_eq_left, if_true, if_false, Bool.not_true, Bool.not_false, Bool.false_eq_true, List.map_cons, List.map_nil, List.cons.injEq, and_true, true_and, exists_eq_left']
        have er : ((r'.toNat : Nat) : Int) = r' := by omega
        have hlen : (txt 100 (deep r'.toNat)).length ≤ 400 := q3
        rw [q2, er] at q3
        rw [strLen_append, strLen_append] at q3
        have s1 : (1000 : Nat) ≤ sizeLine := by decide
        refine ⟨by omega, by omega, by decide +kernel, by omega, by omega, by omega, by decide +kernel, by rw [strLen_append]; omega, ?_⟩
        refine ⟨deep r'.toNat, ?_, q1, hlen, fun v H10 g10 hv => ⟨v, w, deep r'.toNat, rfl, hv, hw.mono g10, vt_sq q1, fun H11 _ => q H11⟩⟩
        rw [q2, er]
end
end Rm

set_option Elab.async false
set_option linter.all false
set_option maxRecDepth 100000
set_option maxHeartbeats 0
namespace Rm
open PySem PySem.Spec PyProof.Rows L2
/-! ### the head: what the top leaves, by names -/
def hookY (n : Nat) (fa : List He.Fa) (fn : List He.DefD) (ex : PySem.W.Frag → Bool) : PySem.W.Hook where
  α := He.AlD × Bool
  obs := fun s => (He.obsDG n fa fn s.heap.get?, ex (He.frG s.heap.get? (He.asD s.heap.get? n)))
  val := fun _ => (He.valD fn, true)
  says := fun _ h => ∃ K : PySem.W.Frag, K.In h ∧ He.SaysD fa fn K ∧ ex K = true
  of := fun _ _ e => ⟨_, He.frG_in, (Prod.mk.inj e).1, (Prod.mk.inj e).2⟩
  keeps := fun _ _ _ ⟨K, hK, c⟩ k => ⟨K, PySem.W.Frag.In.keeps hK k, c⟩
def f_frozen_d : He.DefD := ⟨("frozen", none), "frozen", "frozen", defArgs f_frozen_s, defBody f_frozen_s, defScope f_frozen_s, [], []⟩
def f_is_row_d : He.DefD := ⟨("is_row", none), "is_row", "is_row", defArgs f_is_row_s, defBody f_is_row_s, defScope f_is_row_s, [], []⟩
def f_is_integer_d : He.DefD := ⟨("is_integer", none), "is_integer", "is_integer", defArgs f_is_integer_s, defBody f_is_integer_s, defScope f_is_integer_s, [], []⟩
def f_is_small_d : He.DefD := ⟨("is_small", none), "is_small", "is_small", defArgs f_is_small_s, defBody f_is_small_s, defScope f_is_small_s, [], []⟩
def f_is_name_d : He.DefD := ⟨("is_name", none), "is_name", "is_name", defArgs f_is_name_s, defBody f_is_name_s, defScope f_is_name_s, [], []⟩
def f_is_written_integer_d : He.DefD := ⟨("is_written_integer", none), "is_written_integer", "is_written_integer", defArgs f_is_written_integer_s, defBody f_is_written_integer_s, defScope f_is_written_integer_s, [], []⟩
def f_head_of_d : He.DefD := ⟨("head_of", none), "head_of", "head_of", defArgs f_head_of_s, defBody f_head_of_s, defScope f_head_of_s, [], []⟩
def f_parts_of_d : He.DefD := ⟨("parts_of", none), "parts_of", "parts_of", defArgs f_parts_of_s, defBody f_parts_of_s, defScope f_parts_of_s, [], []⟩
def f_is_value_d : He.DefD := ⟨("is_value", none), "is_value", "is_value", defArgs f_is_value_s, defBody f_is_value_s, defScope f_is_value_s, [], []⟩
def f_cells_of_d : He.DefD := ⟨("cells_of", none), "cells_of", "cells_of", defArgs f_cells_of_s, defBody f_cells_of_s, defScope f_cells_of_s, [], []⟩
def f_value_text_d : He.DefD := ⟨("value_text", none), "value_text", "value_text", defArgs f_value_text_s, defBody f_value_text_s, defScope f_value_text_s, [], []⟩
def f_grouped_d : He.DefD := ⟨("grouped", none), "grouped", "grouped", defArgs f_grouped_s, defBody f_grouped_s, defScope f_grouped_s, [], []⟩
def f_read_value_d : He.DefD := ⟨("read_value", none), "read_value", "read_value", defArgs f_read_value_s, defBody f_read_value_s, defScope f_read_value_s, [], []⟩
def f_law_draw_d : He.DefD := ⟨("_law_draw", none), "_law_draw", "_law_draw", defArgs f_law_draw_s, defBody f_law_draw_s, defScope f_law_draw_s, [], []⟩
def f_law_start_d : He.DefD := ⟨("_law_start", none), "_law_start", "_law_start", defArgs f_law_start_s, defBody f_law_start_s, defScope f_law_start_s, [], []⟩
def f_law_pick_d : He.DefD := ⟨("_law_pick", none), "_law_pick", "_law_pick", defArgs f_law_pick_s, defBody f_law_pick_s, defScope f_law_pick_s, [], []⟩
def f_law_reserved_d : He.DefD := ⟨("_law_reserved", none), "_law_reserved", "_law_reserved", defArgs f_law_reserved_s, defBody f_law_reserved_s, defScope f_law_reserved_s, [], []⟩
def f_law_fresh_d : He.DefD := ⟨("_law_fresh", none), "_law_fresh", "_law_fresh", defArgs f_law_fresh_s, defBody f_law_fresh_s, defScope f_law_fresh_s, [], []⟩
def f_law_number_d : He.DefD := ⟨("_law_number", none), "_law_number", "_law_number", defArgs f_law_number_s, defBody f_law_number_s, defScope f_law_number_s, [], []⟩
def f_law_same_d : He.DefD := ⟨("_law_same", none), "_law_same", "_law_same", defArgs f_law_same_s, defBody f_law_same_s, defScope f_law_same_s, [], []⟩
def f_law_thing_d : He.DefD := ⟨("_law_thing", none), "_law_thing", "_law_thing", defArgs f_law_thing_s, defBody f_law_thing_s, defScope f_law_thing_s, [], []⟩
def f_law_text_d : He.DefD := ⟨("_law_text", none), "_law_text", "_law_text", defArgs f_law_text_s, defBody f_law_text_s, defScope f_law_text_s, [], []⟩
def f_law_cells_d : He.DefD := ⟨("_law_cells", none), "_law_cells", "_law_cells", defArgs f_law_cells_s, defBody f_law_cells_s, defScope f_law_cells_s, [], []⟩
def f_law_lists_d : He.DefD := ⟨("_law_lists", none), "_law_lists", "_law_lists", defArgs f_law_lists_s, defBody f_law_lists_s, defScope f_law_lists_s, [], []⟩
def f_law_d : He.DefD := ⟨("law", none), "law", "law", defArgs f_law_s, defBody f_law_s, defScope f_law_s, [], []⟩
def hfn : List He.DefD := [f_frozen_d, f_is_row_d, f_is_integer_d, f_is_small_d, f_is_name_d, f_is_written_integer_d, f_head_of_d, f_parts_of_d, f_is_value_d, f_cells_of_d, f_value_text_d, f_grouped_d, f_read_value_d, f_law_draw_d, f_law_start_d, f_law_pick_d, f_law_reserved_d, f_law_fresh_d, f_law_number_d, f_law_same_d, f_law_thing_d, f_law_text_d, f_law_cells_d, f_law_lists_d, f_law_d]
def hfa : List He.Fa := [.glo "frozen", .glo "is_row", .glo "is_integer", .glo "is_small", .glo "is_name", .glo "is_written_integer", .glo "head_of", .glo "parts_of", .glo "is_value", .glo "cells_of", .glo "value_text", .glo "grouped", .glo "read_value", .glo "_law_draw", .glo "_law_start", .glo "_law_pick", .glo "_law_reserved", .glo "_law_fresh", .glo "_law_number", .glo "_law_same", .glo "_law_thing", .glo "_law_text", .glo "_law_cells", .glo "_law_lists", .glo "law", .free "isinstance", .free "tuple", .free "list", .free "int", .free "bool", .free "str", .free "abs", .free "len", .free "all", .free "range", .free "min", .free "sum", .free "zip", .int "LONGEST_NAME" 8, .int "MOST_WORDS" 7, .int "MOST_DIGITS" 30, .str "LETTERS" letters, .str "DIGITS" digs, .glo "RESERVED"]
def hex (K : PySem.W.Frag) : Bool := He.tupB K "RESERVED" (resv.map He.Dv.str)
theorem hex_RESERVED {K : PySem.W.Frag} (h : hex K = true) : He.tupB K "RESERVED" (resv.map He.Dv.str) = true := h
abbrev R : PySem.W.OpenRow := PySem.W.OpenLaw.row PySem.Challenge.rw_refmodes_k04_texts_of_values
abbrev hk : PySem.W.Hook := hookY 4 hfa hfn hex
def ob (s : PySem.W.SharedT) : He.AlD × Bool := (He.obsDG 4 hfa hfn (HandSHeadRun.getT s), hex (He.frG (HandSHeadRun.getT s) (He.asD (HandSHeadRun.getT s) 4)))
theorem ob_eq (s : PySem.W.SharedT) : ob s = hk.obs s.abs := by
  have e : HandSHeadRun.getT s = s.abs.heap.get? := funext (HandSHeadRun.getT_eq s)
  unfold ob
  rw [e]
  rfl
def loose : List Str := ["LETTERS", "DIGITS", "RESERVED", "LONGEST_NAME", "MOST_DIGITS", "frozen", "is_row", "is_integer", "is_small", "is_name", "is_written_integer", "ModeError", "BadValue", "MOST_WORDS", "head_of", "parts_of", "is_value", "cells_of", "value_text", "grouped", "read_value", "_law_draw", "_law_start", "_law_pick", "_law_reserved", "_law_fresh", "_law_number", "_law_same", "_law_thing", "_law_text", "_law_cells", "_law_lists"]
theorem mkDf {K : PySem.W.Frag} {mg : Str → Option Value} {x : Str} {st : Stmt} (d : He.DefD) (h : ∃ fd, FunD K x x (defArgs st) (defBody st) (defScope st) [] [] (He.ga K x) fd) (hm : mg x = some (.ref (He.ga K x))) : Df K mg x st := by
  obtain ⟨fd, F⟩ := h
  exact ⟨_, fd, F, hm⟩
theorem mkT {K : PySem.W.Frag} {h : Heap} {mg : Str → Option Value} (X : K.In h) (G : h.Ns mainGlobals mg) (c : He.SaysD hfa hfn K) (ce : hex K = true) : Tx K mg where
  n_isinstance := He.free_ok X G (c.fact 25 (f := .free "isinstance") rfl)
  n_tuple := He.free_ok X G (c.fact 26 (f := .free "tuple") rfl)
  n_list := He.free_ok X G (c.fact 27 (f := .free "list") rfl)
  n_int := He.free_ok X G (c.fact 28 (f := .free "int") rfl)
  n_bool := He.free_ok X G (c.fact 29 (f := .free "bool") rfl)
  n_str := He.free_ok X G (c.fact 30 (f := .free "str") rfl)
  n_abs := He.free_ok X G (c.fact 31 (f := .free "abs") rfl)
  n_len := He.free_ok X G (c.fact 32 (f := .free "len") rfl)
  n_all := He.free_ok X G (c.fact 33 (f := .free "all") rfl)
  n_range := He.free_ok X G (c.fact 34 (f := .free "range") rfl)
  n_min := He.free_ok X G (c.fact 35 (f := .free "min") rfl)
  n_sum := He.free_ok X G (c.fact 36 (f := .free "sum") rfl)
  n_zip := He.free_ok X G (c.fact 37 (f := .free "zip") rfl)
  gLONGEST_NAME := let ⟨t, h⟩ := He.int_ok X G (c.fact 38 (f := .int "LONGEST_NAME" 8) rfl); ⟨_, h, t, rfl⟩
  gMOST_WORDS := let ⟨t, h⟩ := He.int_ok X G (c.fact 39 (f := .int "MOST_WORDS" 7) rfl); ⟨_, h, t, rfl⟩
  gMOST_DIGITS := let ⟨t, h⟩ := He.int_ok X G (c.fact 40 (f := .int "MOST_DIGITS" 30) rfl); ⟨_, h, t, rfl⟩
  gLETTERS := let ⟨t, h⟩ := He.str_ok X G (c.fact 41 (f := .str "LETTERS" letters) rfl); ⟨_, h, t, rfl⟩
  gDIGITS := let ⟨t, h⟩ := He.str_ok X G (c.fact 42 (f := .str "DIGITS" digs) rfl); ⟨_, h, t, rfl⟩
  gRESERVED := ⟨_, He.glo_ok X G (c.fact 43 (f := .glo "RESERVED") rfl), fun H => by
    have z := He.tupB_ok (hex_RESERVED ce) H
    rw [List.map_map] at z
    exact z⟩
  frozen := (mkDf f_frozen_d (c.def_ 0 (d := f_frozen_d) rfl) (He.glo_ok X G (c.fact 0 (f := .glo "frozen") rfl)))
  is_row := (mkDf f_is_row_d (c.def_ 1 (d := f_is_row_d) rfl) (He.glo_ok X G (c.fact 1 (f := .glo "is_row") rfl)))
  is_integer := (mkDf f_is_integer_d (c.def_ 2 (d := f_is_integer_d) rfl) (He.glo_ok X G (c.fact 2 (f := .glo "is_integer") rfl)))
  is_small := (mkDf f_is_small_d (c.def_ 3 (d := f_is_small_d) rfl) (He.glo_ok X G (c.fact 3 (f := .glo "is_small") rfl)))
  is_name := (mkDf f_is_name_d (c.def_ 4 (d := f_is_name_d) rfl) (He.glo_ok X G (c.fact 4 (f := .glo "is_name") rfl)))
  is_written_integer := (mkDf f_is_written_integer_d (c.def_ 5 (d := f_is_written_integer_d) rfl) (He.glo_ok X G (c.fact 5 (f := .glo "is_written_integer") rfl)))
  head_of := (mkDf f_head_of_d (c.def_ 6 (d := f_head_of_d) rfl) (He.glo_ok X G (c.fact 6 (f := .glo "head_of") rfl)))
  parts_of := (mkDf f_parts_of_d (c.def_ 7 (d := f_parts_of_d) rfl) (He.glo_ok X G (c.fact 7 (f := .glo "parts_of") rfl)))
  is_value := (mkDf f_is_value_d (c.def_ 8 (d := f_is_value_d) rfl) (He.glo_ok X G (c.fact 8 (f := .glo "is_value") rfl)))
  cells_of := (mkDf f_cells_of_d (c.def_ 9 (d := f_cells_of_d) rfl) (He.glo_ok X G (c.fact 9 (f := .glo "cells_of") rfl)))
  value_text := (mkDf f_value_text_d (c.def_ 10 (d := f_value_text_d) rfl) (He.glo_ok X G (c.fact 10 (f := .glo "value_text") rfl)))
  grouped := (mkDf f_grouped_d (c.def_ 11 (d := f_grouped_d) rfl) (He.glo_ok X G (c.fact 11 (f := .glo "grouped") rfl)))
  read_value := (mkDf f_read_value_d (c.def_ 12 (d := f_read_value_d) rfl) (He.glo_ok X G (c.fact 12 (f := .glo "read_value") rfl)))
  draw := (mkDf f_law_draw_d (c.def_ 13 (d := f_law_draw_d) rfl) (He.glo_ok X G (c.fact 13 (f := .glo "_law_draw") rfl)))
  lstart := (mkDf f_law_start_d (c.def_ 14 (d := f_law_start_d) rfl) (He.glo_ok X G (c.fact 14 (f := .glo "_law_start") rfl)))
  pick := (mkDf f_law_pick_d (c.def_ 15 (d := f_law_pick_d) rfl) (He.glo_ok X G (c.fact 15 (f := .glo "_law_pick") rfl)))
  reserved := (mkDf f_law_reserved_d (c.def_ 16 (d := f_law_reserved_d) rfl) (He.glo_ok X G (c.fact 16 (f := .glo "_law_reserved") rfl)))
  fresh := (mkDf f_law_fresh_d (c.def_ 17 (d := f_law_fresh_d) rfl) (He.glo_ok X G (c.fact 17 (f := .glo "_law_fresh") rfl)))
  number := (mkDf f_law_number_d (c.def_ 18 (d := f_law_number_d) rfl) (He.glo_ok X G (c.fact 18 (f := .glo "_law_number") rfl)))
  same := (mkDf f_law_same_d (c.def_ 19 (d := f_law_same_d) rfl) (He.glo_ok X G (c.fact 19 (f := .glo "_law_same") rfl)))
  thing := (mkDf f_law_thing_d (c.def_ 20 (d := f_law_thing_d) rfl) (He.glo_ok X G (c.fact 20 (f := .glo "_law_thing") rfl)))
  text := (mkDf f_law_text_d (c.def_ 21 (d := f_law_text_d) rfl) (He.glo_ok X G (c.fact 21 (f := .glo "_law_text") rfl)))
  cells := (mkDf f_law_cells_d (c.def_ 22 (d := f_law_cells_d) rfl) (He.glo_ok X G (c.fact 22 (f := .glo "_law_cells") rfl)))
  lists := (mkDf f_law_lists_d (c.def_ 23 (d := f_law_lists_d) rfl) (He.glo_ok X G (c.fact 23 (f := .glo "_law_lists") rfl)))
  law := (mkDf f_law_d (c.def_ 24 (d := f_law_d) rfl) (He.glo_ok X G (c.fact 24 (f := .glo "law") rfl)))
end Rm

set_option Elab.async false
set_option linter.all false
set_option maxRecDepth 100000
set_option maxHeartbeats 0
namespace Rm
open PySem PySem.Spec PyProof.Rows L2
theorem run (w : World) : HandSHeadRun.RunEq R (PySem.W.view R.prog [36]) hk ob 2000 loose w := by
  intro os
  kernel_rfl
end Rm
open PySem PySem.W PySem.Calls PyProof.Rows
theorem PySem.Challenge.cw_refmodes_k04_texts_of_values_holds : PySem.Challenge.rw_refmodes_k04_texts_of_values.Holds := by
  w_on; o_law
  refine HandSHeadRun.head_any (r := OpenLaw.row PySem.Challenge.rw_refmodes_k04_texts_of_values) (q := view (OpenLaw.row PySem.Challenge.rw_refmodes_k04_texts_of_values).prog [36]) (H := Rm.hk) (ob := Rm.ob) (M := 2000) (loose := Rm.loose) (d := HandSHeadRun.topDef (OpenLaw.row PySem.Challenge.rw_refmodes_k04_texts_of_values).prog 36) (kwd := []) Rm.ob_eq
    (by kernel_rfl) (fun s => by kernel_rfl) Rm.run (by kernel_rfl) (by kernel_rfl) (by kernel_rfl) (by rfl) (by first | assumption | decide +kernel) (by decide +kernel) ⟨rfl, rfl, rfl, rfl, rfl, by decide +kernel⟩ ?hw ?hc
  case hw => w_witness2
  case hc =>
    refine Rm.walk_law (l := PySem.Challenge.rw_refmodes_k04_texts_of_values) (n := 63) (k := 111) (x := "_law_script") rfl (by decide) (by kernel_rfl) ⟨rfl, by decide, by decide⟩ ?F
    intro w mg fa h Y G hmg0
    obtain ⟨K, KX, c, ce⟩ := Y
    have T := Rm.mkT KX G c ce
    have hmg : mg ("law" : PySem.Str) = some (.ref fa) := by
      have e : (HandSHeadRun.topDef (OpenLaw.row PySem.Challenge.rw_refmodes_k04_texts_of_values).prog 36).name = ("law" : PySem.Str) := by kernel_rfl
      rw [← e]
      exact hmg0
    obtain ⟨f, fd, F, hm⟩ := T.law.ex
    obtain rfl : fa = f := by
      have := hmg.symm.trans hm
      cases this
      rfl
    refine ⟨K, fd, Rm.spLaw K, KX, fun s u => (L2.FunD.bindsA (ps := ["_law_script"]) F fun _ _ _ _ _ _ us hl => match us, hl with | [_], _ => rfl) s [u] rfl, fun H a ns hl sq => ⟨a, ns, rfl, sq, hl, fun _ => rfl⟩, fun base h1 h2 s H a Q en bd hs => ?_⟩
    exact Rm.law1 (k := 110) F Rm.f_law_sc (fun cdv s H a Q hr hs => Rm.body_law T _ cdv s H a Q hr hs) s H a Q ⟨rfl, by decide, by decide⟩ en bd hs
