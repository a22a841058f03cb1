import PyProof.Rows.All
import Wide.All
import OpenK.AllK
import Wide.FinOn
import PyProof.ReprRoads
import HandS.Base
import HandS.Call
import HandS.List
import HandS.Comp
import HandS.Ends
import HandS.Iter
import HandS.Text
import HandS.Words
import HandS.WordsList
import HandS.Flow
import HandS.IsInst
import HandS.Defaults
import HandS.TupAny
import HandS.TupMul
import HandS.Codes
import HandS.FStrTup
import PyProof.StrBlock2
import HandS.Walk
import HandS.HeadEnd
import KE.KStateDown
import Lean
import HandS.More
import HandS.WordsExc
import HandS.Head0
import HandS.Head1
import HandS.Head2
import HandS.HeadHook1
import HandS.HeadHook2
import PySem.Challenge.RW_refmodes_k03_values_or_not
set_option Elab.async false
set_option linter.all false
set_option maxRecDepth 100000
set_option maxHeartbeats 4000000
namespace Rm
open PySem PySem.Spec PyProof.Rows L2
/-! ### a def of the top under its name, and its promise -/
structure Df (K : PySem.W.Frag) (mg : Str → Option Value) (x : Str) (st : Stmt) : Prop where
  ex : ∃ (f : Addr) (fd : FuncData), FunD K x x (defArgs st) (defBody st) (defScope st) [] [] f fd ∧ mg x = some (.ref f)
structure Cal (P : Program) (w : World) (K : PySem.W.Frag) (mg : Str → Option Value) (base : Heap) (k : Nat) (x : Str) (sp : Sp) : Prop where
  ex : ∃ (f : Addr) (fd : FuncData) (ps : List Str), FnOk P w K mg base CX0 k f fd ps sp ∧ mg x = some (.ref f) ∧ PySem.W.keepIn K (.ref f) = true ∧ Binds K fd ps []
section
variable {P : Program} {w : World} {K : PySem.W.Frag} {mg : Str → Option Value} {base : Heap} {x : Str} {st : Stmt} {N ps : List Str} {k : Nat} {sp : Sp}
theorem Df.cal (F : Df K mg x st) (S : FnScope N ps (defScope st))
    (hb : ∀ (kV doc pm : Value) (an : Option Addr) (cdv ct : Value) (us : List Value), us.length = ps.length → bindArgs (PySem.W.fnOf x x (defArgs st) (defBody st) (defScope st) .none kV doc pm an cdv ct) ⟨us, []⟩ = pure (ps.zip us))
    (len : ∀ vs H Q E, sp vs H Q E → vs.length = ps.length)
    (hbody : ∀ (f : Addr) (cdv : Value) (A : Around) (outer : List Env) (s : Shared) (H : Hp) (vs : List V) (Q : VK) (E : XK), Room k (A.deeper (envOfC x (defScope st) s.heap.objs.size f cdv)) → sp vs H Q E →
      ∃ t, PSs (cxOf CX0 P w K mg base N x (defScope st) f cdv A outer s H E).nox (defBody st) t ∧ t { nx := fun _ H' => Q .non H', rt := Q } (start N vs) H) : Cal P w K mg base (k + 1) x sp := by
  obtain ⟨f, fd, F, m⟩ := F.ex
  refine ⟨f, fd, ps, F.ok S len fun cdv A outer s H vs Q E hr hs => ?_, m, F.kp, F.bindsN hb⟩
  obtain ⟨t, h, q⟩ := hbody f cdv A outer s H vs Q E hr hs
  exact ⟨t, h.nox, q⟩
theorem Cal.mono {j : Nat} (c : Cal P w K mg base j x sp) (h : j ≤ k) : Cal P w K mg base k x sp := by
  obtain ⟨f, fd, ps, F, r⟩ := c.ex
  exact ⟨f, fd, ps, F.mono h, r⟩
theorem Cal.imp {sp' : Sp} (c : Cal P w K mg base k x sp) (h : ∀ vs H Q E, sp' vs H Q E → sp vs H Q E) : Cal P w K mg base k x sp' := by
  obtain ⟨f, fd, ps, F, r⟩ := c.ex
  exact ⟨f, fd, ps, F.imp h, r⟩
/-- nothing is asked of it: the promise of a recursion at level 0 -/
theorem Df.zero (F : Df K mg x st)
    (hb : ∀ (kV doc pm : Value) (an : Option Addr) (cdv ct : Value) (us : List Value), us.length = ps.length → bindArgs (PySem.W.fnOf x x (defArgs st) (defBody st) (defScope st) .none kV doc pm an cdv ct) ⟨us, []⟩ = pure (ps.zip us))
    (no : ∀ vs H Q E, ¬ sp vs H Q E) : Cal P w K mg base k x sp := by
  obtain ⟨f, fd, F, m⟩ := F.ex
  exact ⟨f, fd, ps, ⟨fun vs H Q E h => absurd h (no vs H Q E), fun A outer s H args us vs Q E _ _ _ _ h => absurd h (no vs H Q E)⟩, m, F.kp, F.bindsN hb⟩
end
section
variable {X : Cx} {k j : Nat} {x : Str} {sp : Sp} {p pos : Pos} {e : Expr} {es : List Expr} {t : TA}
theorem pe_c (c : Cal X.prog X.w X.K X.mg X.base k x sp) (hr : Room j X.A) (hk : k ≤ j) (hg : Gl X x) (ha : PA X (e :: es) t)
    (hdb : (x == ("__debug__" : Str)) = false := by decide) (he : starEach (e :: es) X.env = (false, eval e X.env) :: starEach es X.env := by rfl) (hpl : (backTo pos (starEach es X.env)).any (·.1) = false := by rfl) :
    PE X (.Call (.Name x p) (e :: es) [] pos) (tCall sp [] E0 t) := by
  obtain ⟨f, fd, ps, F, hm, kp, b⟩ := c.ex
  exact pe_call F (hr.mono hk) hg hm kp b .nil pass0 ha hdb he hpl
theorem pe_c0 (c : Cal X.prog X.w X.K X.mg X.base k x sp) (hr : Room j X.A) (hk : k ≤ j) (hg : Gl X x)
    (hdb : (x == ("__debug__" : Str)) = false := by decide) : PE X (.Call (.Name x p) [] [] pos) (tCall sp [] E0 tNil) := by
  obtain ⟨f, fd, ps, F, hm, kp, b⟩ := c.ex
  exact pe_call0 F (hr.mono hk) hg hm kp b .nil pass0 hdb
theorem pi_or {tg it : Expr} {a b : TI} (h : PI X tg it a) (h' : PI X tg it b) : PI X tg it (fun σ H R => a σ H R ∨ b σ H R) :=
  ⟨fun pins s σ H R I q => q.elim (h.run pins s σ H R I) (h'.run pins s σ H R I)⟩
end
theorem small {n : Nat} (h : n ≤ 1000) : n ≤ sizeLine := Nat.le_of_lt (small1000 h)
theorem same_new {H : Hp} {p : Addr} (h : H p = none) (o : HO) : Same H (upd H p o) := fun b u q => by
  rw [upd_ne (ne_of_none q h)]
  exact q
/-! ### the spring of draws: a list at st of the numbers' list at sl and three ints -/
/-- all but the spring is as it was -/
def Keep (st sl : Addr) (H H' : Hp) : Prop := ∀ b o, b ≠ st → b ≠ sl → H b = some o → H' b = some o
theorem Keep.of {st sl : Addr} {H H' : Hp} (h : ∀ b o, b ≠ st → b ≠ sl → H b = some o → H' b = some o) : Keep st sl H H' := h
theorem Keep.refl {st sl : Addr} (H : Hp) : Keep st sl H H := fun _ _ _ _ e => e
theorem Keep.trans {st sl : Addr} {H H1 H2 : Hp} (h : Keep st sl H H1) (h' : Keep st sl H1 H2) : Keep st sl H H2 := fun b o n1 n2 e => h' b o n1 n2 (h b o n1 n2 e)
theorem Keep.same {st sl : Addr} {H H' : Hp} (h : Same H H') : Keep st sl H H' := fun b o _ _ q => h b o q
theorem Keep.new {st sl p : Addr} {H : Hp} {o : HO} (h : H p = none) : Keep st sl H (upd H p o) := .same (same_new h o)
/-- the heap without some things -/
def hid (Z : List Addr) (H : Hp) : Hp := fun b => if b ∈ Z then none else H b
theorem hid_ne {Z : List Addr} {b : Addr} {H : Hp} (h : b ∉ Z) : hid Z H b = H b := if_neg h
theorem hid_some {Z : List Addr} {b : Addr} {H : Hp} {o : HO} (h : hid Z H b = some o) : H b = some o ∧ b ∉ Z := by
  unfold hid at h
  split at h
  · cases h
  · rename_i q
    exact ⟨h, q⟩
theorem hid_same (Z : List Addr) (H : Hp) : Same (hid Z H) H := fun _ _ h => (hid_some h).1
theorem hid_less {Z Y : List Addr} (h : ∀ z ∈ Z, z ∈ Y) (H : Hp) : Same (hid Y H) (hid Z H) := fun b o e => by
  obtain ⟨e1, e2⟩ := hid_some e
  rw [hid_ne fun q => e2 (h b q)]
  exact e1
theorem hid_upd {Z : List Addr} {H : Hp} {p : Addr} {o : HO} (h : p ∈ Z) : Same (hid Z H) (hid Z (upd H p o)) := fun b u e => by
  obtain ⟨e1, e2⟩ := hid_some e
  rw [hid_ne e2, upd_ne (fun (q : b = p) => e2 (by rw [q]; exact h))]
  exact e1
theorem hid_mono {Z : List Addr} {H H' : Hp} (g : Same H H') : Same (hid Z H) (hid Z H') := fun b u e => by
  obtain ⟨e1, e2⟩ := hid_some e
  rw [hid_ne e2]
  exact g _ _ e1
theorem Keep.hid {st sl : Addr} {Z : List Addr} {H H' : Hp} (k : Keep st sl H H') (h1 : st ∈ Z) (h2 : sl ∈ Z) : Same (hid Z H) (hid Z H') := fun b u e => by
  obtain ⟨e1, e2⟩ := hid_some e
  rw [hid_ne e2]
  exact k _ _ (fun q => e2 (by rw [q]; exact h1)) (fun q => e2 (by rw [q]; exact h2)) e1
structure Sk (st sl : Addr) (c : Nat) (H : Hp) : Prop where
  ne : st ≠ sl
  ex : ∃ (r m : Int) (ns : List Int), H st = some (.lst [.ref sl, .int r, .int c, .int m]) ∧ H sl = some (.lst (ns.map V.int)) ∧ 0 ≤ r ∧ 0 ≤ m ∧ m < 2147483647 ∧ ns.length ≤ 63
theorem Sk.new {st sl p : Addr} {c : Nat} {H : Hp} {o : HO} (k : Sk st sl c H) (h : H p = none) : Sk st sl c (upd H p o) := by
  obtain ⟨n, r, m, ns, h1, h2, q⟩ := k
  exact ⟨n, r, m, ns, same_new h o _ _ h1, same_new h o _ _ h2, q⟩
theorem Sk.upd {st sl p : Addr} {c : Nat} {H : Hp} {o : HO} (k : Sk st sl c H) (h1 : p ≠ st) (h2 : p ≠ sl) : Sk st sl c (upd H p o) := by
  obtain ⟨n, r, m, ns, e1, e2, q⟩ := k
  exact ⟨n, r, m, ns, by rw [upd_ne h1.symm]; exact e1, by rw [upd_ne h2.symm]; exact e2, q⟩
theorem Sk.nst {st sl p : Addr} {c : Nat} {H : Hp} (k : Sk st sl c H) (h : H p = none) : p ≠ st := by
  obtain ⟨n, r, m, ns, e1, e2, q⟩ := k
  exact (ne_of_none e1 h).symm
theorem Sk.nsl {st sl p : Addr} {c : Nat} {H : Hp} (k : Sk st sl c H) (h : H p = none) : p ≠ sl := by
  obtain ⟨n, r, m, ns, e1, e2, q⟩ := k
  exact (ne_of_none e2 h).symm
/-- what is hidden: the spring at least, all of it tracked -/
structure Liv (Z : List Addr) (st sl : Addr) (H : Hp) : Prop where
  st : st ∈ Z
  sl : sl ∈ Z
  on : ∀ z ∈ Z, H z ≠ none
theorem Liv.keep {Z : List Addr} {st sl : Addr} {c : Nat} {H H' : Hp} (l : Liv Z st sl H) (k : Keep st sl H H') (s : Sk st sl c H') : Liv Z st sl H' := by
  refine ⟨l.st, l.sl, fun z hz => ?_⟩
  obtain ⟨n, r, m, ns, e1, e2, q⟩ := s
  by_cases h1 : z = st
  · rw [h1, e1]; exact fun e => nomatch e
  by_cases h2 : z = sl
  · rw [h2, e2]; exact fun e => nomatch e
  cases e : H z with
  | none => exact absurd e (l.on z hz)
  | some o => rw [k z o h1 h2 e]; exact fun e => nomatch e
theorem Liv.cons {Z : List Addr} {st sl p : Addr} {H : Hp} {o : HO} (l : Liv Z st sl H) : Liv (p :: Z) st sl (upd H p o) := by
  refine ⟨List.mem_cons_of_mem _ l.st, List.mem_cons_of_mem _ l.sl, fun z hz => ?_⟩
  by_cases h : z = p
  · rw [h, upd_same]; exact fun e => nomatch e
  · rw [upd_ne h]
    rcases List.mem_cons.mp hz with e | e
    · exact absurd e h
    · exact l.on z e
theorem Liv.upd {Z : List Addr} {st sl p : Addr} {H : Hp} {o : HO} (l : Liv Z st sl H) : Liv Z st sl (upd H p o) := by
  refine ⟨l.st, l.sl, fun z hz => ?_⟩
  by_cases h : z = p
  · rw [h, upd_same]; exact fun e => nomatch e
  · rw [upd_ne h]; exact l.on z hz
theorem Liv.out {Z : List Addr} {st sl p : Addr} {H : Hp} (l : Liv Z st sl H) (h : H p = none) : p ∉ Z := fun q => l.on p q h
theorem Liv.same {Z : List Addr} {st sl : Addr} {H H' : Hp} (l : Liv Z st sl H) (k : Same H H') : Liv Z st sl H' := by
  refine ⟨l.st, l.sl, fun z hz => ?_⟩
  cases e : H z with
  | none => exact absurd e (l.on z hz)
  | some o => rw [k z o e]; exact fun e => nomatch e
theorem Sk.same {st sl : Addr} {c : Nat} {H H' : Hp} (k : Sk st sl c H) (g : Same H H') : Sk st sl c H' := by
  obtain ⟨n, r, m, ns, h1, h2, q⟩ := k
  exact ⟨n, r, m, ns, g _ _ h1, g _ _ h2, q⟩
theorem dp_ints {K : PySem.W.Frag} {H : Hp} : ∀ ns : List Int, DpAll K H (ns.map V.int) (ns.map PyData.int)
  | [] => .nil
  | n :: r => .cons (.int n) (dp_ints r)
theorem lay_ints : ∀ ns : List Int, PyData.canLayAll0 (ns.map PyData.int) = true
  | [] => by simp only [List.map_nil, PyData.canLayAll0]
  | n :: r => by simp only [List.map_cons, PyData.canLayAll0, PyData.canLay0, lay_ints r, Bool.and_self]
theorem depth_ints : ∀ ns : List Int, PyData.depthAll (ns.map PyData.int) = 0
  | [] => by simp only [List.map_nil, PyData.depthAll]
  | n :: r => by simp only [List.map_cons, PyData.depthAll, PyData.depth, depth_ints r, Nat.max_self]
theorem shaped_ints (ns : List Int) : SeqAt.shaped (.list (ns.map PyData.int)) = true := by
  unfold SeqAt.shaped
  simp only [PyData.canLay0, PyData.depth, lay_ints, depth_ints, Bool.true_and]
  decide
theorem eqv_ints_nil (ns : List Int) : PyData.eqv (.list (ns.map PyData.int)) (.list []) = ns.isEmpty := by
  cases ns <;> simp [PyData.eqv, PyData.eqvAll]
theorem seqIx0 (n : Nat) : seqIndex? 0 (n + 1) = some 0 := by
  have h : ixN (n + 1) 0 = some 0 := by
    unfold ixN
    rw [if_pos (by decide), if_pos (by omega)]
    rfl
  exact (ixN_seq h).1
/-- what a draw promises -/
def spDraw : Sp := fun vs H Q _ => ∃ (st sl : Addr) (c : Nat) (n : Int), vs = [.ref st, .int n] ∧ Sk st sl c H ∧ c < 1000000 ∧ 0 < n ∧ n < 1073741824 ∧
  ∀ (r : Int) (H' : Hp), 0 ≤ r → r < n → Sk st sl (c + 1) H' → Keep st sl H H' → Q (.int r) H'
end Rm

set_option Elab.async false
set_option linter.all false
set_option maxRecDepth 100000
set_option maxHeartbeats 4000000
namespace Rm
open PySem PySem.Spec PyProof.Rows L2
/-! ### data: atoms, and rows of data, up to n deep -/
def atom : PyData → Prop
  | .none => True
  | .bool _ => True
  | .int i => i.natAbs ≤ 10 ^ 30
  | .str x => x.length ≤ 9 ∧ ∀ c ∈ x.cps.toList, c < 128
  | _ => False
def ok : Nat → PyData → Prop
  | 0, d => atom d
  | n + 1, .list ds => ds.length ≤ 9 ∧ ∀ e ∈ ds, ok n e
  | n + 1, .tuple ds => ds.length ≤ 9 ∧ ∀ e ∈ ds, ok n e
  | _ + 1, d => atom d
theorem ok_atom {n : Nat} {d : PyData} (h : atom d) : ok n d := by
  cases n with
  | zero => exact h
  | succ n => cases d <;> first | exact h | exact h.elim
theorem ok_succ : ∀ {n : Nat} {d : PyData}, ok n d → ok (n + 1) d
  | 0, d, h => ok_atom h
  | n + 1, .list ds, h => ⟨h.1, fun e he => ok_succ (h.2 e he)⟩
  | n + 1, .tuple ds, h => ⟨h.1, fun e he => ok_succ (h.2 e he)⟩
  | n + 1, .none, h => h
  | n + 1, .bool _, h => h
  | n + 1, .int _, h => h
  | n + 1, .str _, h => h
  | n + 1, .dict _, h => h
theorem ok_le {n m : Nat} {d : PyData} (h : n ≤ m) (o : ok n d) : ok m d := by
  induction h with
  | refl => exact o
  | step _ ih => exact ok_succ ih
theorem lay_all {ds : List PyData} (h : ∀ d ∈ ds, d.canLay0 = true) : PyData.canLayAll0 ds = true := by
  induction ds with
  | nil => simp only [PyData.canLayAll0]
  | cons d r ih => simp only [PyData.canLayAll0, h d (List.mem_cons_self ..), ih fun e he => h e (List.mem_cons_of_mem _ he), Bool.and_self]
theorem depth_all {n : Nat} {ds : List PyData} (h : ∀ d ∈ ds, d.depth ≤ n) : PyData.depthAll ds ≤ n := by
  induction ds with
  | nil => simp only [PyData.depthAll]; omega
  | cons d r ih =>
    simp only [PyData.depthAll]
    exact Nat.max_le.mpr ⟨h d (List.mem_cons_self ..), ih fun e he => h e (List.mem_cons_of_mem _ he)⟩
theorem show_all {ds : List PyData} (h : ∀ d ∈ ds, d.showable = true) : PyData.showableAll ds = true := by
  induction ds with
  | nil => simp only [PyData.showableAll]
  | cons d r ih => simp only [PyData.showableAll, h d (List.mem_cons_self ..), ih fun e he => h e (List.mem_cons_of_mem _ he), Bool.and_self]
theorem atom_lay {d : PyData} (h : atom d) : d.canLay0 = true ∧ d.depth = 0 ∧ d.showable = true := by
  cases d with
  | none => simp [PyData.canLay0, PyData.depth, PyData.showable]
  | bool b => simp [PyData.canLay0, PyData.depth, PyData.showable]
  | int i =>
    refine ⟨by simp only [PyData.canLay0], by simp only [PyData.depth], ?_⟩
    simp only [PyData.showable, decide_eq_true_eq]
    have h1 : i.natAbs < 2 ^ 1920 := Nat.lt_of_le_of_lt (show i.natAbs ≤ 10 ^ 30 from h) (by decide)
    by_cases h0 : i.natAbs = 0
    · rw [h0]; decide
    · exact (Nat.log2_lt h0).mpr h1
  | str x =>
    refine ⟨?_, by simp only [PyData.depth], by simp only [PyData.showable]⟩
    simp only [PyData.canLay0]
    unfold PyData.strOk
    rw [← Array.all_toList, List.all_eq_true]
    intro c hc
    have := h.2 c hc
    exact decide_eq_true (by omega)
  | list ds => exact h.elim
  | tuple ds => exact h.elim
  | dict ds => exact h.elim
theorem ok_facts : ∀ {n : Nat} {d : PyData}, ok n d → d.canLay0 = true ∧ d.depth ≤ n ∧ d.showable = true
  | 0, d, h => ⟨(atom_lay h).1, Nat.le_of_eq (atom_lay h).2.1, (atom_lay h).2.2⟩
  | n + 1, .list ds, h => by
    simp only [PyData.canLay0, PyData.depth, PyData.showable]
    exact ⟨lay_all fun e he => (ok_facts (h.2 e he)).1, Nat.succ_le_succ (depth_all fun e he => (ok_facts (h.2 e he)).2.1), show_all fun e he => (ok_facts (h.2 e he)).2.2⟩
  | n + 1, .tuple ds, h => by
    simp only [PyData.canLay0, PyData.depth, PyData.showable]
    exact ⟨lay_all fun e he => (ok_facts (h.2 e he)).1, Nat.succ_le_succ (depth_all fun e he => (ok_facts (h.2 e he)).2.1), show_all fun e he => (ok_facts (h.2 e he)).2.2⟩
  | n + 1, .none, h => ⟨(atom_lay (d := .none) h).1, by rw [(atom_lay (d := .none) h).2.1]; omega, (atom_lay (d := .none) h).2.2⟩
  | n + 1, .bool b, h => ⟨(atom_lay (d := .bool b) h).1, by rw [(atom_lay (d := .bool b) h).2.1]; omega, (atom_lay (d := .bool b) h).2.2⟩
  | n + 1, .int b, h => ⟨(atom_lay (d := .int b) h).1, by rw [(atom_lay (d := .int b) h).2.1]; omega, (atom_lay (d := .int b) h).2.2⟩
  | n + 1, .str b, h => ⟨(atom_lay (d := .str b) h).1, by rw [(atom_lay (d := .str b) h).2.1]; omega, (atom_lay (d := .str b) h).2.2⟩
  | n + 1, .dict b, h => (show False from h).elim
theorem ok_shaped {n : Nat} {d : PyData} (h : ok n d) (hn : n ≤ 64) : SeqAt.shaped d = true := by
  unfold SeqAt.shaped
  rw [(ok_facts h).1, Bool.true_and]
  exact decide_eq_true (Nat.le_trans (ok_facts h).2.1 hn)
/-! ### how long a datum's text may be -/
def bnd : Nat → Nat
  | 0 => 100
  | n + 1 => 9 * (bnd n + 2) + 100
theorem piled_le {ts : List Str} {b : Nat} (h : ∀ t ∈ ts, t.length ≤ b) : piled ts ≤ ts.length * (b + 2) := by
  induction ts with
  | nil => exact Nat.zero_le _
  | cons t r ih =>
    rw [piled_cons, List.length_cons, Nat.succ_mul]
    have := h t (List.mem_cons_self ..)
    have := ih fun e he => h e (List.mem_cons_of_mem _ he)
    omega
theorem shownAll_mem {ds : List PyData} {t : Str} (h : t ∈ PyData.shownAll ds) : ∃ d ∈ ds, t = d.shown := by
  induction ds with
  | nil => simp only [PyData.shownAll] at h; cases h
  | cons d r ih =>
    simp only [PyData.shownAll] at h
    rcases List.mem_cons.mp h with e | e
    · exact ⟨d, List.mem_cons_self .., e⟩
    · obtain ⟨d', h1, h2⟩ := ih e
      exact ⟨d', List.mem_cons_of_mem _ h1, h2⟩
theorem shownAll_len (ds : List PyData) : (PyData.shownAll ds).length = ds.length := by
  induction ds with
  | nil => simp only [PyData.shownAll]; rfl
  | cons d r ih => simp only [PyData.shownAll, List.length_cons, ih]
theorem listText_len : ∀ ts : List Str, (listText ts).length ≤ piled ts + 2
  | [] => by decide +kernel
  | t :: r => by
    have e : listText (t :: r) = textFrom 1 ("[" ++ "" ++ t) r ++ "]" := rfl
    have h2 := textFrom_length_pos r 1 ("[" ++ "" ++ t) (by omega)
    have e1 : ((("[" : String) : Str)).length = 1 := rfl
    have e2 : ((("" : String) : Str)).length = 0 := rfl
    have e3 : ((("]" : String) : Str)).length = 1 := rfl
    rw [e, strLen_append, h2, strLen_append, strLen_append, piled_cons]
    omega
theorem sameT {K : PySem.W.Frag} {H H' : Hp} {a : Addr} {xs : List V} (g : Same H H') (h : SqT K H a xs) : SqT K H' a xs := by
  rcases h with (h | ⟨o, h⟩) | h
  · exact .inl (.inl (g _ _ h))
  · exact .inl (.inr ⟨o, g _ _ h⟩)
  · exact .inr h
theorem atom_shown {d : PyData} (h : atom d) : d.shown.length ≤ 100 := by
  cases d with
  | none => simp only [PyData.shown]; decide +kernel
  | bool b => cases b <;> (simp only [PyData.shown]; decide +kernel)
  | int i =>
    have h1 : i.natAbs < 10 ^ 31 := Nat.lt_of_le_of_lt (show i.natAbs ≤ 10 ^ 30 from h) (by decide)
    have h2 := int_text_length_le10 (by decide : 0 < 31) h1
    simp only [PyData.shown]
    have e : (Str.ofString (toString i)).length = (toString i).length := PySem.ofString_length _
    omega
  | str x =>
    have := StrLaws.reprText_len x fun c hc => Nat.lt_trans (h.2 c hc) (by decide)
    simp only [PyData.shown]
    have := h.1
    omega
  | list ds => exact h.elim
  | tuple ds => exact h.elim
  | dict ds => exact h.elim
theorem bnd_pos (n : Nat) : 100 ≤ bnd n := by
  cases n with
  | zero => exact Nat.le_refl _
  | succ n => show 100 ≤ 9 * (bnd n + 2) + 100; omega
theorem row_shown {n : Nat} {ds : List PyData} (h : ds.length ≤ 9) (ih : ∀ e ∈ ds, e.shown.length ≤ bnd n) : piled (PyData.shownAll ds) + 3 ≤ bnd (n + 1) := by
  have h1 : piled (PyData.shownAll ds) ≤ (PyData.shownAll ds).length * (bnd n + 2) := piled_le fun t ht => by
    obtain ⟨d, h1, rfl⟩ := shownAll_mem ht
    exact ih d h1
  rw [shownAll_len] at h1
  have h2 : ds.length * (bnd n + 2) ≤ 9 * (bnd n + 2) := Nat.mul_le_mul_right _ h
  show _ ≤ 9 * (bnd n + 2) + 100
  omega
theorem ok_shown : ∀ {n : Nat} {d : PyData}, ok n d → d.shown.length ≤ bnd n
  | 0, d, h => atom_shown h
  | n + 1, .list ds, h => by
    have h1 := row_shown h.1 fun e he => ok_shown (h.2 e he)
    have h2 := listText_len (PyData.shownAll ds)
    simp only [PyData.shown]
    omega
  | n + 1, .tuple ds, h => by
    have h1 := row_shown h.1 fun e he => ok_shown (h.2 e he)
    have h2 := fmt_text (PyData.shownAll ds)
    simp only [PyData.shown]
    omega
  | n + 1, .none, h => Nat.le_trans (atom_shown (d := .none) h) (bnd_pos _)
  | n + 1, .bool b, h => Nat.le_trans (atom_shown (d := .bool b) h) (bnd_pos _)
  | n + 1, .int b, h => Nat.le_trans (atom_shown (d := .int b) h) (bnd_pos _)
  | n + 1, .str b, h => Nat.le_trans (atom_shown (d := .str b) h) (bnd_pos _)
  | n + 1, .dict b, h => (show False from h).elim
/-! ### a datum's class -/
def tyN : PyData → String
  | .none => "NoneType"
  | .bool _ => "bool"
  | .int _ => "int"
  | .str _ => "str"
  | .list _ => "list"
  | .tuple _ => "tuple"
  | .dict _ => "dict"
theorem _root_.L2.Dp.tyx {K : PySem.W.Frag} {H : Hp} {v : V} {d : PyData} (h : Dp K H v d) : TyX K H v (.type (tyN d)) := by
  cases h with
  | non => exact .base .non
  | bl b => exact .base (.bl b)
  | int i => exact .base (.int i)
  | str x => exact .base (.str x)
  | lst q _ =>
    rcases q with (q | ⟨o, q⟩) | ⟨o, its, n, q, c, _⟩
    · exact .base (.lst q)
    · exact .base (.frz q)
    · exact .kList q c
  | tup q _ =>
    rcases q with (q | ⟨o, q⟩) | ⟨o, its, n, q, c, _⟩
    · exact .base (.tup q)
    · exact .fTuple q
    · exact .kTuple q c
def isSeq : PyData → Bool
  | .list _ => true
  | .tuple _ => true
  | _ => false
def isTn (t n : String) : Bool := n == t || (t == "int" && n == "bool")
def isT (t : String) (d : PyData) : Bool := isTn t (tyN d)
theorem tyN_of {d : PyData} (h : ∀ k, d ≠ .dict k) : tyN d = "NoneType" ∨ tyN d = "bool" ∨ tyN d = "int" ∨ tyN d = "str" ∨ tyN d = "list" ∨ tyN d = "tuple" := by
  cases d with
  | dict k => exact absurd rfl (h k)
  | _ => simp [tyN]
theorem kit_one {K : PySem.W.Frag} {d : PyData} (h : ∀ k, d ≠ .dict k) (t : String) (ht : t = "int" ∨ t = "bool" ∨ t = "str" ∨ t = "tuple" ∨ t = "list") : PySem.W.kitOne K (.type (tyN d)) (.type t) = some (isT t d) := by
  unfold isT
  rcases tyN_of h with e | e | e | e | e | e <;> rw [e] <;> rcases ht with rfl | rfl | rfl | rfl | rfl <;> exact kit_ty (by decide +kernel)
theorem kit_many {K : PySem.W.Frag} {d : PyData} (h : ∀ k, d ≠ .dict k) : ∀ ts : List String, (∀ t ∈ ts, t = "int" ∨ t = "bool" ∨ t = "str" ∨ t = "tuple" ∨ t = "list") → PySem.W.kitAny K (.type (tyN d)) (ts.map Value.type) = some (ts.any (isT · d))
  | [], _ => kitAny_nil
  | t :: r, ht => by
    refine kitAny_cons (kit_one h t (ht t (List.mem_cons_self ..))) (fun e => ?_) (fun e => ?_)
    · rw [kit_many h r fun u hu => ht u (List.mem_cons_of_mem _ hu), List.any_cons, e, Bool.false_or]
    · rw [List.any_cons, e, Bool.true_or]
theorem kit_seq {K : PySem.W.Frag} {d : PyData} (h : ∀ k, d ≠ .dict k) : PySem.W.kitAny K (.type (tyN d)) [.type "tuple", .type "list"] = some (isSeq d) := by
  have := kit_many (K := K) h ["tuple", "list"] (by simp)
  refine Eq.trans this (congrArg some ?_)
  cases d with
  | dict k => exact absurd rfl (h k)
  | _ => rfl
theorem _root_.L2.Dp.nodict {K : PySem.W.Frag} {H : Hp} {v : V} {d : PyData} (h : Dp K H v d) : ∀ k, d ≠ .dict k := fun k e => by
  subst e
  cases h
mutual
theorem dpMono {K : PySem.W.Frag} {H H' : Hp} (g : Same H H') : ∀ {d : PyData} {v : V}, Dp K H v d → Dp K H' v d
  | _, _, .non => .non
  | _, _, .bl b => .bl b
  | _, _, .int i => .int i
  | _, _, .str x => .str x
  | _, _, .lst q r => .lst (g.seq q) (dpAllMono g r)
  | _, _, .tup q r => .tup (sameT g q) (dpAllMono g r)
theorem dpAllMono {K : PySem.W.Frag} {H H' : Hp} (g : Same H H') : ∀ {ds : List PyData} {vs : List V}, DpAll K H vs ds → DpAll K H' vs ds
  | _, _, .nil => .nil
  | _, _, .cons h r => .cons (dpMono g h) (dpAllMono g r)
end
theorem _root_.L2.Dp.mono {K : PySem.W.Frag} {H H' : Hp} (g : Same H H') {d : PyData} {v : V} (h : Dp K H v d) : Dp K H' v d := dpMono g h
theorem _root_.L2.DpAll.mono {K : PySem.W.Frag} {H H' : Hp} (g : Same H H') {ds : List PyData} {vs : List V} (h : DpAll K H vs ds) : DpAll K H' vs ds := dpAllMono g h
end Rm

set_option Elab.async false
set_option linter.all false
set_option maxRecDepth 100000
set_option maxHeartbeats 4000000
namespace Rm
open PySem PySem.Spec PyProof.Rows L2
section
variable {X : Cx}
/-- repr of a datum, where no repr is under way -/
theorem call_reprD (hg : X.A.guards = some []) (hu : X.A.units + 100 < cLine) : CallR X (.builtin "repr") (fun xs H Q => ∃ (v : V) (d : PyData) (n : Nat), xs = [v] ∧ Dp X.K H v d ∧ ok n d ∧ n ≤ 64 ∧ d.shown.length ≤ sizeLine ∧ Q (.str d.shown) H) := by
  intro pins s σ H xs us Q I r h
  obtain ⟨v, d, n, rfl, hd, hok, hn, hl, q⟩ := h
  obtain ⟨u, rfl, ru⟩ := Vals.one r
  have fin : ∀ {T : PyData}, d = T → ∀ h' tk t, (∀ b o, s.heap.get? b = some o → h'.get? b = some o) → EP X pins σ Q (.str T.shown t) { s with heap := h', toks := tk } := fun e h' tk t k =>
    ⟨.str d.shown, H, I.turnedL (ch := []) (fun b o _ e => k b o e) (fun b hb => nomatch hb), ⟨t, by rw [e]⟩, q⟩
  have fin0 : ∀ tk t, EP X pins σ Q (.str d.shown t) { s with toks := tk } := fun tk t => fin rfl s.heap tk t fun _ _ e => e
  have big : ∀ a, u = .ref a → wpAny (model X.prog X.w) X.A (call (.builtin "repr") [u]) (EP X pins σ Q) X.xe s := fun a e => by
    subst e
    obtain ⟨as, rd⟩ := Dp.reads I d v _ hd ru
    obtain ⟨f1, f2, f3⟩ := ok_facts hok
    exact repr_of_reads' rd f3 (fun z => by rw [PyData.hasDict_of_canLay d f1] at z; cases z) hg (by omega) (fun _ _ e => e) (fun h' t tk k => fin rfl h' tk t k) hl
  cases hd with
  | non =>
    obtain rfl : u = Value.none := ru
    refine PySem.P.repr_of_none ?_
    have := fin0 (s.toks + 1) s.toks
    simp only [PyData.shown] at this
    exact this
  | bl b =>
    obtain rfl : u = Value.bool b := ru
    refine PySem.P.repr_of_bool ?_
    have := fin0 (s.toks + 1) s.toks
    simp only [PyData.shown] at this
    exact this
  | int i =>
    obtain ⟨t, rfl⟩ := ru
    have z := (ok_facts hok).2.2
    simp only [PyData.showable, decide_eq_true_eq] at z
    refine PySem.P.repr_of_int z ?_
    have := fin0 (s.toks + 1) s.toks
    simp only [PyData.shown] at this
    exact this
  | str x =>
    obtain ⟨t, rfl⟩ := ru
    simp only [PyData.shown] at hl
    refine PySem.P.repr_of_str ?_ hl
    have := fin0 (s.toks + 1) s.toks
    simp only [PyData.shown] at this
    exact this
  | lst a b => exact big _ ru
  | tup a b => exact big _ ru
theorem mulOk {z : Str} {n : Int} (h1 : n ≤ 1000) (h2 : z.length ≤ 1000) (h0 : -1000 ≤ n) : MulOk z n := by
  refine ⟨?_, fun h _ => ?_, fun h _ => ?_⟩
  · rw [decide_eq_false (by omega), decide_eq_false (by omega)]
    rfl
  · have h3 : (z.length : Int) * n ≤ 1000 * 1000 := Int.mul_le_mul (by omega) h1 (by omega) (by decide)
    have h4 : (z.length : Int) ≤ (2 ^ 63 - 1) / n := Int.le_ediv_of_mul_le (by omega) (by omega)
    omega
  · unfold Builtin.Str.tooLong
    refine decide_eq_false ?_
    have h3 : z.length * n.toNat ≤ 1000 * 1000 := Nat.mul_le_mul h2 (by omega)
    have h4 : 1000 * 1000 ≤ sizeLine := by decide
    omega
/-- a text times an int -/
theorem op_mul_str : OpR X (binaryOp .Mult) (fun x y H Q => ∃ (z : Str) (n : Int), x = .str z ∧ y = .int n ∧ -1000 ≤ n ∧ n ≤ 1000 ∧ z.length ≤ 1000 ∧ Q (.str (Txt.mul z n)) H) := by
  intro pins s σ H x y v u Q I rx ry h
  obtain ⟨z, n, rfl, rfl, h0, h1, h2, q⟩ := h
  obtain ⟨t, rfl⟩ := rx
  obtain ⟨t', rfl⟩ := ry
  exact PySem.SB.mul (mulOk h1 h2 h0) fun t'' k => ⟨.str _, H, I.tok _, ⟨_, rfl⟩, q⟩
/-- int(a truth) -/
theorem call_int_b : CallR X (.type "int") (fun xs H Q => ∃ k, xs = [.bl k] ∧ Q (.int (if k = true then 1 else 0)) H) := fun pins s σ H xs us Q I r h => call_int1 pins s σ H xs us Q I r (.inr h)
/-- for over a list or a tuple -/
theorem pi_seq {tg l : Expr} {tl : TE} (h : PE X l tl) : PI X tg l (fun σ H R => iList X.K tl σ H R ∨ iTup X.K tl σ H R) := pi_or (pi_list h) (pi_tup h)
end
/-! ### comprehensions of one name -/
theorem wipe1 (σ : L2.St) (j : Nat) (v : Option V) : wipe ((wipe σ [j]).set j v) [j] = wipe σ [j] := by
  show ((σ.set j none).set j v).set j none = σ.set j none
  rw [List.set_set, List.set_set]
/-- the elements make new things at most -/
theorem lc_pure {J : It} {n : Nat} {G : Hp → Prop} {Y : Nat → Hp → V → Hp → Prop} (w : Walk J n G Y) {te : TE} {j : Nat} {σ : L2.St} {H1 : Hp} {D : Addr} {Qd : Hp → Prop} (nD : H1 D = none) (hn : n ≤ 1000000)
    (R : Nat → V → Prop) (hG : ∀ H, Same H1 H → G H) (hY : ∀ i H x H', Y i H x H' → H' = H)
    (he : ∀ i x H Q, i < n → Same H1 H → Y i H x H → (∀ y H4, R i y → Same H H4 → Q y H4) → te ((wipe σ [j]).set j (some x)) H Q)
    (hd : ∀ H ys, Same H1 H → ys.length = n → (∀ i y, ys[i]? = some y → R i y) → H D = some (.lst ys) → Qd H) :
    ∃ W : Nat → Nat → Hp → Prop, (∃ m, W 0 m (upd H1 D (.lst []))) ∧ ∀ i m H, W i m H →
      (J.stop i H ∧ Qd H) ∨ (J.go i H ∧ ∃ Nx : Hp → Prop, (∀ H', Nx H' → ∃ m', m' < m ∧ W (i + 1) m' H') ∧ ∀ x H', J.yld i H x H' → gName j x (wipe σ [j]) H' fun σ2 H2 => wipe σ2 [j] = wipe σ [j] ∧ tYes σ2 H2 fun b H3 =>
        if b = true then te σ2 H3 fun y H4 => ∃ acc, H4 D = some (.lst acc) ∧ acc.length < sizeLine ∧ Nx (upd H4 D (.lst (acc ++ [y]))) else Nx H3) := by
  refine lc_it w (fun i H => Same H1 H ∧ ∃ ys, ys.length = i ∧ (∀ k y, ys[k]? = some y → R k y) ∧ H D = some (.lst ys)) ⟨same_new nD _, [], rfl, fun k y e => by simp at e, upd_same⟩ (fun i H _ p => hG H p.1) ?_ fun H p => ?_
  · rintro i x H H' hi ⟨g1, ys, hl, hR, hD⟩ hy
    obtain rfl := hY i H x H' hy
    refine ⟨wipe1 _ _ _, ?_⟩
    unfold tYes
    dsimp only
    rw [if_pos rfl]
    refine he i x H' _ hi g1 hy fun y H4 r g2 => ⟨ys, g2 _ _ hD, ?_, ?_, ys ++ [y], ?_, ?_, upd_same⟩
    · exact Nat.lt_of_lt_of_le (show ys.length < 1000000 by omega) (by decide)
    · intro b o e
      rw [upd_ne (ne_of_none e nD)]
      exact g2 _ _ (g1 _ _ e)
    · rw [List.length_append, List.length_singleton, hl]
    · intro k z e
      by_cases hk : k < ys.length
      · rw [List.getElem?_append_left hk] at e
        exact hR k z e
      · rw [List.getElem?_append_right (by omega)] at e
        have h0 : k - ys.length = 0 := by
          by_cases h : k - ys.length = 0
          · exact h
          · rw [List.getElem?_eq_none (by simp; omega)] at e
            cases e
        rw [h0] at e
        have h1 : y = z := by simpa using e
        have h2 : k = i := by omega
        rw [h2, ← h1]
        exact r
  · obtain ⟨g1, ys, hl, hR, hD⟩ := p
    exact hd H ys g1 hl hR hD
/-- the elements draw from the spring: each at most u times -/
theorem lc_draws {J : It} {n : Nat} {G : Hp → Prop} {Y : Nat → Hp → V → Hp → Prop} (w : Walk J n G Y) {te : TE} {j : Nat} {σ : L2.St} {H1 : Hp} {D : Addr} {Qd : Hp → Prop} {Z : List Addr} {st sl : Addr} {c u : Nat} (nD : H1 D = none) (hn : n ≤ 1000000) (hs : Sk st sl c H1) (hl : Liv Z st sl H1)
    (R : Hp → V → Prop) (hR : ∀ H H' v, Same H H' → R H v → R H' v) (hG : ∀ H, Keep st sl H1 H → G H) (hY : ∀ i H x H', Y i H x H' → H' = H)
    (he : ∀ i x H c' Q, i < n → Keep st sl H1 H → Sk st sl c' H → Liv (D :: Z) st sl H → c' ≤ c + i * u → Y i H x H → (∀ y H4 c4, R (hid (D :: Z) H4) y → Keep st sl H H4 → Sk st sl c4 H4 → c4 ≤ c' + u → Q y H4) → te ((wipe σ [j]).set j (some x)) H Q)
    (hd : ∀ H ys c', Keep st sl H1 H → Sk st sl c' H → c' ≤ c + n * u → ys.length = n → (∀ y ∈ ys, R (hid (D :: Z) H) y) → H D = some (.lst ys) → Liv (D :: Z) st sl H → D ∉ Z → Qd H) :
    ∃ W : Nat → Nat → Hp → Prop, (∃ m, W 0 m (upd H1 D (.lst []))) ∧ ∀ i m H, W i m H →
      (J.stop i H ∧ Qd H) ∨ (J.go i H ∧ ∃ Nx : Hp → Prop, (∀ H', Nx H' → ∃ m', m' < m ∧ W (i + 1) m' H') ∧ ∀ x H', J.yld i H x H' → gName j x (wipe σ [j]) H' fun σ2 H2 => wipe σ2 [j] = wipe σ [j] ∧ tYes σ2 H2 fun b H3 =>
        if b = true then te σ2 H3 fun y H4 => ∃ acc, H4 D = some (.lst acc) ∧ acc.length < sizeLine ∧ Nx (upd H4 D (.lst (acc ++ [y]))) else Nx H3) := by
  have d1 := hs.nst nD
  have d2 := hs.nsl nD
  have d3 := hl.out nD
  refine lc_it w (fun i H => Keep st sl H1 H ∧ ∃ ys c', ys.length = i ∧ Sk st sl c' H ∧ c' ≤ c + i * u ∧ (∀ y ∈ ys, R (hid (D :: Z) H) y) ∧ H D = some (.lst ys) ∧ Liv (D :: Z) st sl H) ⟨.new nD, [], c, rfl, hs.new nD, by omega, fun y e => (nomatch e), upd_same, hl.cons⟩ (fun i H _ p => hG H p.1) ?_ fun H p => ?_
  · rintro i x H H' hi ⟨g1, ys, c', hl', s1, s2, hRs, hD, lv⟩ hy
    obtain rfl := hY i H x H' hy
    refine ⟨wipe1 _ _ _, ?_⟩
    unfold tYes
    dsimp only
    rw [if_pos rfl]
    refine he i x H' c' _ hi g1 s1 lv s2 hy fun y H4 c4 r g2 s4 hc4 => ⟨ys, g2 _ _ d1 d2 hD, ?_, ?_, ys ++ [y], c4, ?_, s4.upd d1 d2, ?_, ?_, upd_same, ?_⟩
    · exact Nat.lt_of_lt_of_le (show ys.length < 1000000 by omega) (by decide)
    · intro b o n1 n2 e
      rw [upd_ne (ne_of_none e nD)]
      exact g2 _ _ n1 n2 (g1 _ _ n1 n2 e)
    · rw [List.length_append, List.length_singleton, hl']
    · rw [Nat.succ_mul]; omega
    · intro z hz
      have gm : Same (hid (D :: Z) H4) (hid (D :: Z) (upd H4 D (.lst (ys ++ [y])))) := hid_upd (List.mem_cons_self ..)
      rcases List.mem_append.mp hz with e | e
      · exact hR _ _ z ((g2.hid lv.st lv.sl).trans gm) (hRs z e)
      · rw [List.mem_singleton.mp e]
        exact hR _ _ y gm r
    · exact (lv.keep g2 s4).upd
  · obtain ⟨g1, ys, c', hl', h1, h2, h3, hD, lv⟩ := p
    exact hd H ys c' g1 h1 h2 hl' h3 hD lv d3
theorem ys_map {α : Type} {g : α → V} {ds : List α} {ys : List V} (hl : ys.length = ds.length) (h : ∀ (i : Nat) (y : V), ys[i]? = some y → ∃ d, ds[i]? = some d ∧ y = g d) : ys = ds.map g := by
  apply List.ext_getElem?
  intro i
  cases hi : ys[i]? with
  | none =>
    have h1 : ys.length ≤ i := List.getElem?_eq_none_iff.mp hi
    rw [List.getElem?_eq_none]
    rw [List.length_map]
    omega
  | some y =>
    obtain ⟨d, h1, rfl⟩ := h i y hi
    rw [List.getElem?_map, h1]
    rfl
/-- a comprehension over a list or a tuple whose elements make new things at most -/
theorem tLc_row {K : PySem.W.Frag} {wi : TI} {te : TE} {j : Nat} {σ : L2.St} {H : Hp} {Q : VK} {zs : List V}
    (hw : ∀ R : It → Hp → Prop, (∀ p H1, Same H H1 → SqL K H1 p zs → R (Itl K p) H1) → (∀ p H1, Same H H1 → SqT K H1 p zs → R (Itt K p) H1) → wi σ H R) (hn : zs.length ≤ 1000000) (R : Nat → V → Prop)
    (he : ∀ i x H1 Q, zs[i]? = some x → Same H H1 → (∀ y H4, R i y → Same H1 H4 → Q y H4) → te ((wipe σ [j]).set j (some x)) H1 Q)
    (hd : ∀ D H' ys, Same H H' → ys.length = zs.length → (∀ i y, ys[i]? = some y → R i y) → H' D = some (.lst ys) → Q (.ref D) H') : tLc wi (gName j) tYes te [j] σ H Q := by
  refine hw _ (fun p H1 g q D nD => ?_) (fun p H1 g q D nD => ?_)
  · refine lc_pure (walk_list (xs := zs)) nD hn R (fun H2 g2 => g2.seq q) (fun _ _ _ _ y => y.1) (fun i x H2 Q2 hi g2 y k => he i x H2 Q2 y.2 (g.trans g2) k) fun H2 ys g2 hl hR hD => hd D H2 ys (g.trans g2) hl hR hD
  · refine lc_pure (walk_tup (xs := zs)) nD hn R (fun H2 g2 => sameT g2 q) (fun _ _ _ _ y => y.1) (fun i x H2 Q2 hi g2 y k => he i x H2 Q2 y.2 (g.trans g2) k) fun H2 ys g2 hl hR hD => hd D H2 ys (g.trans g2) hl hR hD
/-- .. over a text -/
theorem tLc_str {wi : TI} {te : TE} {j : Nat} {σ : L2.St} {H : Hp} {Q : VK} {z : Str} (hw : ∀ R : It → Hp → Prop, R (Its z) H → wi σ H R) (hn : z.length ≤ 1000000) (R : Nat → V → Prop)
    (he : ∀ i c H1 Q, z.cps.toList[i]? = some c → Same H H1 → (∀ y H4, R i y → Same H1 H4 → Q y H4) → te ((wipe σ [j]).set j (some (.str ⟨#[c]⟩))) H1 Q)
    (hd : ∀ D H' ys, Same H H' → ys.length = z.cps.toList.length → (∀ i y, ys[i]? = some y → R i y) → H' D = some (.lst ys) → Q (.ref D) H') : tLc wi (gName j) tYes te [j] σ H Q := by
  refine hw _ fun D nD => ?_
  refine lc_pure (walk_str (z := z)) nD hn R (fun _ _ => trivial) (fun _ _ _ _ y => y.1) (fun i x H2 Q2 hi g2 y k => ?_) fun H2 ys g2 hl hR hD => hd D H2 ys g2 (by simpa using hl) hR hD
  obtain ⟨_, c, hc, rfl⟩ := y
  exact he i c H2 Q2 (by simpa using hc) g2 k
/-- .. over a range -/
theorem tLc_range {wi : TI} {te : TE} {j : Nat} {σ : L2.St} {H : Hp} {Q : VK} {lo : Int} {n : Nat} (hw : ∀ R : It → Hp → Prop, R (Itr lo n) H → wi σ H R) (hn : n ≤ 1000000) (R : Nat → V → Prop)
    (he : ∀ i H1 Q, i < n → Same H H1 → (∀ y H4, R i y → Same H1 H4 → Q y H4) → te ((wipe σ [j]).set j (some (.int (lo + i)))) H1 Q)
    (hd : ∀ D H' ys, Same H H' → ys.length = n → (∀ i y, ys[i]? = some y → R i y) → H' D = some (.lst ys) → Q (.ref D) H') : tLc wi (gName j) tYes te [j] σ H Q := by
  refine hw _ fun D nD => ?_
  refine lc_pure (walk_range (lo := lo) (n := n)) nD hn R (fun _ _ => trivial) (fun _ _ _ _ y => y.1) (fun i x H2 Q2 hi g2 y k => ?_) fun H2 ys g2 hl hR hD => hd D H2 ys g2 hl hR hD
  obtain ⟨_, rfl⟩ := y
  exact he i H2 Q2 hi g2 k
/-- .. over a range, with draws -/
theorem tLc_draws {wi : TI} {te : TE} {j : Nat} {σ : L2.St} {H : Hp} {Q : VK} {lo : Int} {n : Nat} {Z : List Addr} {st sl : Addr} {c u : Nat} (hw : ∀ R : It → Hp → Prop, R (Itr lo n) H → wi σ H R) (hn : n ≤ 1000000) (hs : Sk st sl c H) (hl : Liv Z st sl H)
    (R : Hp → V → Prop) (hR : ∀ H H' v, Same H H' → R H v → R H' v)
    (he : ∀ D i H1 c' Q, i < n → Keep st sl H H1 → Sk st sl c' H1 → Liv (D :: Z) st sl H1 → c' ≤ c + i * u → (∀ y H4 c4, R (hid (D :: Z) H4) y → Keep st sl H1 H4 → Sk st sl c4 H4 → c4 ≤ c' + u → Q y H4) → te ((wipe σ [j]).set j (some (.int (lo + i)))) H1 Q)
    (hd : ∀ D H' ys c', Keep st sl H H' → Sk st sl c' H' → c' ≤ c + n * u → ys.length = n → (∀ y ∈ ys, R (hid (D :: Z) H') y) → H' D = some (.lst ys) → Liv (D :: Z) st sl H' → D ∉ Z → H D = none → Q (.ref D) H') : tLc wi (gName j) tYes te [j] σ H Q := by
  refine hw _ fun D nD => ?_
  refine lc_draws (walk_range (lo := lo) (n := n)) nD hn hs hl R hR (fun _ _ => trivial) (fun _ _ _ _ y => y.1) (fun i x H2 c' Q2 hi g2 s2 l2 hc y k => ?_) fun H2 ys c' g2 s2 hc hl hR hD l2 d => hd D H2 ys c' g2 s2 hc hl hR hD l2 d nD
  obtain ⟨_, rfl⟩ := y
  exact he D i H2 c' Q2 hi g2 s2 l2 hc k
/-- .. with a test, over a list -/
theorem tLc_filter {K : PySem.W.Frag} {wi : TI} {tt : TT} {te : TE} {j : Nat} {σ : L2.St} {H : Hp} {Q : VK} {zs : List V}
    (hw : ∀ R : It → Hp → Prop, (∀ p H1, Same H H1 → SqL K H1 p zs → R (Itl K p) H1) → wi σ H R) (hn : zs.length ≤ 1000000) (p : V → Bool) (f : V → V)
    (ht : ∀ x H1 Q, x ∈ zs → Same H H1 → (∀ H2, Same H1 H2 → Q (p x) H2) → tt ((wipe σ [j]).set j (some x)) H1 Q)
    (he : ∀ x H1 Q, x ∈ zs → p x = true → Same H H1 → (∀ H2, Same H1 H2 → Q (f x) H2) → te ((wipe σ [j]).set j (some x)) H1 Q)
    (hd : ∀ D H', Same H H' → H' D = some (.lst ((zs.filter p).map f)) → Q (.ref D) H') : tLc wi (gName j) tt te [j] σ H Q := by
  refine hw _ (fun a H1 g q D nD => ?_)
  refine lc_it (walk_list (xs := zs)) (fun i H2 => Same H1 H2 ∧ H2 D = some (.lst (((zs.take i).filter p).map f))) ⟨same_new nD _, upd_same⟩ (fun i H2 _ h => h.1.seq q) ?_ fun H2 h => hd D H2 (g.trans h.1) (by rw [h.2, List.take_length])
  rintro i x H2 H3 hi ⟨g2, hD⟩ ⟨rfl, hx⟩
  have hm := List.mem_of_getElem? hx
  refine ⟨wipe1 _ _ _, ht x H3 _ hm (g.trans g2) fun H4 g4 => ?_⟩
  have tk : zs.take (i + 1) = zs.take i ++ [x] := by rw [List.take_add_one, hx]; rfl
  have out : ∀ {o : HO} {H5 : Hp}, Same H1 H5 → Same H1 (upd H5 D o) := fun g b u e => by
    rw [upd_ne (ne_of_none e nD)]
    exact g _ _ e
  refine ite2 (fun hp => ?_) (fun hp => ?_)
  · refine he x H4 _ hm hp ((g.trans g2).trans g4) fun H5 g5 => ⟨_, g5 _ _ (g4 _ _ hD), ?_, out ((g2.trans g4).trans g5), ?_⟩
    · refine Nat.lt_of_lt_of_le (show _ < 1000001 from ?_) (by decide)
      rw [List.length_map]
      have := List.length_filter_le p (zs.take i)
      rw [List.length_take] at this
      omega
    · rw [upd_same, tk, List.filter_append, List.map_append]
      simp [hp]
  · refine ⟨g2.trans g4, ?_⟩
    rw [g4 _ _ hD, tk, List.filter_append, List.map_append]
    simp [hp]
/-! ### rows of data -/
abbrev Sq (K : PySem.W.Frag) (H : Hp) (a : Addr) (xs : List V) : Prop := SqL K H a xs ∨ SqT K H a xs
theorem Sq.mono {K : PySem.W.Frag} {H H' : Hp} {a : Addr} {xs : List V} (g : Same H H') (h : Sq K H a xs) : Sq K H' a xs := h.imp (fun q => g.seq q) (fun q => sameT g q)
theorem dp_seq {K : PySem.W.Frag} {H : Hp} {v : V} {d : PyData} (h : Dp K H v d) (e : isSeq d = true) : ∃ a xs ds, v = .ref a ∧ Sq K H a xs ∧ DpAll K H xs ds ∧ (d = .list ds ∨ d = .tuple ds) := by
  cases h with
  | lst q r => exact ⟨_, _, _, rfl, .inl q, r, .inl rfl⟩
  | tup q r => exact ⟨_, _, _, rfl, .inr q, r, .inr rfl⟩
  | _ => cases e
theorem dpa_len {K : PySem.W.Frag} {H : Hp} : ∀ {xs : List V} {ds : List PyData}, DpAll K H xs ds → xs.length = ds.length
  | _, _, .nil => rfl
  | _, _, .cons _ r => congrArg (· + 1) (dpa_len r)
theorem dpa_get {K : PySem.W.Frag} {H : Hp} : ∀ {xs : List V} {ds : List PyData} {i : Nat} {x : V}, DpAll K H xs ds → xs[i]? = some x → ∃ d, ds[i]? = some d ∧ Dp K H x d
  | _, _, _, _, .nil, e => by simp at e
  | _, _, 0, _, .cons h _, e => by
    simp at e
    subst e
    exact ⟨_, rfl, h⟩
  | _, _, i + 1, x, .cons _ r, e => by
    obtain ⟨d, h1, h2⟩ := dpa_get (i := i) (x := x) r (by simpa using e)
    exact ⟨d, by simpa using h1, h2⟩
theorem dpa_drop {K : PySem.W.Frag} {H : Hp} : ∀ {xs : List V} {ds : List PyData} (n : Nat), DpAll K H xs ds → DpAll K H (xs.drop n) (ds.drop n)
  | _, _, 0, r => r
  | _, _, _ + 1, .nil => .nil
  | _, _, n + 1, .cons _ r => dpa_drop n r
theorem dpa_app {K : PySem.W.Frag} {H : Hp} : ∀ {xs ys : List V} {ds es : List PyData}, DpAll K H xs ds → DpAll K H ys es → DpAll K H (xs ++ ys) (ds ++ es)
  | _, _, _, _, .nil, s => s
  | _, _, _, _, .cons h r, s => .cons h (dpa_app r s)
theorem dpa_of {K : PySem.W.Frag} {H : Hp} {C : PyData → Prop} : ∀ {xs : List V}, (∀ x ∈ xs, ∃ d, Dp K H x d ∧ C d) → ∃ ds, DpAll K H xs ds ∧ ∀ d ∈ ds, C d
  | [], _ => ⟨[], .nil, fun _ h => nomatch h⟩
  | x :: xs, h => by
    obtain ⟨d, h1, h2⟩ := h x (List.mem_cons_self ..)
    obtain ⟨ds, h3, h4⟩ := dpa_of fun y hy => h y (List.mem_cons_of_mem _ hy)
    refine ⟨d :: ds, .cons h1 h3, fun e he => ?_⟩
    rcases List.mem_cons.mp he with z | z
    · rw [z]; exact h2
    · exact h4 e z
theorem ix_data {K : PySem.W.Frag} {H : Hp} {a : Addr} {xs : List V} {i : Int} {v : V} {Q : VK} (h : Sq K H a xs) (e : atI xs i = some v) (q : Q v H) : rIx K (.ref a) (.int i) H Q :=
  h.elim (fun h => .inl ⟨a, xs, i, v, rfl, rfl, h, e, q⟩) fun h => .inr (.inl ⟨a, xs, i, v, rfl, rfl, h, e, q⟩)
theorem len_data {K : PySem.W.Frag} {H : Hp} {a : Addr} {xs : List V} (h : Sq K H a xs) : LenV K (.ref a) H xs.length := h.elim (fun h => .inl ⟨xs, h, rfl⟩) fun h => .inr ⟨xs, h, rfl⟩
theorem cut_from (xs : List V) (k : Nat) : cutV xs (some (k : Int)) none = xs.drop k := by
  unfold cutV
  rw [HT.sIx_none, HT.sIx_nat]
  by_cases h : k ≤ xs.length
  · rw [Nat.min_eq_left h, List.take_of_length_le (by rw [List.length_drop]; omega)]
  · rw [Nat.min_eq_right (by omega), List.drop_eq_nil_of_le (Nat.le_refl _), List.drop_eq_nil_of_le (by omega), List.take_nil]
/-- t[k:] of a row that is not empty, 0 < k: a new row -/
theorem slice_L {K : PySem.W.Frag} {H : Hp} {a : Addr} {xs : List V} {k : Nat} {Q : VK} (h : SqL K H a xs) (q : ∀ p H', Same H H' → SqL K H' p (xs.drop k) → Q (.ref p) H') :
    rSlL K (.ref a) (some (k : Int)) none H Q ∨ rSlA K (.ref a) (some (k : Int)) none H Q := by
  refine .inl ⟨a, xs, rfl, h, fun p hp => ?_⟩
  rw [cut_from]
  exact q p _ (same_new hp _) (SqL.of upd_same)
theorem slice_T {K : PySem.W.Frag} {H : Hp} {a : Addr} {xs : List V} {k : Nat} {Q : VK} (h : SqT K H a xs) (hx : xs ≠ []) (hk : 0 < k) (q : ∀ p H', Same H H' → SqT K H' p (xs.drop k) → Q (.ref p) H') :
    rSlL K (.ref a) (some (k : Int)) none H Q ∨ rSlA K (.ref a) (some (k : Int)) none H Q := by
  have hl : 0 < xs.length := List.length_pos_iff.mpr hx
  refine .inr ⟨a, xs, rfl, h, fun e => ?_, fun _ p hp => ?_⟩
  · have e1 := e.1
    rw [HT.sIx_nat] at e1
    omega
  · rw [cut_from]
    exact q p _ (same_new hp _) (SqT.of upd_same)
theorem cut_upto (xs : List V) (k : Nat) : cutV xs none (some (k : Int)) = xs.take k := by
  unfold cutV
  rw [HT.sIx_none, HT.sIx_nat, List.drop_zero, Nat.sub_zero]
  by_cases h : k ≤ xs.length
  · rw [Nat.min_eq_left h]
  · rw [Nat.min_eq_right (by omega), List.take_of_length_le (Nat.le_refl _), List.take_of_length_le (by omega)]
/-- t[:k] -/
theorem slice_upto {K : PySem.W.Frag} {H : Hp} {a : Addr} {xs : List V} {k : Nat} {Q : VK} (h : Sq K H a xs) (q : ∀ p H', Same H H' → Sq K H' p (xs.take k) → Q (.ref p) H') :
    rSlL K (.ref a) none (some (k : Int)) H Q ∨ rSlA K (.ref a) none (some (k : Int)) H Q := by
  rcases h with h | h
  · refine .inl ⟨a, xs, rfl, h, fun p hp => ?_⟩
    rw [cut_upto]
    exact q p _ (same_new hp _) (.inl (SqL.of upd_same))
  · refine .inr ⟨a, xs, rfl, h, fun e => ?_, fun _ p hp => ?_⟩
    · refine q a H (Same.refl _) (.inr ?_)
      have e2 := e.2
      rw [HT.sIx_nat] at e2
      rw [List.take_of_length_le (by omega)]
      exact h
    · rw [cut_upto]
      exact q p _ (same_new hp _) (.inr (SqT.of upd_same))
theorem dpa_take {K : PySem.W.Frag} {H : Hp} : ∀ {xs : List V} {ds : List PyData} (n : Nat), DpAll K H xs ds → DpAll K H (xs.take n) (ds.take n)
  | _, _, 0, _ => .nil
  | _, _, _ + 1, .nil => .nil
  | _, _, n + 1, .cons h r => .cons h (dpa_take n r)
theorem eq_close {K : PySem.W.Frag} {H : Hp} {v : V} {d : PyData} {n : Nat} {z : Str} {Q : VK} (h : Dp K H v d) (hk : ok n d) (hn : n ≤ 64) (hz : atom (.str z)) (q : Q (.bl (PyData.eqv d (.str z))) H) : rEqD K v (.str z) H Q :=
  ⟨d, .str z, h, .str z, ok_shaped hk hn, ok_shaped (n := 0) hz (by decide), q⟩
theorem dp_strs {K : PySem.W.Frag} {H : Hp} : ∀ l : List Str, DpAll K H (l.map V.str) (l.map PyData.str)
  | [] => .nil
  | x :: l => .cons (.str x) (dp_strs l)
theorem row_L {K : PySem.W.Frag} {H : Hp} {Z : List Addr} {p : Addr} {vs : List V} {ds : List PyData} (h : H p = some (.lst vs)) (hp : p ∉ Z) (hd : DpAll K (hid Z H) vs ds) : Dp K (hid Z H) (.ref p) (.list ds) :=
  .lst (SqL.of (by rw [hid_ne hp]; exact h)) hd
theorem row_T {K : PySem.W.Frag} {H : Hp} {Z : List Addr} {p : Addr} {vs : List V} {ds : List PyData} (h : H p = some (.tup vs)) (hp : p ∉ Z) (hd : DpAll K (hid Z H) vs ds) : Dp K (hid Z H) (.ref p) (.tuple ds) :=
  .tup (SqT.of (by rw [hid_ne hp]; exact h)) hd
theorem Keep.liv {Z : List Addr} {st sl p : Addr} {H H' : Hp} {o : HO} (k : Keep st sl H H') (n1 : p ≠ st) (n2 : p ≠ sl) (h : H p = some o) : H' p = some o := k _ _ n1 n2 h
theorem dpa_set {K : PySem.W.Frag} {H : Hp} {v : V} {d : PyData} (h : Dp K H v d) : ∀ {xs : List V} {ds : List PyData} (n : Nat), DpAll K H xs ds → DpAll K H (xs.set n v) (ds.set n d)
  | _, _, _, .nil => .nil
  | _, _, 0, .cons _ r => .cons h r
  | _, _, n + 1, .cons q r => .cons q (dpa_set h n r)
theorem hid_new {Z : List Addr} {H : Hp} {p : Addr} {o : HO} (hp : H p = none) : Same (hid Z H) (hid (p :: Z) (upd H p o)) := fun b u e => by
  obtain ⟨e1, e2⟩ := hid_some e
  have nb : b ≠ p := ne_of_none e1 hp
  rw [hid_ne (fun h => (List.mem_cons.mp h).elim nb e2), upd_ne nb]
  exact e1
theorem ixN_of {n : Nat} {i : Int} (h0 : 0 ≤ i) (h1 : i < n) : ixN n i = some i.toNat := by
  unfold ixN
  rw [if_pos h0, if_pos h1]
theorem call_reprR {X : Cx} {k : Nat} (hg : X.A.guards = some []) (h : Room k X.A) : CallR X (.builtin "repr") (fun xs H Q => ∃ (v : V) (d : PyData) (n : Nat), xs = [v] ∧ Dp X.K H v d ∧ ok n d ∧ n ≤ 64 ∧ d.shown.length ≤ sizeLine ∧ Q (.str d.shown) H) :=
  call_reprD hg (by have := h.un; omega)
/-! ### what a datum weighs: more than its text is long -/
mutual
def wt : PyData → Nat
  | .list ds => wtAll ds + 100
  | .tuple ds => wtAll ds + 100
  | _ => 100
def wtAll : List PyData → Nat
  | [] => 0
  | d :: r => (wt d + 2) + wtAll r
end
theorem wtAll_nil : wtAll [] = 0 := by simp only [wtAll]
theorem wtAll_cons (d : PyData) (r : List PyData) : wtAll (d :: r) = (wt d + 2) + wtAll r := by simp only [wtAll]
theorem wtAll_app : ∀ (ds es : List PyData), wtAll (ds ++ es) = wtAll ds + wtAll es
  | [], es => by rw [wtAll_nil]; simp
  | d :: r, es => by rw [List.cons_append, wtAll_cons, wtAll_cons, wtAll_app r es]; omega
theorem wtAll_le {b : Nat} : ∀ {ds : List PyData}, (∀ d ∈ ds, wt d ≤ b) → wtAll ds ≤ ds.length * (b + 2)
  | [], _ => by rw [wtAll_nil]; exact Nat.zero_le _
  | d :: r, h => by
    have h1 := h d (List.mem_cons_self ..)
    have h2 := wtAll_le (ds := r) fun e he => h e (List.mem_cons_of_mem _ he)
    rw [wtAll_cons, List.length_cons, Nat.succ_mul]
    omega
theorem wtAll_set {x d : PyData} {k : Nat} (h : wt x ≤ wt d + k) : ∀ {ds : List PyData} {j : Nat}, ds[j]? = some d → wtAll (ds.set j x) ≤ wtAll ds + k
  | [], _, e => by simp at e
  | d' :: r, 0, e => by
    simp at e
    subst e
    rw [List.set_cons_zero, wtAll_cons, wtAll_cons]
    omega
  | d' :: r, j + 1, e => by
    have := wtAll_set h (ds := r) (j := j) (by simpa using e)
    rw [List.set_cons_succ, wtAll_cons, wtAll_cons]
    omega
theorem wt_atom {d : PyData} (h : atom d) : wt d = 100 := by
  cases d <;> first | exact (show False from h).elim | simp only [wt]
theorem ok_wt : ∀ {n : Nat} {d : PyData}, ok n d → wt d ≤ bnd n
  | 0, d, h => Nat.le_of_eq (wt_atom h)
  | n + 1, .list ds, h => by
    have h1 := wtAll_le fun e he => ok_wt (h.2 e he)
    have h2 : ds.length * (bnd n + 2) ≤ 9 * (bnd n + 2) := Nat.mul_le_mul_right _ h.1
    simp only [wt, bnd]
    omega
  | n + 1, .tuple ds, h => by
    have h1 := wtAll_le fun e he => ok_wt (h.2 e he)
    have h2 : ds.length * (bnd n + 2) ≤ 9 * (bnd n + 2) := Nat.mul_le_mul_right _ h.1
    simp only [wt, bnd]
    omega
  | n + 1, .none, h => by rw [wt_atom (d := .none) h]; exact bnd_pos _
  | n + 1, .bool b, h => by rw [wt_atom (d := .bool b) h]; exact bnd_pos _
  | n + 1, .int b, h => by rw [wt_atom (d := .int b) h]; exact bnd_pos _
  | n + 1, .str b, h => by rw [wt_atom (d := .str b) h]; exact bnd_pos _
  | n + 1, .dict b, h => (show False from h).elim
theorem piled_wt : ∀ {ds : List PyData}, (∀ d ∈ ds, d.shown.length ≤ wt d) → piled (PyData.shownAll ds) ≤ wtAll ds
  | [], _ => by simp only [PyData.shownAll, wtAll]; exact Nat.le_refl _
  | d :: r, h => by
    have h1 := h d (List.mem_cons_self ..)
    have h2 := piled_wt (ds := r) fun e he => h e (List.mem_cons_of_mem _ he)
    simp only [PyData.shownAll, wtAll, piled_cons]
    omega
theorem shown_wt : ∀ {n : Nat} {d : PyData}, ok n d → d.shown.length ≤ wt d
  | 0, d, h => by rw [wt_atom h]; exact atom_shown h
  | n + 1, .list ds, h => by
    have h1 := piled_wt fun e he => shown_wt (h.2 e he)
    have h2 := listText_len (PyData.shownAll ds)
    simp only [PyData.shown, wt]
    omega
  | n + 1, .tuple ds, h => by
    have h1 := piled_wt fun e he => shown_wt (h.2 e he)
    have h2 := fmt_text (PyData.shownAll ds)
    simp only [PyData.shown, wt]
    omega
  | n + 1, .none, h => by rw [wt_atom (d := .none) h]; exact atom_shown h
  | n + 1, .bool b, h => by rw [wt_atom (d := .bool b) h]; exact atom_shown h
  | n + 1, .int b, h => by rw [wt_atom (d := .int b) h]; exact atom_shown h
  | n + 1, .str b, h => by rw [wt_atom (d := .str b) h]; exact atom_shown h
  | n + 1, .dict b, h => (show False from h).elim
end Rm

set_option Elab.async false
set_option linter.all false
set_option maxRecDepth 100000
set_option maxHeartbeats 4000000
namespace Rm
open PySem PySem.Spec PyProof.Rows L2
/-! ### the law's own def, called where no repr is under way -/
theorem law1 {P : Program} {w : World} {K : PySem.W.Frag} {mg : Str → Option Value} {base : Heap} {k : Nat} {nme x : Str} {st : Stmt} {N : List Str} {f : Addr} {fd : FuncData} {sp : Sp} (F : FunD K nme nme (defArgs st) (defBody st) (defScope st) [] [] f fd) (S : FnScope N [x] (defScope st))
    (body : ∀ (cdv : Value) (s : Shared) (H : Hp) (a : Addr) (Q : VK), Room k (callerA.deeper (envOfC nme (defScope st) s.heap.objs.size f cdv)) → sp [.ref a] H Q E0 →
      ∃ t, PSs (cxOf CX0 P w K mg base N nme (defScope st) f cdv callerA [] s H E0).nox (defBody st) t ∧ t { nx := fun _ H' => Q .non H', rt := Q } (start N [.ref a]) H)
    (s : Shared) (H : Hp) (a : Addr) (Q : VK) (hr : Room (k + 1) callerA) (en : Env0 P w K mg base callerA [] s H) (bd : BindsTo s fd ⟨[.ref a], []⟩ [(x, .ref a)]) (hs : sp [.ref a] H Q E0) :
    codeAny (model P w) callerA (.call (.ref f) ⟨[.ref a], []⟩) (CR CX0 [] P w H s Q E0) s := by
  obtain ⟨oc, od, dV, kV, doc, pm, an, cdv, ct, osl, rfl, look, code, _⟩ := F.ex
  have kin : K.In s.heap := en.mod.kin.keeps fun b o h => (en.bs b o h).1
  have nol : s.heap.NoLimit := en.mod.nolimit.keeps fun b o h => (en.bs b o h).1
  have kinds : ∀ y ∈ [x].zip [Value.ref a], (defScope st).names.lookup y.1 = some .local ∨ ((defScope st).names.lookup y.1 = some .cell ∧ ((cellsFrom (s.heap.objs.size + 1) (defScope st).names []).lookup y.1).isSome = true) := by
    rintro ⟨n, v⟩ hy
    cases S.par n (List.of_mem_zip hy).1 with
    | inl h => exact .inl h
    | inr h => exact .inr ⟨h, PySem.W.cellsFrom_some _ _ _ (.inl h)⟩
  refine codeAny_call_function hr.depth (kin _ _ look) rfl S.co S.gen rfl (PySem.W.codeRec_of kin code) (bd _ _ _ _ ?_)
  refine wpAny_newFunctionEnv_cells S.kind kinds fun env henv s1 inC => ?_
  subst henv
  refine ⟨nol.keeps inC.toInCall.keep, codeAny_func ?_⟩
  obtain ⟨t, pr, rd⟩ := body cdv s H a Q (hr.deeper _) hs
  have inv : L2.Inv (cxOf CX0 P w K mg base N nme (defScope st) f cdv callerA [] s H E0) [] (start N [.ref a]) H s1 := inv_start S hr.hd en rfl (.cons rfl .nil) inC
  refine wpAny_mono (pr.nox.run [] s1 (start N [.ref a]) H _ inv rd) (fun fl s' hfl => ?_) fun e s' he => he
  cases fl with
  | ret u =>
    obtain ⟨v, σ', H', J, rv, q⟩ := hfl
    exact ⟨v, H', J.os, J.bare, J.base, J.hok, rv, q⟩
  | next =>
    obtain ⟨σ', H', J, q⟩ := hfl
    exact ⟨V.non, H', J.os, J.bare, J.base, J.hok, rfl, q⟩
  | brk => exact hfl.elim fun _ h => h.elim fun _ h => False.elim h.2
  | cont => exact hfl.elim fun _ h => h.elim fun _ h => False.elim h.2
/-- .. at the heap that the top left, with the script in it -/
theorem law_run {P : Program} {w : World} {K : PySem.W.Frag} {mg mb : Str → Option Value} {k : Nat} {fa a : Addr} {fd : FuncData} {x : Str} {sp : Sp} {s : Shared} {us : List Value} {ns : List Int}
    (kin : K.In s.heap) (gl : s.heap.Ns mainGlobals mg) (bl : s.heap.Ns builtinsNs mb) (bb : ∀ y : Str, y ≠ "__name__" → mb y = bootBuiltins y) (nol : s.heap.NoLimit) (gens : s.gens = #[])
    (obj : s.heap.get? a = some { cls := .type "list", data := .seq us.toArray }) (iar : IntsAre us ns) (len : ns.length ≤ sizeLine) (hr : Room k callerA) (bd : ∀ (s : Shared) (u : Value), BindsTo s fd ⟨[u], []⟩ [(x, u)])
    (F : ∀ base : Heap, K.In base → base.Ns mainGlobals mg → ∀ (s : Shared) (H : Hp) (Q : VK), Env0 P w K mg base callerA [] s H → BindsTo s fd ⟨[.ref a], []⟩ [(x, .ref a)] → sp [.ref a] H Q E0 → codeAny (model P w) callerA (.call (.ref fa) ⟨[.ref a], []⟩) (CR CX0 [] P w H s Q E0) s)
    (hsp : ∀ H : Hp, SqL K H a (ns.map V.int) → sp [.ref a] H (fun v _ => v = .bl true) E0) :
    codeAny (model P w) callerA (.call (.ref fa) ⟨[.ref a], []⟩) (fun r s' => r = .ok (.ret (.bool true)) ∧ OldK s.heap s'.heap ∧ s'.os = s.os ∧ AllBare s'.gens) s := by
  have vals := vals_ints iar
  have main : ∀ H : Hp, (∀ b, H b = none ∨ (b = a ∧ K.lookup a = none ∧ ∃ o xs, H b = some (.frz o (.lst xs)))) → SqL K H a (ns.map V.int) → HOk P w H s.heap →
      codeAny (model P w) callerA (.call (.ref fa) ⟨[.ref a], []⟩) (fun r s' => r = .ok (.ret (.bool true)) ∧ OldK s.heap s'.heap ∧ s'.os = s.os ∧ AllBare s'.gens) s := by
    intro H only sq hok
    have keepB : ∀ {b : Addr} {o : Obj}, s.heap.get? b = some o → H b = none → (hidT s.heap H).get? b = some o := fun h n => hidT_get h n
    have nsB : ∀ {b : Addr} {m : Str → Option Value}, s.heap.Ns b m → (hidT s.heap H).Ns b m := by
      rintro b m ⟨o, es, ep, h, dat, r⟩
      refine ⟨o, es, ep, keepB h ?_, dat, r⟩
      rcases only b with z | ⟨rfl, _⟩
      · exact z
      · rw [obj] at h
        cases h
        exact nomatch (show Data.seq us.toArray _ = Data.dict es ep from dat)
    have kinB : K.In (hidT s.heap H) := fun b o h => keepB (kin b o h) (by
      rcases only b with z | ⟨rfl, z, _⟩
      · exact z
      · rw [z] at h
        cases h)
    have md : Mod K mg (hidT s.heap H) := ⟨kinB, nsB gl, ⟨mb, nsB bl, bb⟩, by
      obtain ⟨mc, h1, h2⟩ := nol
      exact ⟨mc, nsB h1, h2⟩⟩
    have en : Env0 P w K mg (hidT s.heap H) callerA [] s H := ⟨rfl, md, fun b o h => of_hidT h, Nat.le_of_eq (hidT_size _ _), trivial, fun b hb => absurd (show b ∈ ([] : List Addr) from hb) (by simp), hok, .of_eq gens⟩
    refine codeAny_mono (F _ kinB (nsB gl) s H _ en (bd s (.ref a)) (hsp H sq)) fun r s' h => ?_
    match r, h with
    | .error e, h => exact False.elim h
    | .ok .next, h => exact False.elim h
    | .ok .brk, h => exact False.elim h
    | .ok .cont, h => exact False.elim h
    | .ok (.ret u), h =>
      obtain ⟨v, H', os, bare, un, hok', rv, e⟩ := h
      have e' : v = .bl true := e
      subst e'
      obtain rfl : u = Value.bool true := rv
      refine ⟨rfl, OldK.of_keep fun b o hb => ?_, os, bare⟩
      rcases only b with z | ⟨_, _, ob, xs, z⟩
      · exact un.keep b o hb z (by intro y; exact absurd (show b ∈ ([] : List Addr) from y) (by simp)) (by simp)
      · have z2 := un.frzs b ob _ z
        have h1 := (hok b _ z).1
        have h2 := (hok' b _ z2).1
        rw [hb] at h1
        cases h1
        exact h2
  cases lk : K.lookup a with
  | some o =>
    have h := kin a o lk
    rw [obj] at h
    cases h
    refine main (fun _ => none) (fun _ => .inl rfl) (.inr ⟨_, us.toArray, _, lk, rfl, rfl, rfl, ?_, by simpa using vals⟩) fun b u z => nomatch z
    rw [List.size_toArray, iar.length]
    exact len
  | none =>
    have at1 : ∀ b, b = a → (fun b => if b = a then some (HO.frz { cls := .type "list", data := .seq us.toArray } (.lst (ns.map V.int))) else none : Hp) b = some (.frz { cls := .type "list", data := .seq us.toArray } (.lst (ns.map V.int))) := fun b h => if_pos h
    refine main (fun b => if b = a then some (.frz { cls := .type "list", data := .seq us.toArray } (.lst (ns.map V.int))) else none) (fun b => ?_) (.inl (.inr ⟨_, at1 a rfl⟩)) fun b u z => ?_
    · by_cases h : b = a
      · exact .inr ⟨h, lk, _, _, at1 b h⟩
      · exact .inl (if_neg h)
    · by_cases h : b = a
      · have z' := (at1 b h).symm.trans z
        cases z'
        subst h
        exact ⟨obj, by rw [List.length_map]; exact len, us, _, vals, obj⟩
      · have z' : (none : Option HO) = some u := (if_neg h).symm.trans z
        cases z'
theorem walk_law {l : PySem.W.OpenLaw} {n k : Nat} {q : Program} {loose : List Str} {XP : (Str → Option Value) → Heap → Prop} {YP : World → Heap → Prop} {d : DefRec} {x : Str}
    (hn : l.most = some n) (hn2 : n ≤ sizeLine) (hdf : d.params.defaults = []) (hr : Room k callerA)
    (F : ∀ (w : World) (mg : Str → Option Value) (fa : Addr) (h : Heap), YP w h → h.Ns mainGlobals mg → mg d.name = some (.ref fa) →
      ∃ (K : PySem.W.Frag) (fd : FuncData) (sp : Sp), K.In h ∧ (∀ (s : Shared) (u : Value), BindsTo s fd ⟨[u], []⟩ [(x, u)]) ∧
        (∀ (H : Hp) (a : Addr) (ns : List Int), ns.length ≤ n → SqL K H a (ns.map V.int) → sp [.ref a] H (fun v _ => v = .bl true) E0) ∧
        ∀ base : Heap, K.In base → base.Ns mainGlobals mg → ∀ (s : Shared) (H : Hp) (a : Addr) (Q : VK), Env0 l.prog w K mg base callerA [] s H → BindsTo s fd ⟨[.ref a], []⟩ [(x, .ref a)] → sp [.ref a] H Q E0 → codeAny (model l.prog w) callerA (.call (.ref fa) ⟨[.ref a], []⟩) (CR CX0 [] l.prog w H s Q E0) s) :
    PySem.W.WalkO q loose XP YP l.row.toRowW d [] (fun f vs => PySem.call f vs) := by
  refine Att.attach_call hn hdf fun w s0 s mg mb fa o pm cd doc a us ns G Y ho hd hcd hmg obj iar len gens => ?_
  obtain ⟨K, fd, sp, kin, bd, hsp, go⟩ := F w mg fa _ Y G.T.g hmg
  exact law_run kin G.T.g G.T.b G.T.builtins G.T.nolimit gens obj iar (Nat.le_trans len hn2) hr bd (fun base h1 h2 s H Q => go base h1 h2 s H a Q) fun H sq => hsp H a ns len sq
end Rm

set_option Elab.async false
set_option linter.all false
set_option maxRecDepth 100000
set_option maxHeartbeats 4000000
namespace Rm
open PySem PySem.Spec PyProof.Rows L2
def topS (i : Nat) : Stmt := PySem.Challenge.pw_refmodes_k03_values_or_not.main.body.getD i (.Pass ⟨0, 0, 0, 0⟩)
abbrev f_law_draw_s : Stmt := topS 12
abbrev f_law_draw_N : List Str := ["_law_stream", "_law_many", "_law_digit", "_law_mixed"]
abbrev f_law_draw_P : List Str := ["_law_stream", "_law_many"]
theorem f_law_draw_sc : FnScope f_law_draw_N f_law_draw_P (defScope f_law_draw_s) := ⟨rfl, rfl, rfl, by decide +kernel, rfl, by decide +kernel, by decide +kernel⟩

section
variable {P : Program} {w : World} {K : PySem.W.Frag} {mg : Str → Option Value} {base : Heap}
theorem cal_law_draw (F : Df K mg "_law_draw" f_law_draw_s) : Cal P w K mg base 1 "_law_draw" spDraw := by
  refine F.cal f_law_draw_sc (fun _ _ _ _ _ _ us hl => match us, hl with | [_, _], _ => rfl) (fun vs H Q E h => ?_) (fun f cdv A outer s H vs Q E hr h => ?_)
  · obtain ⟨st, sl, c, n, rfl, _⟩ := h
    rfl
  obtain ⟨st, sl, c, n, rfl, hk, hc, hn0, hn1, q⟩ := h
  refine ⟨_, (pss_cons (ps_asg (pe_op op_add (pe_ix ix_list (pv 0) pe_int (fun _ _ => rfl)) pe_int) (pg_sub (pv 0) pe_int set_list))
      (C8.pss_cut (ps_if (PW.pt (pw_and (pt_cmpR op_eq (pe_ix ix_list (pv 0) pe_int (fun _ _ => rfl)) pe_int (nomark _)) (pw_and1 (pt_cmpR (op_neD hr.units) (pe_ix ix_list (pv 0) pe_int (fun _ _ => rfl)) (pe_lst pa_nil) (nomark _))))) (pss_cons (ps_asg (pe_bm PySem.F.plainAttrs_list PySem.F.slot_list_pop PySem.F.type_list_pop mt_popAt (pe_ix ix_list (pv 0) pe_int (fun _ _ => rfl)) (pa_cons pe_int pa_nil)) (pg_sub (pv 0) pe_int set_list))
      (pss_one (ps_if (pt_cmpR op_lt (pe_ix ix_list (pv 0) pe_int (fun _ _ => rfl)) (pe_op op_pow pe_int pe_int) (nomark _)) (pss_cons (ps_asg (pe_op op_mod (pe_op op_add (pe_op op_add (pe_op op_mul (pe_ix ix_list (pv 0) pe_int (fun _ _ => rfl)) pe_int) (pe_ix ix_list (pv 0) pe_int (fun _ _ => rfl))) pe_int) pe_int) (pg_sub (pv 0) pe_int set_list))
      (pss_one (ps_asg pe_int (pg_sub (pv 0) pe_int set_list)))) pss_nil))) pss_nil)
      (pss_cons (ps_if (pt_cmpR op_gt (pe_ix ix_list (pv 0) pe_int (fun _ _ => rfl)) pe_int (nomark _)) (pss_cons (ps_set (i := 2) f_law_draw_sc.nd rfl (Or.inl rfl) (pe_op op_mod (pe_ix ix_list (pv 0) pe_int (fun _ _ => rfl)) (pv 1)))
      (pss_cons (ps_asg (pe_op op_fdiv (pe_ix ix_list (pv 0) pe_int (fun _ _ => rfl)) (pv 1)) (pg_sub (pv 0) pe_int set_list))
      (pss_one (ps_ret (pv 2))))) pss_nil)
      (pss_cons (ps_set (i := 3) f_law_draw_sc.nd rfl (Or.inl rfl) (pe_op op_mod (pe_op op_pow (pe_op op_add (pe_op op_add (pe_ix ix_list (pv 0) pe_int (fun _ _ => rfl)) (pe_op op_mul pe_int (pe_ix ix_list (pv 0) pe_int (fun _ _ => rfl)))) pe_int) pe_int) pe_int))
      (pss_one (ps_ret (pe_op op_mod (pe_op op_mod (pe_op op_pow (pe_op op_add (pe_op op_add (pe_op op_mul (pv 3) pe_int) (pe_op op_mul (pe_op op_mul pe_int (pe_ix ix_list (pv 0) pe_int (fun _ _ => rfl))) (pe_ix ix_list (pv 0) pe_int (fun _ _ => rfl)))) pe_int) pe_int) pe_int) (pv 1)))))))), ?_⟩
  obtain ⟨ne, r, m, ns, e1, e2, r0, m0, m1, l63⟩ := hk
  have k1 : Keep st sl H (upd H st (.lst [.ref sl, .int r, .int (c + 1), .int m])) := .of fun b o h1 h2 e => by rw [upd_ne h1]; exact e
  have f1 : upd H st (.lst [.ref sl, .int r, .int (c + 1), .int m]) st = some (.lst [.ref sl, .int r, .int (c + 1), .int m]) := upd_same
  have f2 : upd H st (.lst [.ref sl, .int r, .int (c + 1), .int m]) sl = some (.lst (ns.map V.int)) := by rw [upd_ne ne.symm]; exact e2
  refine ⟨_, rfl, st, _, _, _, rfl, rfl, SqL.of e1, rfl, _, _, rfl, rfl, _, rfl, st, _, _, _, rfl, rfl, e1, rfl, ?_⟩
  show (C8.tCut _ _) _ _ (upd H st (.lst [.ref sl, .int r, .int (c + 1), .int m]))
  generalize upd H st (.lst [.ref sl, .int r, .int (c + 1), .int m]) = H1 at k1 f1 f2 ⊢
  -- the if: behind it the spring holds numbers within their bounds
  refine ⟨fun σ' H' => σ' = [some (.ref st), some (.int n), none, none] ∧ Keep st sl H H' ∧ ∃ (r m : Int) (ns : List Int), H' st = some (.lst [.ref sl, .int r, .int (c + 1), .int m]) ∧ H' sl = some (.lst (ns.map V.int)) ∧ 0 ≤ r ∧ 0 ≤ m ∧ m < 2147483647 ∧ ns.length ≤ 63, ?_, ?_⟩
  · have nx : ∀ H', Keep st sl H H' → H' st = some (.lst [.ref sl, .int r, .int (c + 1), .int m]) → H' sl = some (.lst (ns.map V.int)) → [some (.ref st), some (.int n), none, none] = [some (.ref st), some (.int n), (none : Option V), none] ∧ Keep st sl H H' ∧ ∃ (r m : Int) (ns : List Int), H' st = some (.lst [.ref sl, .int r, .int (c + 1), .int m]) ∧ H' sl = some (.lst (ns.map V.int)) ∧ 0 ≤ r ∧ 0 ≤ m ∧ m < 2147483647 ∧ ns.length ≤ 63 := fun H' a b d => ⟨rfl, a, r, m, ns, b, d, r0, m0, m1, l63⟩
    refine ⟨_, rfl, st, _, _, _, rfl, rfl, SqL.of f1, rfl, rfl, _, rfl, ite2 (fun e => ?_) (fun e => ?_)⟩
    · refine ⟨_, rfl, st, _, _, _, rfl, rfl, SqL.of f1, rfl, Nat.zero_le _, fun p hp => ?_⟩
      have g1 := same_new hp (.lst []) _ _ f1
      have g2 := same_new hp (.lst []) _ _ f2
      have kp := k1.trans (Keep.new (st := st) (sl := sl) (o := .lst []) hp)
      have g3 : upd H1 p (.lst []) p = some (.lst []) := upd_same
      generalize upd H1 p (.lst []) = H2 at g1 g2 g3 kp ⊢
      refine ⟨.list (ns.map PyData.int), .list [], .lst (SqL.of g2) (dp_ints ns), .lst (SqL.of g3) .nil, shaped_ints ns, shaped_ints [], _, rfl, ?_⟩
      rw [eqv_ints_nil]
      cases ns with
      | nil => exact iteF (nx _ kp g1 g2)
      | cons z zs =>
        refine iteT ?_
        have g4 : upd H2 sl (.lst (zs.map V.int)) st = some (.lst [.ref sl, .int r, .int (c + 1), .int m]) := by rw [upd_ne ne]; exact g1
        have g5 : upd H2 sl (.lst (zs.map V.int)) sl = some (.lst (zs.map V.int)) := upd_same
        have k2 : Keep st sl H (upd H2 sl (.lst (zs.map V.int))) := kp.trans (Keep.of fun b o _ h e => by rw [upd_ne h]; exact e)
        have g2' : H2 sl = some (.lst (V.int z :: zs.map V.int)) := g2
        refine ⟨_, rfl, st, _, _, _, rfl, rfl, SqL.of g1, rfl, .inl ⟨rfl, _, SqL.of g2⟩, sl, _, 0, 0, .int z, rfl, rfl, g2', by decide, by decide, (by rw [List.length_cons]; exact seqIx0 _), rfl, _, rfl, st, _, _, _, rfl, rfl, g4, rfl, ?_⟩
        dsimp only
        refine (?_ : tIfS _ _ _ _ _ (upd (upd H2 sl (.lst (zs.map V.int))) st (.lst [.ref sl, .int z, .int (c + 1), .int m])))
        generalize upd H2 sl (.lst (zs.map V.int)) = H3 at g4 g5 k2 ⊢
        have g6 : upd H3 st (.lst [.ref sl, .int z, .int (c + 1), .int m]) st = some (.lst [.ref sl, .int z, .int (c + 1), .int m]) := upd_same
        have g7 : upd H3 st (.lst [.ref sl, .int z, .int (c + 1), .int m]) sl = some (.lst (zs.map V.int)) := by rw [upd_ne ne.symm]; exact g5
        have k3 : Keep st sl H (upd H3 st (.lst [.ref sl, .int z, .int (c + 1), .int m])) := k2.trans (Keep.of fun b o h _ e => by rw [upd_ne h]; exact e)
        generalize upd H3 st (.lst [.ref sl, .int z, .int (c + 1), .int m]) = H4 at g6 g7 k3 ⊢
        refine ⟨_, rfl, st, _, _, _, rfl, rfl, SqL.of g6, rfl, _, _, rfl, rfl, ⟨by decide, by decide, by decide⟩, _, _, rfl, rfl, _, rfl, ite2 (fun hz => ?_) (fun hz => ?_)⟩
        · refine ⟨_, rfl, st, _, _, _, rfl, rfl, SqL.of g6, rfl, _, _, rfl, rfl, .inr ⟨by decide, by decide⟩, _, rfl, st, _, _, _, rfl, rfl, SqL.of g6, rfl, _, _, rfl, rfl, _, _, rfl, rfl, _, _, rfl, rfl, (by show (0 : Int) < 2147483647; decide), _, rfl, st, _, _, _, rfl, rfl, g6, rfl, ?_⟩
          dsimp only
          show (tAsg _ _) _ _ (upd H4 st (.lst [.ref sl, .int z, .int (c + 1), .int ((m * 31 + z + 7) % 2147483647)]))
          have b1 : 0 ≤ (m * 31 + z + 7) % 2147483647 := Int.emod_nonneg _ (by decide)
          have b2 : (m * 31 + z + 7) % 2147483647 < 2147483647 := Int.emod_lt_of_pos _ (by decide)
          generalize (m * 31 + z + 7) % 2147483647 = m' at b1 b2 ⊢
          refine ⟨_, rfl, st, _, _, _, rfl, rfl, upd_same, rfl, ?_⟩
          refine ⟨rfl, k3.trans (Keep.of fun b o h _ e => ?_), 0, m', zs, upd_same, ?_, Int.le_refl _, b1, b2, Nat.le_of_succ_le l63⟩
          · rw [upd_ne h, upd_ne h]
            exact e
          · rw [upd_ne ne.symm, upd_ne ne.symm]
            exact g7
        · refine ⟨rfl, k3, z, m, zs, g6, g7, ?_, m0, m1, Nat.le_of_succ_le l63⟩
          have := of_decide_eq_false (Bool.eq_false_iff.mpr hz)
          have h18 : (0 : Int) ≤ 10 ^ 18 := by decide
          have h19 : ¬ z < (10 : Int) ^ 18 := this
          omega
    · exact nx _ k1 f1 f2
  · -- the answer
    rintro σ' H' ⟨rfl, k2, r', m', ns', g1, g2, r0', m0', m1', l63'⟩
    clear k1 f1 f2 e1 e2
    refine ⟨_, rfl, st, _, _, _, rfl, rfl, SqL.of g1, rfl, _, _, rfl, rfl, _, rfl, ite2 (fun hz => ?_) (fun hz => ?_)⟩
    · have hz' : 0 < r' := of_decide_eq_true hz
      refine ⟨_, rfl, st, _, _, _, rfl, rfl, SqL.of g1, rfl, _, rfl, _, _, rfl, rfl, hn0, ?_⟩
      refine ⟨_, rfl, st, _, _, _, rfl, rfl, SqL.of g1, rfl, _, rfl, _, _, rfl, rfl, ⟨hn0, hn1⟩, _, rfl, st, _, _, _, rfl, rfl, g1, rfl, ?_⟩
      refine ⟨_, rfl, q _ _ (Int.emod_nonneg _ (by omega)) (Int.emod_lt_of_pos _ hn0) ⟨ne, r' / n, m', ns', upd_same, ?_, Int.ediv_nonneg r0' (by omega), m0', m1', l63'⟩ (k2.trans (Keep.of fun b o h _ e => ?_))⟩
      · rw [upd_ne ne.symm]
        exact g2
      · rw [upd_ne h]
        exact e
    · refine ⟨_, rfl, st, _, _, _, rfl, rfl, SqL.of g1, rfl, _, rfl, st, _, _, _, rfl, rfl, SqL.of g1, rfl, _, _, rfl, rfl, .inl ⟨by decide, by decide⟩, _, _, rfl, rfl, _, _, rfl, rfl, _, _, rfl, rfl, ⟨by decide, by decide, ?_⟩, _, _, rfl, rfl, (by show (0 : Int) < 2147483629; decide), ?_⟩
      · show (m' + 104729 * ((c : Int) + 1) + 17).natAbs < 2 ^ 64
        omega
      have b1 : 0 ≤ ((m' + 104729 * ((c : Int) + 1) + 17) ^ (5 : Int).toNat) % 2147483629 := Int.emod_nonneg _ (by decide)
      have b2 : ((m' + 104729 * ((c : Int) + 1) + 17) ^ (5 : Int).toNat) % 2147483629 < 2147483629 := Int.emod_lt_of_pos _ (by decide)
      dsimp only [gName]
      show (tRet _) _ ([some (.ref st), some (.int n), none, some (.int (((m' + 104729 * ((c : Int) + 1) + 17) ^ (5 : Int).toNat) % 2147483629))]) H'
      generalize ((m' + 104729 * ((c : Int) + 1) + 17) ^ (5 : Int).toNat) % 2147483629 = x at b1 b2 ⊢
      refine ⟨_, rfl, _, _, rfl, rfl, .inr ⟨by decide, by decide⟩, _, rfl, st, _, _, _, rfl, rfl, SqL.of g1, rfl, _, _, rfl, rfl, .inl ⟨by decide, by decide⟩, _, rfl, st, _, _, _, rfl, rfl, SqL.of g1, rfl, _, _, rfl, rfl, .inr ?_, _, _, rfl, rfl, _, _, rfl, rfl, _, _, rfl, rfl, ⟨by decide, by decide, ?_⟩, _, _, rfl, rfl, (by show (0 : Int) < 1000000007; decide), _, rfl, _, _, rfl, rfl, hn0, ?_⟩
      · show (-(2 ^ 64) : Int) < (c : Int) + 1 ∧ (c : Int) + 1 < 2 ^ 64
        omega
      · show (x * 48271 + 40503 * ((c : Int) + 1) * ((c : Int) + 1) + 13).natAbs < 2 ^ 64
        have h1 : 0 ≤ ((c : Int) + 1) := by omega
        have h2 : ((c : Int) + 1) * ((c : Int) + 1) ≤ 1000000 * 1000000 := Int.mul_le_mul (by omega) (by omega) h1 (by decide)
        have h3 : 0 ≤ ((c : Int) + 1) * ((c : Int) + 1) := Int.mul_nonneg h1 h1
        rw [Int.mul_assoc]
        generalize ((c : Int) + 1) * ((c : Int) + 1) = y at h2 h3
        omega
      · exact q _ _ (Int.emod_nonneg _ (by omega)) (Int.emod_lt_of_pos _ hn0) ⟨ne, r', m', ns', g1, g2, r0', m0', m1', l63'⟩ k2
end
end Rm

set_option Elab.async false
set_option linter.all false
set_option maxRecDepth 100000
set_option maxHeartbeats 4000000
namespace Rm
open PySem PySem.Spec PyProof.Rows L2
/-! ### the mirror -/
def letters : Str := "abcdefghijklmnopqrstuvwxyz"
def resv : List Str := ["apply", "call", "case", "close", "drop", "dup", "else", "end", "function", "if", "lend", "let", "match", "mod", "move", "new", "own", "return"]
def nm (x : Str) : Bool := (decide (1 ≤ x.length) && decide (x.length ≤ 8) && !resv.contains x) && x.cps.toList.all fun c => decide (c ∈ letters.cps.toList)
def isNm : PyData → Bool
  | .str x => nm x
  | _ => false
def sml : PyData → Bool
  | .int i => decide (i.natAbs < 10 ^ 30)
  | _ => false
def isClose (d : PyData) : Bool := PyData.eqv d (.str "close")
def closeV (f : PyData → Bool) : List PyData → Bool
  | [] => false
  | e :: es => isNm e && es.all f
def rowV (f : PyData → Bool) : List PyData → Bool
  | [] => false
  | d :: r => decide (r.length ≤ 6) && if isClose d = true then closeV f r else isNm d && r.all f
def isV : Nat → PyData → Bool
  | n + 1, .list ds => rowV (isV n) ds
  | n + 1, .tuple ds => rowV (isV n) ds
  | _, d => sml d
theorem inV_str (x : Str) (l : List Str) : inV (.str x) (l.map V.str) = l.contains x := by
  unfold inV
  rw [List.any_map, List.contains_eq_any_beq]
  congr 1
  funext y
  show (y == x) = (x == y)
  exact Bool.beq_comm
theorem flat_strs (l : List Str) : (l.map V.str).all flatV = true := by
  rw [List.all_eq_true]
  intro v hv
  obtain ⟨x, _, rfl⟩ := List.mem_map.mp hv
  rfl
/-! ### the text -/
abbrev f_is_row_s : Stmt := topS 4
abbrev f_is_row_N : List Str := ["thing"]
abbrev f_is_row_P : List Str := ["thing"]
theorem f_is_row_sc : FnScope f_is_row_N f_is_row_P (defScope f_is_row_s) := ⟨rfl, rfl, rfl, by decide +kernel, rfl, by decide +kernel, by decide +kernel⟩
abbrev f_is_integer_s : Stmt := topS 5
abbrev f_is_integer_N : List Str := ["thing"]
abbrev f_is_integer_P : List Str := ["thing"]
theorem f_is_integer_sc : FnScope f_is_integer_N f_is_integer_P (defScope f_is_integer_s) := ⟨rfl, rfl, rfl, by decide +kernel, rfl, by decide +kernel, by decide +kernel⟩
abbrev f_is_small_s : Stmt := topS 6
abbrev f_is_small_N : List Str := ["thing"]
abbrev f_is_small_P : List Str := ["thing"]
theorem f_is_small_sc : FnScope f_is_small_N f_is_small_P (defScope f_is_small_s) := ⟨rfl, rfl, rfl, by decide +kernel, rfl, by decide +kernel, by decide +kernel⟩
abbrev f_is_name_s : Stmt := topS 7
abbrev f_is_name_N : List Str := ["thing", "letter"]
abbrev f_is_name_P : List Str := ["thing"]
theorem f_is_name_sc : FnScope f_is_name_N f_is_name_P (defScope f_is_name_s) := ⟨rfl, rfl, rfl, by decide +kernel, rfl, by decide +kernel, by decide +kernel⟩
abbrev f_is_value_s : Stmt := topS 10
abbrev f_is_value_N : List Str := ["thing", "part"]
abbrev f_is_value_P : List Str := ["thing"]
theorem f_is_value_sc : FnScope f_is_value_N f_is_value_P (defScope f_is_value_s) := ⟨rfl, rfl, rfl, by decide +kernel, rfl, by decide +kernel, by decide +kernel⟩

structure Tx (K : PySem.W.Frag) (mg : Str → Option Value) : Prop where
  n_isinstance : mg "isinstance" = none
  n_tuple : mg "tuple" = none
  n_list : mg "list" = none
  n_int : mg "int" = none
  n_bool : mg "bool" = none
  n_str : mg "str" = none
  n_abs : mg "abs" = none
  n_len : mg "len" = none
  n_all : mg "all" = none
  n_range : mg "range" = none
  n_min : mg "min" = none
  n_repr : mg "repr" = none
  gLETTERS : ∃ u, mg "LETTERS" = some u ∧ RelV (.str letters) u
  gLONGEST_NAME : ∃ u, mg "LONGEST_NAME" = some u ∧ RelV (.int 8) u
  gMOST_WORDS : ∃ u, mg "MOST_WORDS" = some u ∧ RelV (.int 7) u
  gRESERVED : ∃ a, mg "RESERVED" = some (.ref a) ∧ ∀ H, SqT K H a (resv.map V.str)
  is_row : Df K mg "is_row" f_is_row_s
  is_integer : Df K mg "is_integer" f_is_integer_s
  is_small : Df K mg "is_small" f_is_small_s
  is_name : Df K mg "is_name" f_is_name_s
  is_value : Df K mg "is_value" f_is_value_s
  draw : Df K mg "_law_draw" f_law_draw_s
section
variable {X : Cx} {x : Str} {pos : Pos} {v : V}
theorem pe_g (h : ∃ u, X.mg x = some u ∧ RelV v u) (hg : Gl X x := by rfl) (hd : (x == ("__debug__" : Str)) = false := by decide) : PE X (.Name x pos) (tC v) := by
  obtain ⟨u, h1, h2⟩ := h
  exact pe_glob hg h1 h2 hd
end
section
variable {P : Program} {w : World} {K : PySem.W.Frag} {mg : Str → Option Value} {base : Heap}
/-- what a look at a datum promises -/
def spLook (K : PySem.W.Frag) (f : PyData → V) (C : PyData → Prop) : Sp := fun vs H Q _ => ∃ (v : V) (d : PyData), vs = [v] ∧ Dp K H v d ∧ C d ∧ ∀ H', Same H H' → Q (f d) H'
theorem look_len {f : PyData → V} {C : PyData → Prop} {vs : List V} {H : Hp} {Q : VK} {E : XK} (h : spLook K f C vs H Q E) : vs.length = 1 := by
  obtain ⟨v, d, rfl, _⟩ := h
  rfl
theorem isi_seq {H : Hp} {v : V} {d : PyData} {p : Addr} {Q : VK} (h : Dp K H v d) (hp : H p = none) (q : Q (.bl (isSeq d)) (upd H p (.tup [.ty "tuple", .ty "list"]))) : rIsiT K [v, .ref p] (upd H p (.tup [.ty "tuple", .ty "list"])) Q :=
  ⟨v, p, _, .type (tyN d), [.type "tuple", .type "list"], _, rfl, upd_same, .cons (.ty _) (.cons (.ty _) .nil), (Dp.mono (same_new hp _) h).tyx, kit_seq h.nodict, q⟩
theorem isi_one {H : Hp} {v : V} {d : PyData} {t : String} {Q : VK} (h : Dp K H v d) (ht : t = "int" ∨ t = "bool" ∨ t = "str" ∨ t = "tuple" ∨ t = "list") (q : Q (.bl (isT t d)) H) : rIsi K [v, .ty t] H Q :=
  ⟨v, .ty t, .type (tyN d), .type t, _, rfl, .ty _, h.tyx, kit_one h.nodict t ht, q⟩
theorem cal_is_row (T : Tx K mg) : Cal P w K mg base 1 "is_row" (spLook K (fun d => .bl (isSeq d)) fun _ => True) := by
  refine T.is_row.cal f_is_row_sc (fun _ _ _ _ _ _ us hl => match us, hl with | [_], _ => rfl) (fun vs H Q E h => look_len h) (fun f cdv A outer s H vs Q E hr h => ?_)
  obtain ⟨v, d, rfl, hd, _, q⟩ := h
  refine ⟨_, (pss_one (ps_ret (pe_callB call_isiT rfl T.n_isinstance (by decide +kernel) (pa_cons (pv 0) (pa_cons (pe_tup (pa_cons (pe_bltn (v := .ty "tuple") (u := .type "tuple") rfl T.n_tuple (by decide +kernel) rfl) (pa_cons (pe_bltn (v := .ty "list") (u := .type "list") rfl T.n_list (by decide +kernel) rfl) pa_nil))) pa_nil))))), ?_⟩
  rw [show L2.start f_is_row_N [v] = [some v] from rfl]
  simp only [cxOf, Cx.nox, tSeq, C8.tCut, tAsg, tRet, tRetN, tIfS, tTest, tB, tAnd, tOr, tNot, tAndV, tOrV, tNotV, tIf, tOp, tUn, tCB, tCall, tCons, tNil, tC, tTup, tLst, tChain, tPar, tDrop, tNext, tSl, tPart, tNoPart, tBM, tBM0, tM1, tM0, tAug, ipI, gName, gSub, tVar, wipe, rI0, rI, rU, List.cons_append, List.nil_append, List.append_nil, List.set_cons_zero, List.set_cons_succ, List.getElem?_cons_zero, List.getElem?_cons_succ, Option.some.injEq, V.int.injEq, V.bl.injEq, V.str.injEq, V.ref.injEq, exists_and_left, exists_eq_left, if_true, if_false, Bool.not_true, Bool.not_false, Bool.false_eq_true, List.map_cons, List.map_nil, List.cons.injEq, and_true, true_and, exists_eq_left']
  exact ⟨(by show 2 ≤ sizeLine; decide), fun p hp => isi_seq hd hp (q _ (same_new hp _))⟩
theorem cal_is_integer (T : Tx K mg) : Cal P w K mg base 1 "is_integer" (spLook K (fun d => .bl (tyN d == "int")) fun _ => True) := by
  refine T.is_integer.cal f_is_integer_sc (fun _ _ _ _ _ _ us hl => match us, hl with | [_], _ => rfl) (fun vs H Q E h => look_len h) (fun f cdv A outer s H vs Q E hr h => ?_)
  obtain ⟨v, d, rfl, hd, _, q⟩ := h
  refine ⟨_, (pss_one (ps_ret (pe_and (pe_callB call_isi rfl T.n_isinstance (by decide +kernel) (pa_cons (pv 0) (pa_cons (pe_bltn (v := .ty "int") (u := .type "int") rfl T.n_int (by decide +kernel) rfl) pa_nil))) (pe_one (pe_not (pe_callB call_isi rfl T.n_isinstance (by decide +kernel) (pa_cons (pv 0) (pa_cons (pe_bltn (v := .ty "bool") (u := .type "bool") rfl T.n_bool (by decide +kernel) rfl) pa_nil)))))))), ?_⟩
  rw [show L2.start f_is_integer_N [v] = [some v] from rfl]
  simp only [cxOf, Cx.nox, tSeq, C8.tCut, tAsg, tRet, tRetN, tIfS, tTest, tB, tAnd, tOr, tNot, tAndV, tOrV, tNotV, tIf, tOp, tUn, tCB, tCall, tCons, tNil, tC, tTup, tLst, tChain, tPar, tDrop, tNext, tSl, tPart, tNoPart, tBM, tBM0, tM1, tM0, tAug, ipI, gName, gSub, tVar, wipe, rI0, rI, rU, List.cons_append, List.nil_append, List.append_nil, List.set_cons_zero, List.set_cons_succ, List.getElem?_cons_zero, List.getElem?_cons_succ, Option.some.injEq, V.int.injEq, V.bl.injEq, V.str.injEq, V.ref.injEq, exists_and_left, exists_eq_left, if_true, if_false, Bool.not_true, Bool.not_false, Bool.false_eq_true, List.map_cons, List.map_nil, List.cons.injEq, and_true, true_and, exists_eq_left']
  refine isi_one hd (by simp) ⟨_, rfl, ?_⟩
  have z := q _ (Same.refl H)
  dsimp only at z
  refine ite2 (fun e => ?_) (fun e => ?_)
  · refine isi_one hd (by simp) ⟨_, rfl, ?_⟩
    have : (tyN d == "int") = !isT "bool" d := by
      rcases tyN_of hd.nodict with z | z | z | z | z | z <;> simp [isT, isTn, z] at e ⊢
    rw [← this]
    exact z
  · have : (tyN d == "int") = false := by
      rcases tyN_of hd.nodict with z | z | z | z | z | z <;> simp [isT, isTn, z] at e ⊢
    rw [← this]
    exact z
theorem cal_is_small (T : Tx K mg) : Cal P w K mg base 2 "is_small" (spLook K (fun d => .bl (sml d)) fun _ => True) := by
  refine T.is_small.cal f_is_small_sc (fun _ _ _ _ _ _ us hl => match us, hl with | [_], _ => rfl) (fun vs H Q E h => look_len h) (fun f cdv A outer s H vs Q E hr h => ?_)
  obtain ⟨v, d, rfl, hd, _, q⟩ := h
  refine ⟨_, (pss_one (ps_ret (pe_and (pe_c (cal_is_integer T) hr (by omega) rfl (pa_cons (pv 0) pa_nil)) (pe_one (pe_cmpR op_lt (pe_callB call_abs rfl T.n_abs (by decide +kernel) (pa_cons (pv 0) pa_nil)) (pe_op op_pow pe_int pe_int) (nomark _)))))), ?_⟩
  rw [show L2.start f_is_small_N [v] = [some v] from rfl]
  simp only [cxOf, Cx.nox, tSeq, C8.tCut, tAsg, tRet, tRetN, tIfS, tTest, tB, tAnd, tOr, tNot, tAndV, tOrV, tNotV, tIf, tOp, tUn, tCB, tCall, tCons, tNil, tC, tTup, tLst, tChain, tPar, tDrop, tNext, tSl, tPart, tNoPart, tBM, tBM0, tM1, tM0, tAug, ipI, gName, gSub, tVar, wipe, rI0, rI, rU, List.cons_append, List.nil_append, List.append_nil, List.set_cons_zero, List.set_cons_succ, List.getElem?_cons_zero, List.getElem?_cons_succ, Option.some.injEq, V.int.injEq, V.bl.injEq, V.str.injEq, V.ref.injEq, exists_and_left, exists_eq_left, if_true, if_false, Bool.not_true, Bool.not_false, Bool.false_eq_true, List.map_cons, List.map_nil, List.cons.injEq, and_true, true_and, exists_eq_left']
  refine ⟨v, d, rfl, hd, trivial, fun H' g => ⟨_, rfl, ?_⟩⟩
  have z := q _ g
  dsimp only at z
  refine ite2 (fun e => ?_) (fun e => ?_)
  · cases hd with
    | int i =>
      refine ⟨i, rfl, ⟨by decide, by decide, by decide⟩, ?_⟩
      have : sml (.int i) = decide ((if i < 0 then -i else i) < 10 ^ (30 : Int).toNat) := by
        show decide (i.natAbs < 10 ^ 30) = _
        have e : (10 : Int) ^ (30 : Int).toNat = 1000000000000000000000000000000 := by decide
        have e' : (10 : Nat) ^ 30 = 1000000000000000000000000000000 := by decide
        rw [e, e']
        split <;> (refine decide_eq_decide.mpr ?_; omega)
      rw [← this]
      exact z
    | _ => simp [tyN] at e
  · have : sml d = false := by
      cases d <;> first | rfl | simp [tyN] at e
    rw [← this]
    exact z
theorem cal_is_name (T : Tx K mg) : Cal P w K mg base 1 "is_name" (spLook K (fun d => .bl (isNm d)) fun d => ∃ n, ok n d) := by
  refine T.is_name.cal f_is_name_sc (fun _ _ _ _ _ _ us hl => match us, hl with | [_], _ => rfl) (fun vs H Q E h => look_len h) (fun f cdv A outer s H vs Q E hr h => ?_)
  obtain ⟨v, d, rfl, hd, ⟨n, hn⟩, q⟩ := h
  obtain ⟨a, hR, hS⟩ := T.gRESERVED
  refine ⟨_, (pss_cons (ps_if (PW.pt (pw_or (pt_not (pt_val (pe_callB call_isi rfl T.n_isinstance (by decide +kernel) (pa_cons (pv 0) (pa_cons (pe_bltn (v := .ty "str") (u := .type "str") rfl T.n_str (by decide +kernel) rfl) pa_nil))))) (pw_or (pt_not (pt_chain op_le op_le pe_int (pe_callB call_len_str rfl T.n_len (by decide +kernel) (pa_cons (pv 0) pa_nil)) (pe_g T.gLONGEST_NAME))) (pw_or1 (pt_cmpR op_in_seq (pv 0) (pe_g (v := .ref a) ⟨_, hR, rfl⟩) (by rfl)))))) (pss_one (ps_ret pe_bl)) pss_nil)
      (pss_one (ps_ret (pe_callB (cr_all rfl) rfl T.n_all (by decide +kernel) (pa_cons (pe_lc (own := [("letter", 1)]) (g := gName 1) (tt := tYes) rfl f_is_name_sc.nd (pi_str (pv 0)) (blkOk_by (own := [("letter", 1)]) (N := f_is_name_N) (sc := defScope f_is_name_s) (by decide +kernel)) (fun _ _ _ _ _ => (pg_name (i := 1) f_is_name_sc.nd rfl (Or.inl rfl))) (fun _ _ _ _ _ => pts_nil) (fun _ _ _ _ _ => (pe_cmpR op_in_sign (pv 1) (pe_g T.gLETTERS) (by rfl)))) pa_nil))))), ?_⟩
  rw [show L2.start f_is_name_N [v] = [some v, none] from rfl]
  simp only [cxOf, Cx.nox, tSeq, C8.tCut, tAsg, tRet, tRetN, tIfS, tTest, tB, tAnd, tOr, tNot, tAndV, tOrV, tNotV, tIf, tOp, tUn, tCB, tCall, tCons, tNil, tC, tTup, tLst, tChain, tPar, tDrop, tNext, tSl, tPart, tNoPart, tBM, tBM0, tM1, tM0, tAug, ipI, gName, gSub, tVar, wipe, rI0, rI, rU, List.cons_append, List.nil_append, List.append_nil, List.set_cons_zero, List.set_cons_succ, List.getElem?_cons_zero, List.getElem?_cons_succ, Option.some.injEq, V.int.injEq, V.bl.injEq, V.str.injEq, V.ref.injEq, exists_and_left, exists_eq_left, if_true, if_false, Bool.not_true, Bool.not_false, Bool.false_eq_true, List.map_cons, List.map_nil, List.cons.injEq, and_true, true_and, exists_eq_left']
  have z := q _ (Same.refl H)
  dsimp only at z
  refine isi_one hd (by simp) ⟨_, rfl, ?_⟩
  refine ite2 (fun e => ?_) (fun e => ?_)
  · have : isNm d = false := by
      cases d <;> first | rfl | simp [isT, isTn, tyN] at e
    rw [this] at z
    exact z
  · cases hd with
    | str x =>
      have hx : x.length ≤ 9 := by cases n <;> exact hn.1
      refine ⟨x, rfl, small (by omega), ?_⟩
      refine ite2 (fun h1 => ?_) (fun h1 => ?_)
      · have h1' : (1 : Int) ≤ x.length := of_decide_eq_true h1
        refine ite2 (fun h2 => ?_) (fun h2 => ?_)
        · have h2' : ¬ (x.length : Int) ≤ 8 := by simpa using h2
          have : isNm (.str x) = false := by
            show nm x = false
            unfold nm
            rw [decide_eq_false (p := x.length ≤ 8) (by omega), Bool.and_false, Bool.false_and, Bool.false_and]
          rw [this] at z
          exact z
        · have h2' : (x.length : Int) ≤ 8 := by simpa using h2
          have hz : isNm (.str x) = (!resv.contains x && x.cps.toList.all fun c => decide (c ∈ letters.cps.toList)) := by
            show nm x = _
            unfold nm
            rw [decide_eq_true (p := x.length ≤ 8) (by omega), decide_eq_true (p := 1 ≤ x.length) (by omega), Bool.true_and, Bool.true_and]
          rw [hz] at z
          refine ⟨a, _, rfl, .inr (hS _), rfl, flat_strs _, ?_⟩
          refine ⟨_, rfl, ite2 (fun h3 => ?_) (fun h3 => ?_)⟩
          · rw [if_neg Bool.false_ne_true, inV_str] at h3
            rw [h3] at z
            exact z
          · rw [if_neg Bool.false_ne_true, inV_str] at h3
            rw [Bool.eq_false_iff.mpr h3, Bool.not_false, Bool.true_and] at z
            unfold tLc
            refine ⟨_, rfl, x, rfl, fun D nD => lc_pure (walk_str (z := x)) nD (show x.cps.size ≤ 1000000 from (by have : x.cps.size = x.length := rfl; omega)) (fun i v => ∃ c, x.cps[i]? = some c ∧ v = .bl (decide (c ∈ letters.cps.toList))) (fun _ _ => trivial) (fun _ _ _ _ y => y.1) ?_ ?_⟩
            · rintro i y H2 Q2 hi g2 ⟨_, c, hc, rfl⟩ k
              simp only [cxOf, Cx.nox, tSeq, C8.tCut, tAsg, tRet, tRetN, tIfS, tTest, tB, tAnd, tOr, tNot, tAndV, tOrV, tNotV, tIf, tOp, tUn, tCB, tCall, tCons, tNil, tC, tTup, tLst, tChain, tPar, tDrop, tNext, tSl, tPart, tNoPart, tBM, tBM0, tM1, tM0, tAug, ipI, gName, gSub, tVar, wipe, rI0, rI, rU, List.cons_append, List.nil_append, List.append_nil, List.set_cons_zero, List.set_cons_succ, List.getElem?_cons_zero, List.getElem?_cons_succ, Option.some.injEq, V.int.injEq, V.bl.injEq, V.str.injEq, V.ref.injEq, exists_and_left, exists_eq_left, if_true, if_false, Bool.not_true, Bool.not_false, Bool.false_eq_true, List.map_cons, List.map_nil, List.cons.injEq, and_true, true_and, exists_eq_left']
              exact ⟨c, rfl, k _ _ ⟨c, hc, rfl⟩ (Same.refl _)⟩
            · intro H2 ys g2 hl hR hD
              have hys : ys = (x.cps.toList.map fun c => decide (c ∈ letters.cps.toList)).map V.bl := by
                apply List.ext_getElem?
                intro i
                cases hi : ys[i]? with
                | none =>
                  have h1 : ys.length ≤ i := List.getElem?_eq_none_iff.mp hi
                  rw [List.getElem?_eq_none]
                  simp
                  omega
                | some y =>
                  obtain ⟨c, hc, rfl⟩ := hR i y hi
                  have hc' : x.cps.toList[i]? = some c := by simpa using hc
                  rw [List.getElem?_map, List.getElem?_map, hc']
                  rfl
              refine ⟨D, _, rfl, SqL.of (hys ▸ hD), ?_⟩
              have z2 := q _ g2
              dsimp only at z2
              rw [hz, Bool.eq_false_iff.mpr h3, Bool.not_false, Bool.true_and] at z2
              have : (x.cps.toList.map fun c => decide (c ∈ letters.cps.toList)).all id = x.cps.toList.all fun c => decide (c ∈ letters.cps.toList) := by
                rw [List.all_map]
                rfl
              rw [this]
              exact z2
      · have h1' : ¬ (1 : Int) ≤ x.length := fun h => h1 (decide_eq_true h)
        have : isNm (.str x) = false := by
          show nm x = false
          unfold nm
          rw [decide_eq_false (p := 1 ≤ x.length) (by omega), Bool.false_and, Bool.false_and, Bool.false_and]
        rw [this] at z
        exact z
    | _ => simp [isT, isTn, tyN] at e
def isV1 (f : PyData → Bool) : PyData → Bool
  | .list ds => rowV f ds
  | .tuple ds => rowV f ds
  | d => sml d
def kids (C : PyData → Prop) : PyData → Prop
  | .list ds => ∀ e ∈ ds, C e
  | .tuple ds => ∀ e ∈ ds, C e
  | _ => True
abbrev restOf (K : PySem.W.Frag) (ti : TE) : TE := tSl (fun x lo hi H Q => rSlL K x lo hi H Q ∨ rSlA K x lo hi H Q) (tVar 0) (tPart ti) tNoPart
theorem all_rest {f0 : PyData → Bool} {C : PyData → Prop} {σ : L2.St} {H : Hp} {a : Addr} {xs : List V} {ds : List PyData} {k j : Nat} {Q : VK} {ti : TE} (hti : ∀ H Q, Q (.int k) H → ti σ H Q) (h0 : σ[0]? = some (some (.ref a))) (hj : j < σ.length) (hq : Sq K H a xs) (hd : DpAll K H xs ds) (hx : xs ≠ []) (hk : 0 < k) (hl : ds.length ≤ 9)
    (hC : ∀ e ∈ ds.drop k, C e) (q : ∀ H', Same H H' → Q (.bl ((ds.drop k).all f0)) H') :
    tLc (fun σ H R => iList K (restOf K ti) σ H R ∨ iTup K (restOf K ti) σ H R) (gName j) tYes (tCall (spLook K (fun d => .bl (f0 d)) C) [] E0 (tCons (tVar j) tNil)) [j] σ H (fun x H1 => rAll K [x] H1 Q) := by
  have hd' := dpa_drop k hd
  have hl' := dpa_len hd'
  refine tLc_row (K := K) (zs := xs.drop k) (fun R r1 r2 => ?_) (by rw [hl', List.length_drop]; omega) (fun i y => ∃ d, (ds.drop k)[i]? = some d ∧ y = .bl (f0 d)) (fun i x H1 Q1 hi g k1 => ?_) (fun D H1 ys g hly hR hD => ?_)
  · rcases hq with h | h
    · exact .inl ⟨_, h0, hti _ _ ⟨_, rfl, slice_L h fun p H1 g z => ⟨p, rfl, ⟨_, z⟩, r1 p H1 g z⟩⟩⟩
    · exact .inr ⟨_, h0, hti _ _ ⟨_, rfl, slice_T h hx hk fun p H1 g z => ⟨p, rfl, ⟨_, z⟩, r2 p H1 g z⟩⟩⟩
  · obtain ⟨d, h1, h2⟩ := dpa_get hd' hi
    refine ⟨x, ?_, x, d, rfl, h2.mono g, hC d (List.mem_of_getElem? h1), fun H2 g2 => k1 _ _ ⟨d, h1, rfl⟩ g2⟩
    rw [List.getElem?_set_self]
    rw [wipe_length]
    exact hj
  · have := ys_map (g := fun d => V.bl (f0 d)) (hly.trans hl') hR
    refine ⟨D, (ds.drop k).map f0, rfl, SqL.of ?_, ?_⟩
    · rw [List.map_map, hD, this]
      rfl
    · rw [List.all_map]
      exact q _ g
theorem isv_step {k : Nat} {f0 : PyData → Bool} {C : PyData → Prop} (T : Tx K mg) (rec : Cal P w K mg base k "is_value" (spLook K (fun d => .bl (f0 d)) C)) (hk : 2 ≤ k) :
    Cal P w K mg base (k + 1) "is_value" (spLook K (fun d => .bl (isV1 f0 d)) fun d => ok 60 d ∧ kids C d) := by
  refine T.is_value.cal f_is_value_sc (fun _ _ _ _ _ _ us hl => match us, hl with | [_], _ => rfl) (fun vs H Q E h => look_len h) (fun f cdv A outer s H vs Q E hr h => ?_)
  obtain ⟨v, d, rfl, hd, ⟨hok, hkids⟩, q⟩ := h
  refine ⟨_, (pss_cons (ps_if (pt_not (pt_val (pe_c (cal_is_row T) hr (by omega) rfl (pa_cons (pv 0) pa_nil)))) (pss_one (ps_ret (pe_c (cal_is_small T) hr (by omega) rfl (pa_cons (pv 0) pa_nil)))) pss_nil)
      (pss_cons (ps_if (PW.pt (pw_or (pt_cmpR op_eq (pe_callB call_len rfl T.n_len (by decide +kernel) (pa_cons (pv 0) pa_nil)) pe_int (nomark _)) (pw_or1 (pt_cmpR op_gt (pe_callB call_len rfl T.n_len (by decide +kernel) (pa_cons (pv 0) pa_nil)) (pe_g T.gMOST_WORDS) (nomark _))))) (pss_one (ps_ret pe_bl)) pss_nil)
      (pss_cons (ps_if (pt_cmpR (op_eqD hr.units) (pe_ix ix_seq (pv 0) pe_int (fun _ _ => rfl)) pe_str (nomark _)) (pss_one (ps_ret (pe_and (pe_cmpR op_gt (pe_callB call_len rfl T.n_len (by decide +kernel) (pa_cons (pv 0) pa_nil)) pe_int (nomark _)) (pe_and (pe_c (cal_is_name T) hr (by omega) rfl (pa_cons (pe_ix ix_seq (pv 0) pe_int (fun _ _ => rfl)) pa_nil)) (pe_one (pe_callB (cr_all rfl) rfl T.n_all (by decide +kernel) (pa_cons (pe_lc (own := [("part", 1)]) (g := gName 1) (tt := tYes) rfl f_is_value_sc.nd (pi_seq (pe_slice (sl_list.or sl_tupA) (pv 0) (po_some pe_int) po_none)) (blkOk_by (own := [("part", 1)]) (N := f_is_value_N) (sc := defScope f_is_value_s) (by decide +kernel)) (fun _ _ _ _ _ => (pg_name (i := 1) f_is_value_sc.nd rfl (Or.inl rfl))) (fun _ _ _ _ _ => pts_nil) (fun _ _ _ _ _ => (pe_c rec hr (by omega) rfl (pa_cons (pv 1) pa_nil)))) pa_nil))))))) pss_nil)
      (pss_one (ps_ret (pe_and (pe_c (cal_is_name T) hr (by omega) rfl (pa_cons (pe_ix ix_seq (pv 0) pe_int (fun _ _ => rfl)) pa_nil)) (pe_one (pe_callB (cr_all rfl) rfl T.n_all (by decide +kernel) (pa_cons (pe_lc (own := [("part", 1)]) (g := gName 1) (tt := tYes) rfl f_is_value_sc.nd (pi_seq (pe_slice (sl_list.or sl_tupA) (pv 0) (po_some pe_int) po_none)) (blkOk_by (own := [("part", 1)]) (N := f_is_value_N) (sc := defScope f_is_value_s) (by decide +kernel)) (fun _ _ _ _ _ => (pg_name (i := 1) f_is_value_sc.nd rfl (Or.inl rfl))) (fun _ _ _ _ _ => pts_nil) (fun _ _ _ _ _ => (pe_c rec hr (by omega) rfl (pa_cons (pv 1) pa_nil)))) pa_nil))))))))), ?_⟩
  rw [show L2.start f_is_value_N [v] = [some v, none] from rfl]
  simp only [cxOf, Cx.nox, tSeq, C8.tCut, tAsg, tRet, tRetN, tIfS, tTest, tB, tAnd, tOr, tNot, tAndV, tOrV, tNotV, tIf, tOp, tUn, tCB, tCall, tCons, tNil, tC, tTup, tLst, tChain, tPar, tDrop, tNext, tSl, tPart, tNoPart, tBM, tBM0, tM1, tM0, tAug, ipI, gName, gSub, tVar, wipe, rI0, rI, rU, List.cons_append, List.nil_append, List.append_nil, List.set_cons_zero, List.set_cons_succ, List.getElem?_cons_zero, List.getElem?_cons_succ, Option.some.injEq, V.int.injEq, V.bl.injEq, V.str.injEq, V.ref.injEq, exists_and_left, exists_eq_left, if_true, if_false, Bool.not_true, Bool.not_false, Bool.false_eq_true, List.map_cons, List.map_nil, List.cons.injEq, and_true, true_and, exists_eq_left']
  refine ⟨v, d, rfl, hd, trivial, fun H1 g1 => ⟨_, rfl, ?_⟩⟩
  refine ite2 (fun e => ?_) (fun e => ?_)
  · refine ⟨v, d, rfl, hd.mono g1, trivial, fun H2 g2 => ?_⟩
    have z := q _ (g1.trans g2)
    have : isV1 f0 d = sml d := by cases d <;> first | rfl | simp [isSeq] at e
    dsimp only at z
    rw [this] at z
    exact z
  · have e' : isSeq d = true := by simpa using e
    obtain ⟨a, xs, ds, rfl, hq, ha, hd2⟩ := dp_seq hd e'
    have hl := dpa_len ha
    have hk2 : ds.length ≤ 9 ∧ (∀ e ∈ ds, ok 59 e) ∧ ∀ e ∈ ds, C e := by
      rcases hd2 with rfl | rfl <;> exact ⟨hok.1, hok.2, hkids⟩
    have hv : isV1 f0 d = rowV f0 ds := by rcases hd2 with rfl | rfl <;> rfl
    have q' : ∀ H', Same H H' → Q (.bl (rowV f0 ds)) H' := fun H' g => by
      have z := q _ g
      dsimp only at z
      rw [hv] at z
      exact z
    refine ⟨xs.length, len_data (hq.mono g1), rfl, _, rfl, ite2 (fun h0 => ?_) (fun h0 => ?_)⟩
    · have h0' : xs.length = 0 := by
        have := of_decide_eq_true h0
        simp at this
        simp [this]
      have : ds = [] := List.length_eq_zero_iff.mp (by omega)
      subst this
      exact q' _ g1
    · have h0' : xs ≠ [] := fun z => by subst z; exact h0 (by decide)
      refine ⟨xs.length, len_data (hq.mono g1), ite2 (fun h7 => ?_) (fun h7 => ?_)⟩
      · have h7' : (7 : Int) < xs.length := of_decide_eq_true h7
        have : rowV f0 ds = false := by
          cases ds with
          | nil => rfl
          | cons d r =>
            show (decide (r.length ≤ 6) && _) = false
            rw [decide_eq_false (by simp at hl; omega), Bool.false_and]
        rw [← this]
        exact q' _ g1
      · have h7' : ¬ (7 : Int) < xs.length := fun z => h7 (decide_eq_true z)
        obtain ⟨x0, xr, rfl⟩ : ∃ x0 xr, xs = x0 :: xr := by
          cases xs with
          | nil => exact absurd rfl h0'
          | cons x r => exact ⟨x, r, rfl⟩
        cases ha with
        | @cons _ _ d0 dr hd0 hdr =>
        have hl' : xr.length = dr.length := dpa_len hdr
        have hrow : rowV f0 (d0 :: dr) = if isClose d0 = true then closeV f0 dr else isNm d0 && dr.all f0 := by
          show (decide (dr.length ≤ 6) && _) = _
          rw [decide_eq_true (by simp at h7'; omega), Bool.true_and]
        refine ix_data (hq.mono g1) (atI_nat (j := 0) rfl) ?_
        have ok0 := hk2.2.1 d0 (List.mem_cons_self ..)
        refine eq_close (hd0.mono g1) ok0 (by decide) ⟨by decide +kernel, by decide +kernel⟩ ⟨_, rfl, ite2 (fun (hc : isClose d0 = true) => ?_) (fun (hc : ¬ isClose d0 = true) => ?_)⟩
        · refine ⟨_, len_data (hq.mono g1), ite2 (fun h1 => ?_) (fun h1 => ?_)⟩
          · have h1' : (1 : Int) < (x0 :: xr).length := of_decide_eq_true h1
            obtain ⟨x1, xs1, rfl⟩ : ∃ x1 xs1, xr = x1 :: xs1 := by
              cases xr with
              | nil => simp at h1'
              | cons x r => exact ⟨x, r, rfl⟩
            cases hdr with
            | @cons _ _ d1 dr1 hd1 hdr1 =>
            refine ix_data (hq.mono g1) (atI_nat (j := 1) rfl) ?_
            refine ⟨x1, d1, rfl, hd1.mono g1, ⟨59, hk2.2.1 d1 (by simp)⟩, fun H2 g2 => ⟨_, rfl, ite2 (fun hn => ?_) (fun hn => ?_)⟩⟩
            · refine all_rest (ds := d0 :: d1 :: dr1) (k := 2) (fun _ _ h => h) rfl (by simp) ((hq.mono g1).mono g2) ((DpAll.cons hd0 (.cons hd1 hdr1)).mono (g1.trans g2)) h0' (by decide) hk2.1 (fun e he => hk2.2.2 e (List.mem_of_mem_drop he)) fun H3 g3 => ?_
              have z := q' _ ((g1.trans g2).trans g3)
              rw [hrow, if_pos hc] at z
              have : closeV f0 (d1 :: dr1) = dr1.all f0 := by
                show (isNm d1 && _) = _
                rw [hn, Bool.true_and]
              rw [this] at z
              exact z
            · have : rowV f0 (d0 :: d1 :: dr1) = false := by
                rw [hrow, if_pos hc]
                show (isNm d1 && _) = false
                rw [Bool.eq_false_iff.mpr hn, Bool.false_and]
              rw [← this]
              exact q' _ (g1.trans g2)
          · have h1' : ¬ (1 : Int) < (x0 :: xr).length := fun z => h1 (decide_eq_true z)
            have : dr = [] := List.length_eq_zero_iff.mp (by simp at h1'; omega)
            subst this
            have z := q' _ g1
            rw [hrow, if_pos hc] at z
            exact z
        · refine ix_data (hq.mono g1) (atI_nat (j := 0) rfl) ?_
          refine ⟨x0, d0, rfl, hd0.mono g1, ⟨59, ok0⟩, fun H2 g2 => ⟨_, rfl, ite2 (fun hn => ?_) (fun hn => ?_)⟩⟩
          · refine all_rest (ds := d0 :: dr) (k := 1) (fun _ _ h => h) rfl (by simp) ((hq.mono g1).mono g2) ((DpAll.cons hd0 hdr).mono (g1.trans g2)) h0' (by decide) hk2.1 (fun e he => hk2.2.2 e (List.mem_of_mem_drop he)) fun H3 g3 => ?_
            have z := q' _ ((g1.trans g2).trans g3)
            rw [hrow, if_neg hc, hn, Bool.true_and] at z
            exact z
          · have z := q' _ (g1.trans g2)
            rw [hrow, if_neg hc, Bool.eq_false_iff.mpr hn, Bool.false_and] at z
            exact z
theorem is_value_b (T : Tx K mg) : ∀ (kV doc pm : Value) (an : Option Addr) (cdv ct : Value) (us : List Value), us.length = f_is_value_P.length → bindArgs (PySem.W.fnOf "is_value" "is_value" (defArgs f_is_value_s) (defBody f_is_value_s) (defScope f_is_value_s) .none kV doc pm an cdv ct) ⟨us, []⟩ = pure (f_is_value_P.zip us) :=
  fun _ _ _ _ _ _ us hl => match us, hl with | [_], _ => rfl
theorem isV_eq (n : Nat) (d : PyData) (h : ok n d) : isV n d = (match n with | 0 => isV1 (fun _ => false) d | m + 1 => isV1 (isV m) d) := by
  cases n with
  | zero => cases d <;> first | rfl | exact h.elim
  | succ n => cases d <;> rfl
theorem cal_is_value (T : Tx K mg) : ∀ n, n ≤ 60 → Cal P w K mg base (n + 3) "is_value" (spLook K (fun d => .bl (isV n d)) (ok n))
  | 0, _ => by
    have rc : Cal P w K mg base 2 "is_value" (spLook K (fun d => .bl ((fun _ => false) d)) fun _ => False) := T.is_value.zero (is_value_b T) fun vs H Q E h => by
      obtain ⟨_, _, _, _, h, _⟩ := h
      exact h
    refine (isv_step T rc (by decide)).imp fun vs H Q E h => ?_
    obtain ⟨v, d, rfl, hd, ho, q⟩ := h
    refine ⟨v, d, rfl, hd, ⟨ok_le (by decide) ho, ?_⟩, fun H' g => ?_⟩
    · cases d <;> first | trivial | exact ho.elim
    · have z := q H' g
      dsimp only at z
      rw [isV_eq 0 d ho] at z
      exact z
  | n + 1, hn => by
    refine (isv_step T (cal_is_value T n (by omega)) (by omega)).imp fun vs H Q E h => ?_
    obtain ⟨v, d, rfl, hd, ho, q⟩ := h
    refine ⟨v, d, rfl, hd, ⟨ok_le hn ho, ?_⟩, fun H' g => ?_⟩
    · cases d <;> first | trivial | exact ho.2
    · have z := q H' g
      dsimp only at z
      rw [isV_eq (n + 1) d ho] at z
      exact z
end
end Rm

set_option Elab.async false
set_option linter.all false
set_option maxRecDepth 100000
set_option maxHeartbeats 4000000
namespace Rm
open PySem PySem.Spec PyProof.Rows L2
abbrev f_law_start_s : Stmt := topS 13
abbrev f_law_start_N : List Str := ["_law_script"]
abbrev f_law_start_P : List Str := ["_law_script"]
theorem f_law_start_sc : FnScope f_law_start_N f_law_start_P (defScope f_law_start_s) := ⟨rfl, rfl, rfl, by decide +kernel, rfl, by decide +kernel, by decide +kernel⟩
abbrev f_law_pick_s : Stmt := topS 14
abbrev f_law_pick_N : List Str := ["_law_stream", "_law_some"]
abbrev f_law_pick_P : List Str := ["_law_stream", "_law_some"]
theorem f_law_pick_sc : FnScope f_law_pick_N f_law_pick_P (defScope f_law_pick_s) := ⟨rfl, rfl, rfl, by decide +kernel, rfl, by decide +kernel, by decide +kernel⟩
abbrev f_law_reserved_s : Stmt := topS 15
abbrev f_law_reserved_N : List Str := ["_law_some"]
abbrev f_law_reserved_P : List Str := []
theorem f_law_reserved_sc : FnScope f_law_reserved_N f_law_reserved_P (defScope f_law_reserved_s) := ⟨rfl, rfl, rfl, by decide +kernel, rfl, by decide +kernel, by decide +kernel⟩
abbrev f_law_is_name_s : Stmt := topS 16
abbrev f_law_is_name_N : List Str := ["_law_thing_here", "_law_letter"]
abbrev f_law_is_name_P : List Str := ["_law_thing_here"]
theorem f_law_is_name_sc : FnScope f_law_is_name_N f_law_is_name_P (defScope f_law_is_name_s) := ⟨rfl, rfl, rfl, by decide +kernel, rfl, by decide +kernel, by decide +kernel⟩
abbrev f_law_number_s : Stmt := topS 18
abbrev f_law_number_N : List Str := ["_law_stream", "_law_way"]
abbrev f_law_number_P : List Str := ["_law_stream"]
theorem f_law_number_sc : FnScope f_law_number_N f_law_number_P (defScope f_law_number_s) := ⟨rfl, rfl, rfl, by decide +kernel, rfl, by decide +kernel, by decide +kernel⟩

structure Ty (K : PySem.W.Frag) (mg : Str → Option Value) : Prop extends Tx K mg where
  lstart : Df K mg "_law_start" f_law_start_s
  pick : Df K mg "_law_pick" f_law_pick_s
  reserved : Df K mg "_law_reserved" f_law_reserved_s
  lis_name : Df K mg "_law_is_name" f_law_is_name_s
  number : Df K mg "_law_number" f_law_number_s
section
variable {P : Program} {w : World} {K : PySem.W.Frag} {mg : Str → Option Value} {base : Heap}
theorem cal_draw (T : Ty K mg) : Cal P w K mg base 1 "_law_draw" spDraw := cal_law_draw T.draw
def spStart (K : PySem.W.Frag) : Sp := fun vs H Q _ => ∃ (a : Addr) (ns : List Int), vs = [.ref a] ∧ SqL K H a (ns.map V.int) ∧ ns.length ≤ 63 ∧ ∀ st sl H', Same H H' → Sk st sl 0 H' → Q (.ref st) H'
theorem cal_law_start (T : Ty K mg) : Cal P w K mg base 1 "_law_start" (spStart K) := by
  refine T.lstart.cal f_law_start_sc (fun _ _ _ _ _ _ us hl => match us, hl with | [_], _ => rfl) (fun vs H Q E h => ?_) (fun f cdv A outer s H vs Q E hr h => ?_)
  · obtain ⟨a, ns, rfl, _⟩ := h
    rfl
  obtain ⟨a, ns, rfl, hS, hl, q⟩ := h
  refine ⟨_, (pss_one (ps_ret (pe_lst (pa_cons (pe_callTy call_list_of rfl T.n_list (by decide +kernel) (pa_cons (pv 0) pa_nil)) (pa_cons pe_int (pa_cons pe_int (pa_cons pe_int pa_nil))))))), ?_⟩
  rw [show L2.start f_law_start_N [.ref a] = [some (.ref a)] from rfl]
  simp only [cxOf, Cx.nox, tSeq, C8.tCut, tAsg, tRet, tRetN, tIfS, tTest, tB, tAnd, tOr, tNot, tAndV, tOrV, tNotV, tIf, tOp, tUn, tCB, tCall, tCons, tNil, tC, tTup, tLst, tChain, tPar, tDrop, tNext, tSl, tPart, tNoPart, tBM, tBM0, tM1, tM0, tAug, ipI, gName, gSub, tVar, wipe, rI0, rI, rU, List.cons_append, List.nil_append, List.append_nil, List.set_cons_zero, List.set_cons_succ, List.getElem?_cons_zero, List.getElem?_cons_succ, Option.some.injEq, V.int.injEq, V.bl.injEq, V.str.injEq, V.ref.injEq, exists_and_left, exists_eq_left, if_true, if_false, Bool.not_true, Bool.not_false, Bool.false_eq_true, List.map_cons, List.map_nil, List.cons.injEq, and_true, true_and, exists_eq_left']
  refine ⟨_, .inl hS, fun p hp => ⟨by show 4 ≤ sizeLine; decide, fun t ht => ?_⟩⟩
  have ne : p ≠ t := fun e => by
    rw [← e, upd_same] at ht
    cases ht
  refine q t p _ ((same_new hp _).trans (same_new ht _)) ⟨ne.symm, 0, 0, ns, upd_same, ?_, Int.le_refl _, Int.le_refl _, by decide, hl⟩
  rw [upd_ne ne]
  exact upd_same
/-- what is picked from: a row outside of the spring, or a text -/
def Items (K : PySem.W.Frag) (H : Hp) (v : V) (xs : List V) : Prop := (∃ a, v = .ref a ∧ Sq K H a xs) ∨ ∃ z, v = .str z ∧ z.length ≤ 1000 ∧ xs = z.cps.toList.map fun c => V.str ⟨#[c]⟩
theorem Items.mono {H H' : Hp} {v : V} {xs : List V} (g : Same H H') (h : Items K H v xs) : Items K H' v xs := h.imp (fun ⟨a, e, q⟩ => ⟨a, e, q.mono g⟩) id
theorem Items.len {H : Hp} {v : V} {xs : List V} (h : Items K H v xs) : LenV K v H xs.length := by
  rcases h with ⟨a, rfl, q⟩ | ⟨z, rfl, hz, rfl⟩
  · exact len_data q
  · exact ⟨small hz, by rw [List.length_map]; simp [Str.length]⟩
theorem Items.ix {H : Hp} {v x : V} {xs : List V} {i : Int} {Q : VK} (h : Items K H v xs) (e : atI xs i = some x) (q : Q x H) : rIx K v (.int i) H Q := by
  rcases h with ⟨a, rfl, h⟩ | ⟨z, rfl, hz, rfl⟩
  · exact ix_data h e q
  · unfold atI at e
    rw [List.length_map] at e
    cases e1 : ixN z.cps.toList.length i with
    | none => rw [e1] at e; cases e
    | some j =>
      rw [e1] at e
      have e' : (z.cps.toList.map fun c => V.str ⟨#[c]⟩)[j]? = some x := e
      rw [List.getElem?_map] at e'
      cases e2 : z.cps.toList[j]? with
      | none => rw [e2] at e'; cases e'
      | some c =>
        rw [e2] at e'
        have e3 : V.str ⟨#[c]⟩ = x := Option.some.inj e'
        refine .inr (.inr ⟨z, i, c, rfl, rfl, small hz, ?_, e3 ▸ q⟩)
        unfold atI
        rw [e1]
        exact e2
theorem atI_of {α : Type} {xs : List α} {i : Int} (h0 : 0 ≤ i) (h1 : i < xs.length) : ∃ x, atI xs i = some x ∧ xs[i.toNat]? = some x := by
  have hk : i.toNat < xs.length := by omega
  have e : i = (i.toNat : Int) := by omega
  refine ⟨xs[i.toNat], ?_, List.getElem?_eq_getElem hk⟩
  have h := atI_nat (List.getElem?_eq_getElem hk)
  rw [← e] at h
  exact h
def spPick (K : PySem.W.Frag) : Sp := fun vs H Q _ => ∃ (st sl : Addr) (c : Nat) (v : V) (xs : List V), vs = [.ref st, v] ∧ Sk st sl c H ∧ c < 1000000 ∧ Items K (hid [st, sl] H) v xs ∧ xs ≠ [] ∧ xs.length ≤ 1000 ∧
  ∀ (i : Nat) (x : V) (H' : Hp), xs[i]? = some x → Sk st sl (c + 1) H' → Keep st sl H H' → Q x H'
theorem cal_law_pick (T : Ty K mg) : Cal P w K mg base 2 "_law_pick" (spPick K) := by
  refine T.pick.cal f_law_pick_sc (fun _ _ _ _ _ _ us hl => match us, hl with | [_, _], _ => rfl) (fun vs H Q E h => ?_) (fun f cdv A outer s H vs Q E hr h => ?_)
  · obtain ⟨st, sl, c, v, xs, rfl, _⟩ := h
    rfl
  obtain ⟨st, sl, c, v, xs, rfl, hk, hc, hi, hx, hl, q⟩ := h
  refine ⟨_, (pss_one (ps_ret (pe_ix ix_seq (pv 1) (pe_c (cal_draw T) hr (by omega) rfl (pa_cons (pv 0) (pa_cons (pe_callB call_len rfl T.n_len (by decide +kernel) (pa_cons (pv 1) pa_nil)) pa_nil))) (fun _ _ => rfl)))), ?_⟩
  rw [show L2.start f_law_pick_N [.ref st, v] = [some (.ref st), some v] from rfl]
  simp only [cxOf, Cx.nox, tSeq, C8.tCut, tAsg, tRet, tRetN, tIfS, tTest, tB, tAnd, tOr, tNot, tAndV, tOrV, tNotV, tIf, tOp, tUn, tCB, tCall, tCons, tNil, tC, tTup, tLst, tChain, tPar, tDrop, tNext, tSl, tPart, tNoPart, tBM, tBM0, tM1, tM0, tAug, ipI, gName, gSub, tVar, wipe, rI0, rI, rU, List.cons_append, List.nil_append, List.append_nil, List.set_cons_zero, List.set_cons_succ, List.getElem?_cons_zero, List.getElem?_cons_succ, Option.some.injEq, V.int.injEq, V.bl.injEq, V.str.injEq, V.ref.injEq, exists_and_left, exists_eq_left, if_true, if_false, Bool.not_true, Bool.not_false, Bool.false_eq_true, List.map_cons, List.map_nil, List.cons.injEq, and_true, true_and, exists_eq_left']
  have hl0 : 0 < xs.length := List.length_pos_iff.mpr hx
  refine ⟨xs.length, (hi.mono (hid_same _ _)).len, st, sl, c, xs.length, rfl, hk, hc, by omega, by omega, fun r H' r0 r1 hk' kp => ?_⟩
  obtain ⟨x, e1, e2⟩ := atI_of r0 r1
  exact ((hi.mono (kp.hid (by simp) (by simp))).mono (hid_same _ _)).ix e1 (q _ x H' e2 hk' kp)
def spReserved : Sp := fun vs H Q _ => vs = [] ∧ ∀ p H', Same H H' → H p = none → H' p = some (.lst (resv.map V.str)) → Q (.ref p) H'
theorem cal_law_reserved (T : Ty K mg) : Cal P w K mg base 1 "_law_reserved" spReserved := by
  refine T.reserved.cal f_law_reserved_sc (fun _ _ _ _ _ _ us hl => match us, hl with | [], _ => rfl) (fun vs H Q E h => ?_) (fun f cdv A outer s H vs Q E hr h => ?_)
  · obtain ⟨rfl, _⟩ := h
    rfl
  obtain ⟨rfl, q⟩ := h
  refine ⟨_, (pss_cons (ps_set (i := 0) f_law_reserved_sc.nd rfl (Or.inl rfl) (pe_lst (pa_cons pe_str (pa_cons pe_str (pa_cons pe_str (pa_cons pe_str (pa_cons pe_str (pa_cons pe_str (pa_cons pe_str (pa_cons pe_str (pa_cons pe_str (pa_cons pe_str (pa_cons pe_str (pa_cons pe_str (pa_cons pe_str pa_nil)))))))))))))))
      (pss_one (ps_ret (pe_op op_cat (pv 0) (pe_lst (pa_cons pe_str (pa_cons pe_str (pa_cons pe_str (pa_cons pe_str (pa_cons pe_str pa_nil)))))))))), ?_⟩
  rw [show L2.start f_law_reserved_N [] = [none] from rfl]
  simp only [cxOf, Cx.nox, tSeq, C8.tCut, tAsg, tRet, tRetN, tIfS, tTest, tB, tAnd, tOr, tNot, tAndV, tOrV, tNotV, tIf, tOp, tUn, tCB, tCall, tCons, tNil, tC, tTup, tLst, tChain, tPar, tDrop, tNext, tSl, tPart, tNoPart, tBM, tBM0, tM1, tM0, tAug, ipI, gName, gSub, tVar, wipe, rI0, rI, rU, List.cons_append, List.nil_append, List.append_nil, List.set_cons_zero, List.set_cons_succ, List.getElem?_cons_zero, List.getElem?_cons_succ, Option.some.injEq, V.int.injEq, V.bl.injEq, V.str.injEq, V.ref.injEq, exists_and_left, exists_eq_left, if_true, if_false, Bool.not_true, Bool.not_false, Bool.false_eq_true, List.map_cons, List.map_nil, List.cons.injEq, and_true, true_and, exists_eq_left']
  refine ⟨by show 13 ≤ sizeLine; decide, fun p hp => ⟨by show 5 ≤ sizeLine; decide, fun p2 hp2 => ?_⟩⟩
  refine ⟨p, p2, _, _, rfl, rfl, same_new hp2 _ _ _ upd_same, upd_same, by show 18 ≤ sizeLine; decide, fun p3 hp3 => ?_⟩
  exact q p3 _ (((same_new hp _).trans (same_new hp2 _)).trans (same_new hp3 _)) (((same_new hp _).trans (same_new hp2 _)).free hp3) upd_same
end
end Rm

set_option Elab.async false
set_option linter.all false
set_option maxRecDepth 100000
set_option maxHeartbeats 4000000
namespace Rm
open PySem PySem.Spec PyProof.Rows L2
section
variable {P : Program} {w : World} {K : PySem.W.Frag} {mg : Str → Option Value} {base : Heap}
theorem all_letters {wi : TI} {te : TE} {j : Nat} {σ : L2.St} {H : Hp} {Q : VK} {x : Str} (hx : x.length ≤ 1000) (hw : ∀ R : It → Hp → Prop, R (Its x) H → wi σ H R)
    (he : ∀ c H1 Q, Q (.bl (decide (c ∈ letters.cps.toList))) H1 → te ((wipe σ [j]).set j (some (.str ⟨#[c]⟩))) H1 Q)
    (q : ∀ H', Same H H' → Q (.bl (x.cps.toList.all fun c => decide (c ∈ letters.cps.toList))) H') : tLc wi (gName j) tYes te [j] σ H (fun y H1 => rAll K [y] H1 Q) := by
  refine tLc_str hw (by omega) (fun i v => ∃ c, x.cps.toList[i]? = some c ∧ v = .bl (decide (c ∈ letters.cps.toList))) (fun i c H1 Q1 hc g k => he c H1 Q1 (k _ _ ⟨c, hc, rfl⟩ (Same.refl _))) (fun D H' ys g hl hR hD => ?_)
  have e := ys_map (g := fun c => V.bl (decide (c ∈ letters.cps.toList))) hl hR
  refine ⟨D, x.cps.toList.map fun c => decide (c ∈ letters.cps.toList), rfl, SqL.of ?_, ?_⟩
  · rw [List.map_map, hD, e]
    rfl
  · rw [List.all_map]
    exact q _ g
theorem cal_law_is_name (T : Ty K mg) : Cal P w K mg base 2 "_law_is_name" (spLook K (fun d => .bl (isNm d)) fun d => ∃ n, ok n d) := by
  refine T.lis_name.cal f_law_is_name_sc (fun _ _ _ _ _ _ us hl => match us, hl with | [_], _ => rfl) (fun vs H Q E h => look_len h) (fun f cdv A outer s H vs Q E hr h => ?_)
  obtain ⟨v, d, rfl, hd, ⟨n, hn⟩, q⟩ := h
  refine ⟨_, (pss_cons (ps_if (PW.pt (pw_or (pt_not (pt_val (pe_callB call_isi rfl T.n_isinstance (by decide +kernel) (pa_cons (pv 0) (pa_cons (pe_bltn (v := .ty "str") (u := .type "str") rfl T.n_str (by decide +kernel) rfl) pa_nil))))) (pw_or (pt_not (pt_chain op_lt op_lt pe_int (pe_callB call_len_str rfl T.n_len (by decide +kernel) (pa_cons (pv 0) pa_nil)) pe_int)) (pw_or1 (pt_cmpR op_in_seq (pv 0) (pe_c0 (cal_law_reserved T) hr (by omega) rfl) (by rfl)))))) (pss_one (ps_ret pe_bl)) pss_nil)
      (pss_one (ps_ret (pe_callB (cr_all rfl) rfl T.n_all (by decide +kernel) (pa_cons (pe_lc (own := [("_law_letter", 1)]) (g := gName 1) (tt := tYes) rfl f_law_is_name_sc.nd (pi_str (pv 0)) (blkOk_by (own := [("_law_letter", 1)]) (N := f_law_is_name_N) (sc := defScope f_law_is_name_s) (by decide +kernel)) (fun _ _ _ _ _ => (pg_name (i := 1) f_law_is_name_sc.nd rfl (Or.inl rfl))) (fun _ _ _ _ _ => pts_nil) (fun _ _ _ _ _ => (pe_cmpR op_in_sign (pv 1) pe_str (by rfl)))) pa_nil))))), ?_⟩
  rw [show L2.start f_law_is_name_N [v] = [some v, none] from rfl]
  simp only [cxOf, Cx.nox, tSeq, C8.tCut, tAsg, tRet, tRetN, tIfS, tTest, tB, tAnd, tOr, tNot, tAndV, tOrV, tNotV, tIf, tOp, tUn, tCB, tCall, tCons, tNil, tC, tTup, tLst, tChain, tPar, tDrop, tNext, tSl, tPart, tNoPart, tBM, tBM0, tM1, tM0, tAug, ipI, gName, gSub, tVar, wipe, rI0, rI, rU, List.cons_append, List.nil_append, List.append_nil, List.set_cons_zero, List.set_cons_succ, List.getElem?_cons_zero, List.getElem?_cons_succ, Option.some.injEq, V.int.injEq, V.bl.injEq, V.str.injEq, V.ref.injEq, exists_and_left, exists_eq_left, if_true, if_false, Bool.not_true, Bool.not_false, Bool.false_eq_true, List.map_cons, List.map_nil, List.cons.injEq, and_true, true_and, exists_eq_left']
  have z := q _ (Same.refl H)
  dsimp only at z
  refine isi_one hd (by simp) ⟨_, rfl, ?_⟩
  refine ite2 (fun e => ?_) (fun e => ?_)
  · have : isNm d = false := by
      cases d <;> first | rfl | simp [isT, isTn, tyN] at e
    rw [this] at z
    exact z
  · cases hd with
    | str x =>
      have hx : x.length ≤ 9 := by cases n <;> exact hn.1
      refine ⟨x, rfl, small (by omega), ?_⟩
      refine ite2 (fun h1 => ?_) (fun h1 => ?_)
      · have h1' : (0 : Int) < x.length := of_decide_eq_true h1
        refine ite2 (fun h2 => ?_) (fun h2 => ?_)
        · have h2' : ¬ (x.length : Int) < 9 := by simpa using h2
          have : isNm (.str x) = false := by
            show nm x = false
            unfold nm
            rw [decide_eq_false (p := x.length ≤ 8) (by omega), Bool.and_false, Bool.false_and, Bool.false_and]
          rw [this] at z
          exact z
        · have h2' : (x.length : Int) < 9 := by simpa using h2
          have hz : isNm (.str x) = (!resv.contains x && x.cps.toList.all fun c => decide (c ∈ letters.cps.toList)) := by
            show nm x = _
            unfold nm
            rw [decide_eq_true (p := x.length ≤ 8) (by omega), decide_eq_true (p := 1 ≤ x.length) (by omega), Bool.true_and, Bool.true_and]
          refine ⟨rfl, fun p H1 g1 hp hH => ?_⟩
          refine ⟨p, _, rfl, .inl (SqL.of hH), rfl, flat_strs _, ?_⟩
          refine ⟨_, rfl, ite2 (fun h3 => ?_) (fun h3 => ?_)⟩
          · rw [if_neg Bool.false_ne_true, inV_str] at h3
            have z := q _ g1
            dsimp only at z
            rw [hz, h3] at z
            exact z
          · rw [if_neg Bool.false_ne_true, inV_str] at h3
            refine all_letters (x := x) (by omega) (fun R r => ⟨_, rfl, x, rfl, r⟩) (fun c H2 Q2 k => ?_) fun H2 g2 => ?_
            · simp only [cxOf, Cx.nox, tSeq, C8.tCut, tAsg, tRet, tRetN, tIfS, tTest, tB, tAnd, tOr, tNot, tAndV, tOrV, tNotV, tIf, tOp, tUn, tCB, tCall, tCons, tNil, tC, tTup, tLst, tChain, tPar, tDrop, tNext, tSl, tPart, tNoPart, tBM, tBM0, tM1, tM0, tAug, ipI, gName, gSub, tVar, wipe, rI0, rI, rU, List.cons_append, List.nil_append, List.append_nil, List.set_cons_zero, List.set_cons_succ, List.getElem?_cons_zero, List.getElem?_cons_succ, Option.some.injEq, V.int.injEq, V.bl.injEq, V.str.injEq, V.ref.injEq, exists_and_left, exists_eq_left, if_true, if_false, Bool.not_true, Bool.not_false, Bool.false_eq_true, List.map_cons, List.map_nil, List.cons.injEq, and_true, true_and, exists_eq_left']
              exact ⟨c, rfl, k⟩
            · have z := q _ (g1.trans g2)
              dsimp only at z
              rw [hz, Bool.eq_false_iff.mpr h3, Bool.not_false, Bool.true_and] at z
              exact z
      · have h1' : ¬ (0 : Int) < x.length := fun h => h1 (decide_eq_true h)
        have : isNm (.str x) = false := by
          show nm x = false
          unfold nm
          rw [decide_eq_false (p := 1 ≤ x.length) (by omega), Bool.false_and, Bool.false_and, Bool.false_and]
        rw [this] at z
        exact z
    | _ => simp [isT, isTn, tyN] at e
theorem pick_new {st sl p : Addr} {c : Nat} {H : Hp} {xs : List V} (hk : Sk st sl c H) (hp : H p = none) : Items K (hid [st, sl] (upd H p (.lst xs))) (.ref p) xs := by
  refine .inl ⟨p, rfl, .inl (SqL.of ?_)⟩
  rw [hid_ne (by simp [hk.nst hp, hk.nsl hp]), upd_same]
/-- a number: at most two draws -/
def spNumber : Sp := fun vs H Q _ => ∃ (st sl : Addr) (c : Nat), vs = [.ref st] ∧ Sk st sl c H ∧ c < 999990 ∧
  ∀ (i : Int) (H' : Hp) (c' : Nat), i.natAbs < 10 ^ 30 → Sk st sl c' H' → c' ≤ c + 2 → Keep st sl H H' → Q (.int i) H'
theorem cal_law_number (T : Ty K mg) : Cal P w K mg base 3 "_law_number" spNumber := by
  refine T.number.cal f_law_number_sc (fun _ _ _ _ _ _ us hl => match us, hl with | [_], _ => rfl) (fun vs H Q E h => ?_) (fun f cdv A outer s H vs Q E hr h => ?_)
  · obtain ⟨st, sl, c, rfl, _⟩ := h
    rfl
  obtain ⟨st, sl, c, rfl, hk, hc, q⟩ := h
  refine ⟨_, (pss_cons (ps_set (i := 1) f_law_number_sc.nd rfl (Or.inl rfl) (pe_c (cal_draw T) hr (by omega) rfl (pa_cons (pv 0) (pa_cons pe_int pa_nil))))
      (pss_cons (ps_if (pt_cmpR op_lt (pv 1) pe_int (nomark _)) (pss_one (ps_ret (pe_op op_sub (pe_c (cal_draw T) hr (by omega) rfl (pa_cons (pv 0) (pa_cons pe_int pa_nil))) pe_int))) pss_nil)
      (pss_one (ps_ret (pe_c (cal_law_pick T) hr (by omega) rfl (pa_cons (pv 0) (pa_cons (pe_lst (pa_cons (pe_op op_sub (pe_op op_pow pe_int pe_int) pe_int) (pa_cons (pe_op op_sub pe_int (pe_op op_pow pe_int pe_int)) (pa_cons (pe_op op_pow pe_int pe_int) (pa_cons (pe_un un_neg pe_int) (pa_cons pe_int pa_nil)))))) pa_nil))))))), ?_⟩
  rw [show L2.start f_law_number_N [.ref st] = [some (.ref st), none] from rfl]
  simp only [cxOf, Cx.nox, tSeq, C8.tCut, tAsg, tRet, tRetN, tIfS, tTest, tB, tAnd, tOr, tNot, tAndV, tOrV, tNotV, tIf, tOp, tUn, tCB, tCall, tCons, tNil, tC, tTup, tLst, tChain, tPar, tDrop, tNext, tSl, tPart, tNoPart, tBM, tBM0, tM1, tM0, tAug, ipI, gName, gSub, tVar, wipe, rI0, rI, rU, List.cons_append, List.nil_append, List.append_nil, List.set_cons_zero, List.set_cons_succ, List.getElem?_cons_zero, List.getElem?_cons_succ, Option.some.injEq, V.int.injEq, V.bl.injEq, V.str.injEq, V.ref.injEq, exists_and_left, exists_eq_left, if_true, if_false, Bool.not_true, Bool.not_false, Bool.false_eq_true, List.map_cons, List.map_nil, List.cons.injEq, and_true, true_and, exists_eq_left']
  refine ⟨st, sl, c, 12, rfl, hk, by omega, by decide, by decide, fun r H1 r0 r1 k1 g1 => ?_⟩
  refine ⟨r, rfl, ite2 (fun h => ?_) (fun h => ?_)⟩
  · refine ⟨st, sl, c + 1, 6, rfl, k1, by omega, by decide, by decide, fun r' H2 r0' r1' k2 g2 => ⟨r', rfl, ?_⟩⟩
    refine q _ H2 _ ?_ k2 (by omega) (g1.trans g2)
    have : (10 : Nat) ^ 30 = 1000000000000000000000000000000 := by decide
    omega
  · refine ⟨⟨by decide, by decide, by decide⟩, ⟨by decide, by decide, by decide⟩, ⟨by decide, by decide, by decide⟩, by show 5 ≤ sizeLine; decide, fun p hp => ?_⟩
    refine ⟨st, sl, c + 1, .ref p, _, rfl, k1.new hp, by omega, pick_new k1 hp, by simp, by simp, fun i x H2 hx k2 g2 => ?_⟩
    have hm := List.mem_of_getElem? hx
    simp only [List.mem_cons, List.not_mem_nil, or_false] at hm
    have g3 := (g1.trans (Keep.new hp)).trans g2
    rcases hm with rfl | rfl | rfl | rfl | rfl <;> exact q _ H2 _ (by decide) k2 (by omega) g3
end
end Rm

set_option Elab.async false
set_option linter.all false
set_option maxRecDepth 100000
set_option maxHeartbeats 4000000
namespace Rm
open PySem PySem.Spec PyProof.Rows L2
abbrev f_law_fresh_s : Stmt := topS 17
abbrev f_law_fresh_N : List Str := ["_law_stream", "_law_taken", "_law_letters", "_law_size", "_law_name", "_law_k", "_law_spare", "_law_one", "_law_other"]
abbrev f_law_fresh_P : List Str := ["_law_stream", "_law_taken"]
theorem f_law_fresh_sc : FnScope f_law_fresh_N f_law_fresh_P (defScope f_law_fresh_s) := ⟨rfl, rfl, rfl, by decide +kernel, rfl, by decide +kernel, by decide +kernel⟩

structure Tz (K : PySem.W.Frag) (mg : Str → Option Value) : Prop extends Ty K mg where
  fresh : Df K mg "_law_fresh" f_law_fresh_s
section
variable {P : Program} {w : World} {K : PySem.W.Frag} {mg : Str → Option Value} {base : Heap}
/-- the spare names -/
def spareOf (a : Nat) : List Str := letters.cps.toList.map fun b => ("v" ++ (⟨#[a]⟩ : Str)) ++ ⟨#[b]⟩
def ten : Str := "abcdefghij"
def spare : List Str := ten.cps.toList.flatMap spareOf
/-- a name that is not taken: at most nine draws -/
def spFresh : Sp := fun vs H Q _ => ∃ (st sl t : Addr) (c : Nat) (tk : List Str), vs = [.ref st, .ref t] ∧ Sk st sl c H ∧ c < 999980 ∧ H t = some (.lst (tk.map V.str)) ∧ t ≠ st ∧ t ≠ sl ∧ tk.length ≤ 1000 ∧ (∃ s ∈ spare, s ∉ tk) ∧
  ∀ (x : Str) (H' : Hp) (c' : Nat), nm x = true → x ∉ tk → Sk st sl c' H' → c' ≤ c + 9 → Keep st sl H H' → Q (.str x) H'
theorem spareOf_len (a : Nat) : (spareOf a).length = 26 := by rw [spareOf, List.length_map]; decide +kernel
theorem spares_len : ∀ l : List Nat, (l.flatMap spareOf).length = 26 * l.length
  | [] => rfl
  | a :: l => by rw [List.flatMap_cons, List.length_append, spareOf_len, spares_len l, List.length_cons]; omega
theorem cut_ten : cutS letters none (some 10) = ten := by decide +kernel
theorem spare_nm : ∀ s ∈ spare, nm s = true := by
  have : (spare.all nm) = true := by decide +kernel
  exact List.all_eq_true.mp this
theorem spare_loop {addS : R2} (hA : ∀ a b H Q, a.length + b.length ≤ sizeLine → Q (V.str (a ++ b)) H → addS (.str a) (.str b) H Q) {st t p : Addr} {x y : V} {H : Hp} {tk : List Str} {Mid : L2.St → Hp → Prop} {Q : VK}
    (ht : H t = some (.lst (tk.map V.str))) (hp : H p = none) (hs : ∃ s ∈ spare, s ∉ tk)
    (q : ∀ s p1 v7 H', s ∈ spare → s ∉ tk → Same H H' → Mid [some (.ref st), some (.ref t), some (.str letters), some x, some (.str s), none, some (.ref p1), v7, none] H') :
    tFor (iStr (tSl rSlS (tVar 2) tNoPart (tPart (tC (V.int 10))))) (gName 7)
      (tAsg (tOp rCat (tVar 6) (tLc (iStr (tVar 2)) (gName 8) tYes (tOp addS (tOp addS (tC (V.str "v")) (tVar 7)) (tVar 8)) [8])) (gName 6))
      { nx := tAsg (tOp (rIxL K) (tLc (iList K (tVar 6)) (gName 7) (tTest (tOp (rIn K true) (tVar 7) (tVar 1))) (tVar 7) [7]) (tC (V.int 0))) (gName 4) { nx := Mid, rt := Q }, rt := Q }
      [some (.ref st), some (.ref t), some (.str letters), some x, some y, none, some (.ref p), none, none] (upd H p (.lst [])) := by
  refine ⟨_, rfl, _, rfl, letters, rfl, by decide +kernel, ten, congrArg V.str cut_ten, ?_⟩
  refine for_it (walk_str (z := ten)) (fun i σ H' => ∃ p1 v7, σ = [some (.ref st), some (.ref t), some (.str letters), some x, some y, none, some (.ref p1), v7, none] ∧ Same H H' ∧ H' p1 = some (.lst (((ten.cps.toList.take i).flatMap spareOf).map V.str))) ⟨p, none, rfl, same_new hp _, upd_same⟩ (fun _ _ _ _ _ => trivial) ?_ ?_
  · rintro i v σ H1 H2 hi ⟨p1, v7, rfl, g1, h1⟩ ⟨rfl, c, hc, rfl⟩
    have hc' : ten.cps.toList[i]? = some c := by simpa using hc
    refine ⟨_, rfl, ?_⟩
    refine tLc_str (z := letters) (fun R r => ⟨_, rfl, letters, rfl, r⟩) (by decide +kernel) (fun i v => ∃ b, letters.cps.toList[i]? = some b ∧ v = .str (("v" ++ (⟨#[c]⟩ : Str)) ++ ⟨#[b]⟩)) (fun k b H3 Q3 hb g3 kk => ?_) (fun D H3 ys g3 hl hR hD => ?_)
    · exact ⟨_, rfl, hA _ _ _ _ (small (by show (Str.ofString "v").length + 1 ≤ 1000; decide)) ⟨_, rfl, hA _ _ _ _ (small (by rw [strLen_append]; show (Str.ofString "v").length + 1 + 1 ≤ 1000; decide)) (kk _ _ ⟨b, hb, rfl⟩ (Same.refl _))⟩⟩
    · have e := ys_map (g := fun b => V.str (("v" ++ (⟨#[c]⟩ : Str)) ++ ⟨#[b]⟩)) hl hR
      have e2 : ys = (spareOf c).map V.str := by rw [e, spareOf, List.map_map]; rfl
      refine ⟨p1, D, _, _, rfl, rfl, g3 _ _ h1, e2 ▸ hD, ?_, fun p2 hp2 => ?_⟩
      · refine small ?_
        rw [List.length_map, List.length_map]
        have h2 : ((ten.cps.toList.take i).flatMap spareOf).length ≤ 260 := by
          rw [spares_len, List.length_take]
          have : ten.cps.toList.length = 10 := by decide +kernel
          omega
        have h3 := spareOf_len c
        omega
      · refine ⟨p2, _, rfl, (g1.trans g3).trans (same_new hp2 _), ?_⟩
        rw [upd_same, List.take_add_one, hc', List.flatMap_append, List.map_append]
        simp
  · rintro σ H1 ⟨p1, v7, rfl, g1, h1⟩
    simp only [cxOf, Cx.nox, tSeq, C8.tCut, tAsg, tRet, tRetN, tIfS, tTest, tB, tAnd, tOr, tNot, tAndV, tOrV, tNotV, tIf, tOp, tUn, tCB, tCall, tCons, tNil, tC, tTup, tLst, tChain, tPar, tDrop, tNext, tSl, tPart, tNoPart, tBM, tBM0, tM1, tM0, tAug, ipI, gName, gSub, tVar, wipe, rI0, rI, rU, List.cons_append, List.nil_append, List.append_nil, List.set_cons_zero, List.set_cons_succ, List.getElem?_cons_zero, List.getElem?_cons_succ, Option.some.injEq, V.int.injEq, V.bl.injEq, V.str.injEq, V.ref.injEq, exists_and_left, exists_eq_left, if_true, if_false, Bool.not_true, Bool.not_false, Bool.false_eq_true, List.map_cons, List.map_nil, List.cons.injEq, and_true, true_and, exists_eq_left']
    have h1' : H1 p1 = some (.lst (spare.map V.str)) := by
      rw [h1, List.take_of_length_le (by simp)]
      rfl
    refine tLc_filter (K := K) (zs := spare.map V.str) (fun R r => ⟨_, rfl, p1, rfl, ⟨_, SqL.of h1'⟩, r p1 H1 (Same.refl _) (SqL.of h1')⟩) ?_ (fun v => !inV v (tk.map V.str)) id (fun v H2 Q2 hv g2 k => ?_) (fun v H2 Q2 hv hp g2 k => ⟨_, rfl, k _ (Same.refl _)⟩) (fun D H2 g2 hD => ?_)
    · rw [List.length_map]
      have : spare.length = 260 := by decide +kernel
      omega
    · obtain ⟨s, _, rfl⟩ := List.mem_map.mp hv
      refine ⟨_, rfl, _, rfl, t, _, rfl, .inl (SqL.of (g2 _ _ (g1 _ _ ht))), rfl, flat_strs _, _, rfl, ?_⟩
      exact k _ (Same.refl _)
    · obtain ⟨s0, m0, n0⟩ := hs
      have hne : ((spare.map V.str).filter (fun v => !inV v (tk.map V.str))) ≠ [] := fun e => by
        have : V.str s0 ∈ (spare.map V.str).filter (fun v => !inV v (tk.map V.str)) := by
          rw [List.mem_filter]
          refine ⟨List.mem_map.mpr ⟨s0, m0, rfl⟩, ?_⟩
          rw [inV_str]
          simpa using n0
        rw [e] at this
        cases this
      obtain ⟨v0, r0, e0⟩ : ∃ v0 r0, (spare.map V.str).filter (fun v => !inV v (tk.map V.str)) = v0 :: r0 := by
        cases h : (spare.map V.str).filter (fun v => !inV v (tk.map V.str)) with
        | nil => exact absurd h hne
        | cons a l => exact ⟨a, l, rfl⟩
      have hv0 : v0 ∈ (spare.map V.str).filter (fun v => !inV v (tk.map V.str)) := by rw [e0]; exact List.mem_cons_self ..
      rw [List.mem_filter] at hv0
      obtain ⟨s, ms, rfl⟩ := List.mem_map.mp hv0.1
      have ns : s ∉ tk := by
        have := hv0.2
        rw [inV_str] at this
        simpa using this
      rw [List.map_id, e0] at hD
      exact ⟨D, _, 0, .str s, rfl, rfl, SqL.of hD, atI_nat (j := 0) rfl, q s p1 v7 H2 ms ns (g1.trans g2)⟩
theorem joinL_one : ∀ cs : List Nat, TL.joinL [] (cs.map fun b => [b]) = cs
  | [] => rfl
  | [b] => rfl
  | b :: d :: r => by
    show [b] ++ ([] ++ TL.joinL [] ((d :: r).map fun b => [b])) = b :: d :: r
    rw [joinL_one (d :: r)]
    rfl
theorem join_one' (cs : List Nat) : Txt.join "" (cs.map fun b => (⟨#[b]⟩ : Str)) = ⟨cs.toArray⟩ := by
  have h := SX.join_S [] (cs.map fun b => [b])
  rw [joinL_one, List.map_map] at h
  exact h
theorem sum_ones (cs : List Nat) : ((cs.map fun b => (⟨#[b]⟩ : Str)).map (·.length)).sum = cs.length := by
  induction cs with
  | nil => rfl
  | cons b r ih =>
    rw [List.map_cons, List.map_cons, List.sum_cons, ih, List.length_cons]
    show 1 + r.length = _
    omega
theorem cal_law_fresh (T : Tz K mg) : Cal P w K mg base 3 "_law_fresh" spFresh := by
  refine T.fresh.cal f_law_fresh_sc (fun _ _ _ _ _ _ us hl => match us, hl with | [_, _], _ => rfl) (fun vs H Q E h => ?_) (fun f cdv A outer s H vs Q E hr h => ?_)
  · obtain ⟨st, sl, t, c, tk, rfl, _⟩ := h
    rfl
  obtain ⟨st, sl, t, c, tk, rfl, hk, hc, ht, n1, n2, hl, hs, q⟩ := h
  refine ⟨_, (pss_cons (ps_set (i := 2) f_law_fresh_sc.nd rfl (Or.inr rfl) pe_str)
      (pss_cons (ps_set (i := 3) f_law_fresh_sc.nd rfl (Or.inl rfl) (pe_c (cal_law_pick T.toTy) hr (by omega) rfl (pa_cons (pv 0) (pa_cons (pe_lst (pa_cons pe_int (pa_cons pe_int (pa_cons pe_int (pa_cons pe_int pa_nil))))) pa_nil))))
      (pss_cons (ps_set (i := 4) f_law_fresh_sc.nd rfl (Or.inl rfl) (pe_join pe_str (pe_lc (own := [("_law_k", 5)]) (g := gName 5) (tt := tYes) rfl f_law_fresh_sc.nd (pi_range1 rfl T.n_range (pa_cons (pv 3) pa_nil)) (blkOk_by (own := [("_law_k", 5)]) (N := f_law_fresh_N) (sc := defScope f_law_fresh_s) (by decide +kernel)) (fun _ _ _ _ _ => (pg_name (i := 5) f_law_fresh_sc.nd rfl (Or.inl rfl))) (fun _ _ _ _ _ => pts_nil) (fun _ _ _ _ _ => (pe_c (cal_law_pick T.toTy) hr (by omega) rfl (pa_cons (pv 0) (pa_cons (pv 2) pa_nil)))))))
      (C8.pss_cut (ps_if (PW.pt (pw_or (pt_cmpR op_in_seq (pv 4) (pv 1) (by rfl)) (pw_or1 (pt_cmpR op_in_seq (pv 4) (pe_c0 (cal_law_reserved T.toTy) hr (by omega) rfl) (by rfl))))) (pss_cons (ps_set (i := 6) f_law_fresh_sc.nd rfl (Or.inl rfl) (pe_lst pa_nil))
      (pss_cons (ps_for PassesOwn.never rfl (pi_str (pe_slice sl_str (pv 2) po_none (po_some pe_int))) (pg_name (i := 7) f_law_fresh_sc.nd rfl (Or.inr rfl)) (pss_one (ps_set (i := 6) f_law_fresh_sc.nd rfl (Or.inl rfl) (pe_op op_cat (pv 6) (pe_lc (own := [("_law_other", 8)]) (g := gName 8) (tt := tYes) rfl f_law_fresh_sc.nd (pi_str (pv 2)) (blkOk_by (own := [("_law_other", 8)]) (N := f_law_fresh_N) (sc := defScope f_law_fresh_s) (by decide +kernel)) (fun _ _ _ _ _ => (pg_name (i := 8) f_law_fresh_sc.nd rfl (Or.inl rfl))) (fun _ _ _ _ _ => pts_nil) (fun _ _ _ _ _ => (pe_op op_add_str (pe_op op_add_str pe_str (pv 7)) (pv 8))))))))
      (pss_one (ps_set (i := 4) f_law_fresh_sc.nd rfl (Or.inl rfl) (pe_ix ix_list (pe_lc (own := [("_law_one", 7)]) (g := gName 7) (tt := tTest (tOp (rIn K true) (tVar 7) (tVar 1))) rfl f_law_fresh_sc.nd (pi_list (pv 6)) (blkOk_by (own := [("_law_one", 7)]) (N := f_law_fresh_N) (sc := defScope f_law_fresh_s) (by decide +kernel)) (fun _ _ _ _ _ => (pg_name (i := 7) f_law_fresh_sc.nd rfl (Or.inl rfl))) (fun _ _ _ _ _ => pts_one (pt_cmpR op_notIn_seq (pv 7) (pv 1) (by rfl))) (fun _ _ _ _ _ => (pv 7))) pe_int (fun _ _ => rfl)))))) pss_nil)
      (pss_one (ps_ret (pv 4))))))), ?_⟩
  rw [show L2.start f_law_fresh_N [.ref st, .ref t] = [some (.ref st), some (.ref t), none, none, none, none, none, none, none] from rfl]
  simp only [cxOf, Cx.nox, tSeq, C8.tCut, tAsg, tRet, tRetN, tIfS, tTest, tB, tAnd, tOr, tNot, tAndV, tOrV, tNotV, tIf, tOp, tUn, tCB, tCall, tCons, tNil, tC, tTup, tLst, tChain, tPar, tDrop, tNext, tSl, tPart, tNoPart, tBM, tBM0, tM1, tM0, tAug, ipI, gName, gSub, tVar, wipe, rI0, rI, rU, List.cons_append, List.nil_append, List.append_nil, List.set_cons_zero, List.set_cons_succ, List.getElem?_cons_zero, List.getElem?_cons_succ, Option.some.injEq, V.int.injEq, V.bl.injEq, V.str.injEq, V.ref.injEq, exists_and_left, exists_eq_left, if_true, if_false, Bool.not_true, Bool.not_false, Bool.false_eq_true, List.map_cons, List.map_nil, List.cons.injEq, and_true, true_and, exists_eq_left']
  refine ⟨by show 4 ≤ sizeLine; decide, fun p hp => ?_⟩
  refine ⟨st, sl, c, .ref p, _, rfl, hk.new hp, by omega, pick_new hk hp, by simp, by simp, fun i x H1 hx k1 g1 => ?_⟩
  have hx' : ∃ n : Nat, x = .int n ∧ 1 ≤ n ∧ n ≤ 8 := by
    have hm := List.mem_of_getElem? hx
    simp only [List.mem_cons, List.not_mem_nil, or_false] at hm
    rcases hm with rfl | rfl | rfl | rfl
    · exact ⟨1, rfl, by decide, by decide⟩
    · exact ⟨1, rfl, by decide, by decide⟩
    · exact ⟨2, rfl, by decide, by decide⟩
    · exact ⟨8, rfl, by decide, by decide⟩
  obtain ⟨n, rfl, hn1, hn8⟩ := hx'
  have g1' : Keep st sl H H1 := (Keep.new hp).trans g1
  have l1 : Liv [st, sl] st sl H1 := ⟨by simp, by simp, fun z hz => by
    obtain ⟨_, _, _, _, e1, e2, _⟩ := k1
    simp only [List.mem_cons, List.not_mem_nil, or_false] at hz
    rcases hz with rfl | rfl
    · rw [e1]; exact fun e => nomatch e
    · rw [e2]; exact fun e => nomatch e⟩
  refine ⟨⟨_, rfl⟩, ?_⟩
  refine tLc_draws (lo := 0) (n := n) (c := c + 1) (u := 1) (Z := [st, sl]) (fun R r => ⟨_, rfl, n, rfl, by omega, by omega, r⟩) (by omega) k1 l1 (fun _ v => ∃ b ∈ letters.cps.toList, v = .str ⟨#[b]⟩) (fun _ _ _ _ h => h) (fun D i H2 c2 Q2 hi g2 k2 l2 hc2 kk => ?_) (fun D H2 ys c2 g2 k2 hc2 hly hR hD l2 nD nD0 => ?_)
  · refine ⟨_, rfl, _, rfl, st, sl, c2, _, letters.cps.toList.map fun b => V.str ⟨#[b]⟩, rfl, k2, by omega, .inr ⟨letters, rfl, by decide +kernel, rfl⟩, by decide +kernel, by decide +kernel, fun k v H3 hv k3 g3 => ?_⟩
    have hm := List.mem_of_getElem? hv
    obtain ⟨b, hb, rfl⟩ := List.mem_map.mp hm
    exact kk _ H3 _ ⟨b, hb, rfl⟩ g3 k3 (by omega)
  · obtain ⟨cs, rfl, hcs⟩ : ∃ cs : List Nat, ys = (cs.map fun b => (⟨#[b]⟩ : Str)).map V.str ∧ ∀ b ∈ cs, b ∈ letters.cps.toList := by
      clear hD hly
      induction ys with
      | nil => exact ⟨[], rfl, fun _ h => nomatch h⟩
      | cons y r ih =>
        obtain ⟨b, hb, rfl⟩ := hR _ (List.mem_cons_self ..)
        obtain ⟨cs, rfl, h⟩ := ih fun y hy => hR y (List.mem_cons_of_mem _ hy)
        exact ⟨b :: cs, rfl, fun z hz => by
          rcases List.mem_cons.mp hz with e | e
          · rw [e]; exact hb
          · exact h z e⟩
    have hn : cs.length = n := by simpa using hly
    have ht2 : H2 t = some (.lst (tk.map V.str)) := g2 _ _ n1 n2 (g1' _ _ n1 n2 ht)
    have kq : ∀ s H', nm s = true → s ∉ tk → Same H2 H' → Q (.str s) H' := fun s H' hs1 hs2 g => q s H' c2 hs1 hs2 (k2.same g) (by omega) ((g1'.trans g2).trans (.same g))
    have hj := join_one' cs
    refine ⟨D, rfl, _, .inl (SqL.of hD), ?_, ?_⟩
    · rw [sum_ones, List.length_map]
      show cs.length + cs.length * 0 ≤ 16777216
      omega
    rw [hj]
    refine ⟨fun σ' H' => ∃ s, σ'[4]? = some (some (.str s)) ∧ nm s = true ∧ s ∉ tk ∧ Same H2 H', ?_, fun σ' H' ⟨s, e, h1, h2, g⟩ => ⟨_, e, kq s H' h1 h2 g⟩⟩
    have loop : ∀ {H3 : Hp} {p3 : Addr}, Same H2 H3 → H3 p3 = none → _ := fun {H3 p3} g3 h3 => spare_loop (K := K) (addS := fun x y H Q => ∃ i, x = V.str i ∧ ∃ x, y = V.str x ∧ i.length + x.length ≤ sizeLine ∧ Q (V.str (i ++ x)) H) (fun a b H Q h1 h2 => ⟨a, rfl, b, rfl, h1, h2⟩) (st := st) (x := .int n) (y := .str ⟨cs.toArray⟩) (Q := Q)
      (Mid := fun σ' H' => ∃ s, σ'[4]? = some (some (.str s)) ∧ nm s = true ∧ s ∉ tk ∧ Same H2 H') (g3 _ _ ht2) h3 hs (fun s p1 v7 H' m1 m2 g => ⟨s, rfl, spare_nm s m1, m2, g3.trans g⟩)
    refine ⟨t, _, rfl, .inl (SqL.of ht2), rfl, flat_strs _, _, rfl, ite2 (fun hin => ?_) (fun hin => ?_)⟩
    · exact ⟨Nat.zero_le _, fun p3 h3 => loop (Same.refl _) h3⟩
    · rw [if_neg Bool.false_ne_true, inV_str] at hin
      refine ⟨rfl, fun p3 H3 g3 h3 hH => ⟨p3, _, rfl, .inl (SqL.of hH), rfl, flat_strs _, _, rfl, ite2 (fun hr => ?_) (fun hr => ?_)⟩⟩
      · exact ⟨Nat.zero_le _, fun p4 h4 => loop g3 h4⟩
      · rw [if_neg Bool.false_ne_true, inV_str] at hr
        refine ⟨_, rfl, ?_, by simpa using hin, g3⟩
        unfold nm
        have e1 : (⟨cs.toArray⟩ : Str).length = n := by rw [← hn]; simp [Str.length]
        rw [e1, decide_eq_true hn1, decide_eq_true hn8, Bool.eq_false_iff.mpr hr]
        simpa using hcs
end
end Rm

set_option Elab.async false
set_option linter.all false
set_option maxRecDepth 100000
set_option maxHeartbeats 4000000
namespace Rm
open PySem PySem.Spec PyProof.Rows L2
abbrev f_law_thing_s : Stmt := topS 19
abbrev f_law_thing_N : List Str := ["_law_stream", "_law_deep", "_law_way", "_law_size", "_law_head", "_law_found", "_law_k"]
abbrev f_law_thing_P : List Str := ["_law_stream", "_law_deep"]
theorem f_law_thing_sc : FnScope f_law_thing_N f_law_thing_P (defScope f_law_thing_s) := ⟨rfl, rfl, rfl, by decide +kernel, rfl, by decide +kernel, by decide +kernel⟩
abbrev f_law_bent_s : Stmt := topS 20
abbrev f_law_bent_N : List Str := ["_law_stream", "_law_thing_here", "_law_odd", "_law_word", "_law_other", "_law_at", "_law_parts"]
abbrev f_law_bent_P : List Str := ["_law_stream", "_law_thing_here"]
theorem f_law_bent_sc : FnScope f_law_bent_N f_law_bent_P (defScope f_law_bent_s) := ⟨rfl, rfl, rfl, by decide +kernel, rfl, by decide +kernel, by decide +kernel⟩
abbrev f_law_is_value_s : Stmt := topS 21
abbrev f_law_is_value_N : List Str := ["_law_thing_here", "_law_words", "_law_part"]
abbrev f_law_is_value_P : List Str := ["_law_thing_here"]
theorem f_law_is_value_sc : FnScope f_law_is_value_N f_law_is_value_P (defScope f_law_is_value_s) := ⟨rfl, rfl, rfl, by decide +kernel, rfl, by decide +kernel, by decide +kernel⟩
abbrev f_law_s : Stmt := topS 22
abbrev f_law_N : List Str := ["_law_script", "_law_stream", "_law_turn", "_law_thing_here", "_law_kept", "_law_found"]
abbrev f_law_P : List Str := ["_law_script"]
theorem f_law_sc : FnScope f_law_N f_law_P (defScope f_law_s) := ⟨rfl, rfl, rfl, by decide +kernel, rfl, by decide +kernel, by decide +kernel⟩

structure Tw (K : PySem.W.Frag) (mg : Str → Option Value) : Prop extends Tz K mg where
  thing : Df K mg "_law_thing" f_law_thing_s
  bent : Df K mg "_law_bent" f_law_bent_s
  lis_value : Df K mg "_law_is_value" f_law_is_value_s
  law : Df K mg "law" f_law_s
/-- data whose rows are not empty -/
def okn : Nat → PyData → Prop
  | 0, d => atom d
  | n + 1, .list ds => ds ≠ [] ∧ ds.length ≤ 9 ∧ ∀ e ∈ ds, okn n e
  | n + 1, .tuple ds => ds ≠ [] ∧ ds.length ≤ 9 ∧ ∀ e ∈ ds, okn n e
  | _ + 1, d => atom d
theorem okn_atom {n : Nat} {d : PyData} (h : atom d) : okn n d := by
  cases n with
  | zero => exact h
  | succ n => cases d <;> first | exact h | exact h.elim
theorem okn_ok : ∀ {n : Nat} {d : PyData}, okn n d → ok n d
  | 0, d, h => h
  | n + 1, .list ds, h => ⟨h.2.1, fun e he => okn_ok (h.2.2 e he)⟩
  | n + 1, .tuple ds, h => ⟨h.2.1, fun e he => okn_ok (h.2.2 e he)⟩
  | n + 1, .none, h => h
  | n + 1, .bool _, h => h
  | n + 1, .int _, h => h
  | n + 1, .str _, h => h
  | n + 1, .dict _, h => h
theorem nm_atom {x : Str} (h : nm x = true) : atom (.str x) := by
  unfold nm at h
  simp only [Bool.and_eq_true, decide_eq_true_eq, List.all_eq_true] at h
  refine ⟨by omega, fun c hc => ?_⟩
  have h1 := h.2 c hc
  have h2 : ∀ c ∈ letters.cps.toList, c < 128 := by decide +kernel
  exact h2 c h1
def tc : Nat → Nat
  | 0 => 3
  | n + 1 => 6 * tc n + 13
section
variable {P : Program} {w : World} {K : PySem.W.Frag} {mg : Str → Option Value} {base : Heap}
def spThing (K : PySem.W.Frag) (n : Nat) : Sp := fun vs H Q _ => ∃ (Z : List Addr) (st sl : Addr) (c : Nat), vs = [.ref st, .int n] ∧ Sk st sl c H ∧ Liv Z st sl H ∧ c + tc n < 900000 ∧
  ∀ (v : V) (d : PyData) (H' : Hp) (c' : Nat), Dp K (hid Z H') v d → okn n d → Sk st sl c' H' → c' ≤ c + tc n → Keep st sl H H' → Q v H'
theorem thing_step {k n : Nat} (T : Tw K mg) (rec : Cal P w K mg base k "_law_thing" fun vs H Q E => n ≠ 0 ∧ spThing K (n - 1) vs H Q E) (hk : 3 ≤ k) : Cal P w K mg base (k + 1) "_law_thing" (spThing K n) := by
  refine T.thing.cal f_law_thing_sc (fun _ _ _ _ _ _ us hl => match us, hl with | [_, _], _ => rfl) (fun vs H Q E h => ?_) (fun f cdv A outer s H vs Q E hr h => ?_)
  · obtain ⟨Z, st, sl, c, rfl, _⟩ := h
    rfl
  obtain ⟨Z, st, sl, c, rfl, hk, lv, hc, q⟩ := h
  refine ⟨_, (pss_cons (ps_set (i := 2) f_law_thing_sc.nd rfl (Or.inl rfl) (pe_c (cal_draw T.toTy) hr (by omega) rfl (pa_cons (pv 0) (pa_cons pe_int pa_nil))))
      (pss_cons (ps_if (PW.pt (pw_or (pt_cmpR op_eq (pv 1) pe_int (nomark _)) (pw_or1 (pt_cmpR op_eq (pv 2) pe_int (nomark _))))) (pss_one (ps_ret (pe_c (cal_law_number T.toTy) hr (by omega) rfl (pa_cons (pv 0) pa_nil)))) pss_nil)
      (pss_cons (ps_set (i := 3) f_law_thing_sc.nd rfl (Or.inl rfl) (pe_c (cal_law_pick T.toTy) hr (by omega) rfl (pa_cons (pv 0) (pa_cons (pe_lst (pa_cons pe_int (pa_cons pe_int (pa_cons pe_int (pa_cons pe_int (pa_cons pe_int (pa_cons (pe_ix ix_tup (pe_tup (pa_cons pe_int (pa_cons pe_int pa_nil))) (pe_callTy call_int_b rfl T.n_int (by decide +kernel) (pa_cons (pe_cmpR op_lt (pv 1) pe_int (nomark _)) pa_nil)) (fun _ _ => rfl)) pa_nil))))))) pa_nil))))
      (pss_cons (ps_set (i := 4) f_law_thing_sc.nd rfl (Or.inl rfl) (pe_lst (pa_cons (pe_c (cal_law_fresh T.toTz) hr (by omega) rfl (pa_cons (pv 0) (pa_cons (pe_lst pa_nil) pa_nil))) pa_nil)))
      (C8.pss_cut (ps_if (pt_cmpR op_eq (pv 2) pe_int (nomark _)) (pss_one (ps_par (i := 4) (j := 3) (by rfl) f_law_thing_sc.nd rfl rfl (by decide) rfl rfl (pa_cons (pe_op op_cat (pe_lst (pa_cons pe_str pa_nil)) (pv 4)) (pa_cons (pe_callB (call_min2 rfl) rfl T.n_min (by decide +kernel) (pa_cons (pv 3) (pa_cons pe_int pa_nil))) pa_nil)) (by rfl))) pss_nil)
      (pss_cons (ps_set (i := 5) f_law_thing_sc.nd rfl (Or.inl rfl) (pe_op op_cat (pv 4) (pe_lc (own := [("_law_k", 6)]) (g := gName 6) (tt := tYes) rfl f_law_thing_sc.nd (pi_range1 rfl T.n_range (pa_cons (pv 3) pa_nil)) (blkOk_by (own := [("_law_k", 6)]) (N := f_law_thing_N) (sc := defScope f_law_thing_s) (by decide +kernel)) (fun _ _ _ _ _ => (pg_name (i := 6) f_law_thing_sc.nd rfl (Or.inl rfl))) (fun _ _ _ _ _ => pts_nil) (fun _ _ _ _ _ => (pe_c rec hr (by omega) rfl (pa_cons (pv 0) (pa_cons (pe_op op_sub (pv 1) pe_int) pa_nil)))))))
      (pss_one (ps_ret (pe_ix ix_list (pe_lst (pa_cons (pv 5) (pa_cons (pe_callTy call_tuple_of rfl T.n_tuple (by decide +kernel) (pa_cons (pv 5) pa_nil)) pa_nil))) (pe_op op_mod (pe_c (cal_draw T.toTy) hr (by omega) rfl (pa_cons (pv 0) (pa_cons pe_int pa_nil))) pe_int) (fun _ _ => rfl)))))))))), ?_⟩
  rw [show L2.start f_law_thing_N [.ref st, .int n] = [some (.ref st), some (.int n), none, none, none, none, none] from rfl]
  simp only [cxOf, Cx.nox, tSeq, C8.tCut, tAsg, tRet, tRetN, tIfS, tTest, tB, tAnd, tOr, tNot, tAndV, tOrV, tNotV, tIf, tOp, tUn, tCB, tCall, tCons, tNil, tC, tTup, tLst, tChain, tPar, tDrop, tNext, tSl, tPart, tNoPart, tBM, tBM0, tM1, tM0, tAug, ipI, gName, gSub, tVar, wipe, rI0, rI, rU, List.cons_append, List.nil_append, List.append_nil, List.set_cons_zero, List.set_cons_succ, List.getElem?_cons_zero, List.getElem?_cons_succ, Option.some.injEq, V.int.injEq, V.bl.injEq, V.str.injEq, V.ref.injEq, exists_and_left, exists_eq_left, if_true, if_false, Bool.not_true, Bool.not_false, Bool.false_eq_true, List.map_cons, List.map_nil, List.cons.injEq, and_true, true_and, exists_eq_left']
  refine ⟨st, sl, c, 6, rfl, hk, by omega, by decide, by decide, fun r H1 r0 r1 k1 g1 => ?_⟩
  have num : ∀ H2, Same H1 H2 → spNumber [V.ref st] H2 Q E0 := fun H2 g2 => ⟨st, sl, c + 1, rfl, k1.same g2, by omega, fun i H3 c3 hi k3 hc3 g3 => q (.int i) (.int i) H3 c3 (.int i) (okn_atom (show i.natAbs ≤ 10 ^ 30 by omega)) k3 (by have : 3 ≤ tc n := (by cases n <;> simp only [tc] <;> omega); omega) ((g1.trans (.same g2)).trans g3)⟩
  refine ⟨rfl, _, rfl, ite2 (fun e => num H1 (Same.refl _)) (fun e => ?_)⟩
  obtain ⟨m, rfl⟩ : ∃ m, n = m + 1 := by
    cases n with
    | zero => exact absurd (decide_eq_true rfl) e
    | succ m => exact ⟨m, rfl⟩
  refine ⟨rfl, _, rfl, ite2 (fun e => num H1 (Same.refl _)) (fun e => ?_)⟩
  refine ⟨by show 2 ≤ sizeLine; decide, fun p hp => ?_⟩
  have hix : ∃ z : Int, (z = 2 ∨ z = 6) ∧ atI [V.int 2, V.int 6] (if decide (((m + 1 : Nat) : Int) < 3) = true then 1 else 0) = some (.int z) := by
    split
    · exact ⟨6, .inr rfl, rfl⟩
    · exact ⟨2, .inl rfl, rfl⟩
  obtain ⟨z, hz, ez⟩ := hix
  refine ⟨p, _, _, _, rfl, rfl, SqT.of upd_same, ez, by show 6 ≤ sizeLine; decide, fun p2 hp2 => ?_⟩
  have k2 := k1.new (o := .tup [V.int 2, V.int 6]) hp
  refine ⟨st, sl, c + 1, .ref p2, _, rfl, k2.new hp2, by omega, pick_new k2 hp2, by simp, by simp, fun i x4 H3 hx4 k3 g3 => ?_⟩
  have g13 : Keep st sl H H3 := ((g1.trans (.new hp)).trans (.new hp2)).trans g3
  obtain ⟨sz, rfl, hsz⟩ : ∃ sz : Nat, x4 = .int sz ∧ sz ≤ 6 := by
    have hm := List.mem_of_getElem? hx4
    simp only [List.mem_cons, List.not_mem_nil, or_false] at hm
    rcases hm with rfl | rfl | rfl | rfl | rfl | rfl
    · exact ⟨0, rfl, by decide⟩
    · exact ⟨1, rfl, by decide⟩
    · exact ⟨2, rfl, by decide⟩
    · exact ⟨2, rfl, by decide⟩
    · exact ⟨3, rfl, by decide⟩
    · rcases hz with rfl | rfl
      · exact ⟨2, rfl, by decide⟩
      · exact ⟨6, rfl, by decide⟩
  refine ⟨Nat.zero_le _, fun p4 hp4 => ?_⟩
  refine ⟨st, sl, p4, c + 1 + 1, [], rfl, k3.new hp4, by omega, upd_same, k3.nst hp4, k3.nsl hp4, by simp, ⟨"vaa", by decide +kernel, by simp⟩, fun x H5 c5 hx _ k5 hc5 g5 => ?_⟩
  have g15 : Keep st sl H H5 := (g13.trans (.new hp4)).trans g5
  refine ⟨by show 1 ≤ sizeLine; decide, fun p6 hp6 => ?_⟩
  have hnx : atom (.str x) := nm_atom hx
  refine ⟨fun σ' H' => ∃ (ph : Addr) (sz : Nat) (nms : List Str), σ' = [some (.ref st), some (.int ((m + 1 : Nat) : Int)), some (.int r), some (.int sz), some (.ref ph), none, none] ∧ sz ≤ 6 ∧ H' ph = some (.lst (nms.map V.str)) ∧ ph ≠ st ∧ ph ≠ sl ∧ ph ∉ Z ∧ nms ≠ [] ∧ nms.length ≤ 2 ∧ (∀ s ∈ nms, atom (.str s)) ∧ Keep st sl H H' ∧ Sk st sl c5 H', ?_, ?_⟩
  · have f6 : H5 p6 = none := hp6
    have z6 : p6 ∉ Z := (lv.keep g15 k5).out hp6
    refine ⟨rfl, _, rfl, ite2 (fun e1 => ?_) (fun e1 => ?_)⟩
    · refine ⟨by show 1 ≤ sizeLine; decide, fun p8 hp8 => ?_⟩
      refine ⟨p8, p6, _, _, rfl, rfl, upd_same, same_new hp8 _ _ _ upd_same, by show 2 ≤ sizeLine; decide, fun p9 hp9 => ?_⟩
      have kk := (k5.new (o := .lst [V.str x]) hp6).new (o := .lst [V.str "close"]) hp8
      have gg : Keep st sl H (upd (upd H5 p6 (.lst [V.str x])) p8 (.lst [V.str "close"])) := (g15.trans (.new hp6)).trans (.new hp8)
      refine ⟨sz, 5, ⟨rfl, rfl⟩, _, _, ⟨rfl, rfl⟩, p9, min sz 5, ["close", x], ?_, by omega, upd_same, kk.nst hp9, kk.nsl hp9, (lv.keep gg kk).out hp9, by simp, by simp, ?_, gg.trans (.new hp9), kk.new hp9⟩
      · have : (if (5 : Int) < (sz : Int) then 5 else (sz : Int)) = ((min sz 5 : Nat) : Int) := by split <;> omega
        rw [this]
      · intro s hs
        simp only [List.mem_cons, List.not_mem_nil, or_false] at hs
        rcases hs with rfl | rfl
        · exact ⟨by decide +kernel, by decide +kernel⟩
        · exact hnx
    · exact ⟨p6, sz, [x], rfl, hsz, upd_same, k5.nst hp6, k5.nsl hp6, z6, by simp, by simp, fun s hs => by rw [List.mem_singleton.mp hs]; exact hnx, g15.trans (.new hp6), k5.new hp6⟩
  · rintro σ' H7 ⟨ph, sz, nms, rfl, hsz, hph, n1, n2, n3, hne, hl2, hat, g7, k7⟩
    refine ⟨_, rfl, ?_⟩
    have l7 := lv.keep g7 k7
    have htc : tc (m + 1) = 6 * tc m + 13 := rfl
    refine tLc_draws (lo := 0) (n := sz) (c := c5) (u := tc m) (Z := Z) (fun R r => ⟨_, rfl, sz, rfl, by omega, by omega, r⟩) (by omega) k7 l7 (fun Hh v => ∃ d, Dp K Hh v d ∧ okn m d) (fun _ _ _ g ⟨d, h, o⟩ => ⟨d, h.mono g, o⟩) (fun D i H8 c8 Q8 hi g8 k8 l8 hc8 kk => ?_) (fun D H8 ys c8 g8 k8 hc8 hly hR hD l8 nD nD0 => ?_)
    · simp only [cxOf, Cx.nox, tSeq, C8.tCut, tAsg, tRet, tRetN, tIfS, tTest, tB, tAnd, tOr, tNot, tAndV, tOrV, tNotV, tIf, tOp, tUn, tCB, tCall, tCons, tNil, tC, tTup, tLst, tChain, tPar, tDrop, tNext, tSl, tPart, tNoPart, tBM, tBM0, tM1, tM0, tAug, ipI, gName, gSub, tVar, wipe, rI0, rI, rU, List.cons_append, List.nil_append, List.append_nil, List.set_cons_zero, List.set_cons_succ, List.getElem?_cons_zero, List.getElem?_cons_succ, Option.some.injEq, V.int.injEq, V.bl.injEq, V.str.injEq, V.ref.injEq, exists_and_left, exists_eq_left, if_true, if_false, Bool.not_true, Bool.not_false, Bool.false_eq_true, List.map_cons, List.map_nil, List.cons.injEq, and_true, true_and, exists_eq_left']
      have h1 : i * tc m ≤ 5 * tc m := Nat.mul_le_mul_right _ (by omega)
      refine ⟨Nat.succ_ne_zero m, D :: Z, st, sl, c8, ?_, k8, l8, by show c8 + tc m < _; omega, fun v d H9 c9 hd ho k9 hc9 g9 => kk v H9 c9 ⟨d, hd, ho⟩ g9 k9 hc9⟩
      have : (((m + 1 : Nat) : Int) - 1) = (m : Int) := by omega
      rw [this]
      rfl
    · have h1 : sz * tc m ≤ 6 * tc m := Nat.mul_le_mul_right _ hsz
      obtain ⟨ds, hds, hok⟩ := dpa_of hR
      have hph8 := g8 _ _ n1 n2 hph
      refine ⟨ph, D, _, _, rfl, rfl, hph8, hD, small (by rw [List.length_map, hly]; omega), fun p9 hp9 => ?_⟩
      refine ⟨_, rfl, _, rfl, p9, rfl, _, .inl ⟨SqL.of upd_same, fun p10 hp10 => ⟨by show 2 ≤ sizeLine; decide, fun p11 hp11 => ?_⟩⟩⟩
      have k9 := k8.new (o := .lst (nms.map V.str ++ ys)) hp9
      have k10 := k9.new (o := .tup (nms.map V.str ++ ys)) hp10
      have k11 := k10.new (o := .lst [V.ref p9, V.ref p10]) hp11
      have g78 := g7.trans g8
      refine ⟨_, rfl, st, sl, c8, 3, rfl, k11, by omega, by decide, by decide, fun r' H12 r0' r1' k12 g12 => ⟨r', rfl, by decide, ?_⟩⟩
      have l9 := (lv.keep g78 k8)
      have q9 : p9 ∉ Z := l9.out hp9
      have q10 : p10 ∉ Z := (l9.same (same_new hp9 _)).out hp10
      have e9 : H12 p9 = some (.lst (nms.map V.str ++ ys)) := g12 _ _ (k8.nst hp9) (k8.nsl hp9) (same_new hp11 _ _ _ (same_new hp10 _ _ _ upd_same))
      have e10 : H12 p10 = some (.tup (nms.map V.str ++ ys)) := g12 _ _ (k9.nst hp10) (k9.nsl hp10) (same_new hp11 _ _ _ upd_same)
      have e11 : H12 p11 = some (.lst [V.ref p9, V.ref p10]) := g12 _ _ (k10.nst hp11) (k10.nsl hp11) upd_same
      have gall : Keep st sl H8 H12 := (((Keep.new hp9).trans (.new hp10)).trans (.new hp11)).trans g12
      have hall : DpAll K (hid Z H12) (nms.map V.str ++ ys) (nms.map PyData.str ++ ds) := dpa_app (dp_strs nms) ((hds.mono (hid_less (fun z hz => List.mem_cons_of_mem _ hz) H8)).mono (gall.hid lv.st lv.sl))
      have hrow : (nms.map PyData.str ++ ds) ≠ [] ∧ (nms.map PyData.str ++ ds).length ≤ 9 ∧ ∀ e ∈ nms.map PyData.str ++ ds, okn m e := by
        refine ⟨fun z => hne (by simpa using (List.append_eq_nil_iff.mp z).1), ?_, fun e he => ?_⟩
        · have := dpa_len hds
          rw [List.length_append, List.length_map]
          omega
        · rcases List.mem_append.mp he with h | h
          · obtain ⟨s, hs, rfl⟩ := List.mem_map.mp h
            exact okn_atom (hat s hs)
          · exact hok e h
      have gg := g78.trans gall
      rcases (show r' % 2 = 0 ∨ r' % 2 = 1 by omega) with h | h <;> rw [h]
      · exact ⟨p11, _, 0, .ref p9, rfl, rfl, SqL.of e11, rfl, q _ (.list (nms.map PyData.str ++ ds)) H12 _ (row_L e9 q9 hall) hrow k12 (by omega) gg⟩
      · exact ⟨p11, _, 1, .ref p10, rfl, rfl, SqL.of e11, rfl, q _ (.tuple (nms.map PyData.str ++ ds)) H12 _ (row_T e10 q10 hall) hrow k12 (by omega) gg⟩
theorem thing_b : ∀ (kV doc pm : Value) (an : Option Addr) (cdv ct : Value) (us : List Value), us.length = f_law_thing_P.length → bindArgs (PySem.W.fnOf "_law_thing" "_law_thing" (defArgs f_law_thing_s) (defBody f_law_thing_s) (defScope f_law_thing_s) .none kV doc pm an cdv ct) ⟨us, []⟩ = pure (f_law_thing_P.zip us) :=
  fun _ _ _ _ _ _ us hl => match us, hl with | [_, _], _ => rfl
theorem cal_law_thing (T : Tw K mg) : ∀ n, Cal P w K mg base (n + 4) "_law_thing" (spThing K n)
  | 0 => thing_step T (k := 3) (T.thing.zero thing_b fun vs H Q E h => h.1 rfl) (by decide)
  | n + 1 => thing_step T (k := n + 4) ((cal_law_thing T n).imp fun vs H Q E h => h.2) (by omega)
end
end Rm

set_option Elab.async false
set_option linter.all false
set_option maxRecDepth 100000
set_option maxHeartbeats 4000000
namespace Rm
open PySem PySem.Spec PyProof.Rows L2
section
variable {P : Program} {w : World} {K : PySem.W.Frag} {mg : Str → Option Value} {base : Heap}
theorem sml_int (i : Int) : sml (.int i) = decide ((if i < 0 then -i else i) < 10 ^ (30 : Int).toNat) := by
  show decide (i.natAbs < 10 ^ 30) = _
  have e : (10 : Int) ^ (30 : Int).toNat = 1000000000000000000000000000000 := by decide
  have e' : (10 : Nat) ^ 30 = 1000000000000000000000000000000 := by decide
  rw [e, e']
  split <;> (refine decide_eq_decide.mpr ?_; omega)
theorem lis_step {k : Nat} {f0 : PyData → Bool} {C : PyData → Prop} (T : Tw K mg) (rec : Cal P w K mg base k "_law_is_value" (spLook K (fun d => .bl (f0 d)) C)) (hk : 2 ≤ k) :
    Cal P w K mg base (k + 1) "_law_is_value" (spLook K (fun d => .bl (isV1 f0 d)) fun d => ok 60 d ∧ kids C d) := by
  refine T.lis_value.cal f_law_is_value_sc (fun _ _ _ _ _ _ us hl => match us, hl with | [_], _ => rfl) (fun vs H Q E h => look_len h) (fun f cdv A outer s H vs Q E hr h => ?_)
  obtain ⟨v, d, rfl, hd, ⟨hok, hkids⟩, q⟩ := h
  refine ⟨_, (pss_cons (ps_if (pt_not (pt_val (pe_callB call_isiT rfl T.n_isinstance (by decide +kernel) (pa_cons (pv 0) (pa_cons (pe_tup (pa_cons (pe_bltn (v := .ty "tuple") (u := .type "tuple") rfl T.n_tuple (by decide +kernel) rfl) (pa_cons (pe_bltn (v := .ty "list") (u := .type "list") rfl T.n_list (by decide +kernel) rfl) pa_nil))) pa_nil))))) (pss_one (ps_ret (pe_and (pe_callB call_isi rfl T.n_isinstance (by decide +kernel) (pa_cons (pv 0) (pa_cons (pe_bltn (v := .ty "int") (u := .type "int") rfl T.n_int (by decide +kernel) rfl) pa_nil))) (pe_and (pe_not (pe_callB call_isi rfl T.n_isinstance (by decide +kernel) (pa_cons (pv 0) (pa_cons (pe_bltn (v := .ty "bool") (u := .type "bool") rfl T.n_bool (by decide +kernel) rfl) pa_nil)))) (pe_one (pe_cmpR op_lt (pe_callB call_abs rfl T.n_abs (by decide +kernel) (pa_cons (pv 0) pa_nil)) (pe_op op_pow pe_int pe_int) (nomark _))))))) pss_nil)
      (pss_cons (ps_set (i := 1) f_law_is_value_sc.nd rfl (Or.inl rfl) (pe_op op_add pe_int (pe_callTy call_int_b rfl T.n_int (by decide +kernel) (pa_cons (pe_cmpR (op_eqD hr.units) (pe_callTy call_list_of rfl T.n_list (by decide +kernel) (pa_cons (pe_slice (sl_list.or sl_tupA) (pv 0) po_none (po_some pe_int)) pa_nil)) (pe_lst (pa_cons pe_str pa_nil)) (nomark _)) pa_nil))))
      (pss_cons (ps_if (PW.pt (pw_or (pt_not (pt_chain op_le op_le (pv 1) (pe_callB call_len rfl T.n_len (by decide +kernel) (pa_cons (pv 0) pa_nil)) pe_int)) (pw_or1 (pt_not (pt_val (pe_c (cal_law_is_name T.toTy) hr (by omega) rfl (pa_cons (pe_ix ix_seq (pv 0) (pe_op op_sub (pv 1) pe_int) (fun _ _ => rfl)) pa_nil))))))) (pss_one (ps_ret pe_bl)) pss_nil)
      (pss_one (ps_ret (pe_callB (cr_all rfl) rfl T.n_all (by decide +kernel) (pa_cons (pe_lc (own := [("_law_part", 2)]) (g := gName 2) (tt := tYes) rfl f_law_is_value_sc.nd (pi_seq (pe_slice (sl_list.or sl_tupA) (pv 0) (po_some (pv 1)) po_none)) (blkOk_by (own := [("_law_part", 2)]) (N := f_law_is_value_N) (sc := defScope f_law_is_value_s) (by decide +kernel)) (fun _ _ _ _ _ => (pg_name (i := 2) f_law_is_value_sc.nd rfl (Or.inl rfl))) (fun _ _ _ _ _ => pts_nil) (fun _ _ _ _ _ => (pe_c rec hr (by omega) rfl (pa_cons (pv 2) pa_nil)))) pa_nil))))))), ?_⟩
  rw [show L2.start f_law_is_value_N [v] = [some v, none, none] from rfl]
  simp only [cxOf, Cx.nox, tSeq, C8.tCut, tAsg, tRet, tRetN, tIfS, tTest, tB, tAnd, tOr, tNot, tAndV, tOrV, tNotV, tIf, tOp, tUn, tCB, tCall, tCons, tNil, tC, tTup, tLst, tChain, tPar, tDrop, tNext, tSl, tPart, tNoPart, tBM, tBM0, tM1, tM0, tAug, ipI, gName, gSub, tVar, wipe, rI0, rI, rU, List.cons_append, List.nil_append, List.append_nil, List.set_cons_zero, List.set_cons_succ, List.getElem?_cons_zero, List.getElem?_cons_succ, Option.some.injEq, V.int.injEq, V.bl.injEq, V.str.injEq, V.ref.injEq, exists_and_left, exists_eq_left, if_true, if_false, Bool.not_true, Bool.not_false, Bool.false_eq_true, List.map_cons, List.map_nil, List.cons.injEq, and_true, true_and, exists_eq_left']
  refine ⟨by show 2 ≤ sizeLine; decide, fun p0 hp0 => isi_seq hd hp0 ⟨_, rfl, ite2 (fun e => ?_) (fun e => ?_)⟩⟩
  · have hd1 := hd.mono (same_new hp0 (.tup [V.ty "tuple", V.ty "list"]))
    have z := q _ (same_new hp0 (.tup [V.ty "tuple", V.ty "list"]))
    have hv : isV1 f0 d = sml d := by cases d <;> first | rfl | simp [isSeq] at e
    dsimp only at z
    rw [hv] at z
    refine isi_one hd1 (by simp) ⟨_, rfl, ite2 (fun e1 => ?_) (fun e1 => ?_)⟩
    · refine isi_one hd1 (by simp) ⟨_, rfl, ite2 (fun e2 => ?_) (fun e2 => ?_)⟩
      · cases hd with
        | int i =>
          refine ⟨i, rfl, ⟨by decide, by decide, by decide⟩, ?_⟩
          rw [sml_int] at z
          exact z
        | _ => simp [isT, isTn, tyN] at e1 e2
      · have : sml d = false := by cases d <;> first | rfl | simp [isT, isTn, tyN] at e1 e2
        rw [this] at z
        exact z
    · have : sml d = false := by cases d <;> first | rfl | simp [isT, isTn, tyN] at e1
      rw [this] at z
      exact z
  · have e' : isSeq d = true := by simpa using e
    obtain ⟨a, xs, ds, rfl, hq, ha, hd2⟩ := dp_seq hd e'
    have hl := dpa_len ha
    have hk2 : ds.length ≤ 9 ∧ (∀ e ∈ ds, ok 59 e) ∧ ∀ e ∈ ds, C e := by
      rcases hd2 with rfl | rfl <;> exact ⟨hok.1, hok.2, hkids⟩
    have hv : isV1 f0 d = rowV f0 ds := by rcases hd2 with rfl | rfl <;> rfl
    have q' : ∀ H', Same H H' → Q (.bl (rowV f0 ds)) H' := fun H' g => by
      have z := q _ g
      dsimp only at z
      rw [hv] at z
      exact z
    have g0 := same_new hp0 (.tup [V.ty "tuple", V.ty "list"])
    refine slice_upto (k := 1) (hq.mono g0) fun p1 H1 g1 hq1 => ⟨p1, rfl, _, hq1, fun p2 hp2 => ⟨by show 1 ≤ sizeLine; decide, fun p3 hp3 => ?_⟩⟩
    have g3 : Same H (upd (upd H1 p2 (.lst (xs.take 1))) p3 (.lst [V.str "close"])) := (g0.trans g1).trans ((same_new hp2 _).trans (same_new hp3 _))
    have ok1 : ok 60 (.list (ds.take 1)) := ⟨Nat.le_trans (List.length_take_le _ _) (by decide), fun e he => hk2.2.1 e (List.mem_of_mem_take he)⟩
    refine ⟨.list (ds.take 1), .list [.str "close"], .lst (SqL.of (same_new hp3 _ _ _ upd_same)) ((dpa_take 1 ha).mono g3), .lst (SqL.of upd_same) (.cons (.str _) .nil), ok_shaped ok1 (by decide), ok_shaped (n := 1) ⟨by decide, fun e he => by rw [List.mem_singleton.mp he]; exact ⟨by decide +kernel, by decide +kernel⟩⟩ (by decide), _, rfl, ?_⟩
    generalize upd (upd H1 p2 (.lst (xs.take 1))) p3 (.lst [V.str "close"]) = H3 at g3 ⊢
    refine ⟨xs.length, len_data (hq.mono g3), ?_⟩
    cases ha with
    | nil =>
      refine ite2 (fun h => ?_) (fun h => q' _ g3)
      have h' := of_decide_eq_true h
      simp [PyData.eqv, PyData.eqvAll] at h'
    | @cons x0 xr d0 dr hd0 hdr =>
      have hl' : xr.length = dr.length := dpa_len hdr
      have hcl : PyData.eqv (.list ((d0 :: dr).take 1)) (.list [.str "close"]) = isClose d0 := by
        show PyData.eqv (.list [d0]) _ = _
        simp [PyData.eqv, PyData.eqvAll, isClose]
      rw [hcl]
      have hx0 : (x0 :: xr) ≠ [] := by simp
      have mk : ∀ {b : Bool}, rowV f0 (d0 :: dr) = b → ∀ H', Same H H' → Q (.bl b) H' := fun e H' g => e ▸ q' H' g
      by_cases h7 : dr.length ≤ 6
      · have hrow : rowV f0 (d0 :: dr) = if isClose d0 = true then closeV f0 dr else isNm d0 && dr.all f0 := by
          show (decide (dr.length ≤ 6) && _) = _
          rw [decide_eq_true h7, Bool.true_and]
        have h8 : (((x0 :: xr).length : Nat) : Int) ≤ 7 := by simp; omega
        cases hc : isClose d0 with
        | true =>
          rw [hc, if_pos rfl] at hrow
          refine ite2 (fun h => ?_) (fun h => ?_)
          · have h' := of_decide_eq_true h
            refine ite2 (fun h2 => ?_) (fun h2 => ?_)
            · simp at h2 h8
              omega
            · cases hdr with
              | nil => simp at h'
              | @cons x1 xs1 d1 dr1 hd1 hdr1 =>
                refine ix_data (hq.mono g3) (show atI (x0 :: x1 :: xs1) 1 = some x1 from atI_nat (j := 1) rfl) ?_
                refine ⟨x1, d1, rfl, hd1.mono g3, ⟨59, hk2.2.1 d1 (by simp)⟩, fun H4 g4 => ⟨_, rfl, ite2 (fun hn => ?_) (fun hn => ?_)⟩⟩
                · refine mk ?_ _ (g3.trans g4)
                  rw [hrow]
                  show (isNm d1 && _) = false
                  rw [show isNm d1 = false by simpa using hn, Bool.false_and]
                · have hn' : isNm d1 = true := by simpa using hn
                  refine all_rest (ds := d0 :: d1 :: dr1) (k := 2) (fun _ _ h => ⟨_, rfl, h⟩) rfl (by simp) ((hq.mono g3).mono g4) ((DpAll.cons hd0 (.cons hd1 hdr1)).mono (g3.trans g4)) hx0 (by decide) hk2.1 (fun e he => hk2.2.2 e (List.mem_of_mem_drop he)) fun H5 g5 => ?_
                  refine mk ?_ _ ((g3.trans g4).trans g5)
                  rw [hrow]
                  show (isNm d1 && _) = _
                  rw [hn', Bool.true_and]
                  rfl
          · have h' : ¬ (1 + 1 : Int) ≤ _ := fun z => h (decide_eq_true z)
            refine mk ?_ _ g3
            cases hdr with
            | nil => exact hrow
            | cons _ _ => simp at h'; omega
        | false =>
          rw [hc, if_neg Bool.false_ne_true] at hrow
          refine ite2 (fun h => ?_) (fun h => ?_)
          · refine ite2 (fun h2 => ?_) (fun h2 => ?_)
            · simp at h2 h8
              omega
            · refine ix_data (hq.mono g3) (show atI (x0 :: xr) 0 = some x0 from atI_nat (j := 0) rfl) ?_
              refine ⟨x0, d0, rfl, hd0.mono g3, ⟨59, hk2.2.1 d0 (by simp)⟩, fun H4 g4 => ⟨_, rfl, ite2 (fun hn => ?_) (fun hn => ?_)⟩⟩
              · refine mk ?_ _ (g3.trans g4)
                rw [hrow, show isNm d0 = false by simpa using hn, Bool.false_and]
              · refine all_rest (ds := d0 :: dr) (k := 1) (fun _ _ h => ⟨_, rfl, h⟩) rfl (by simp) ((hq.mono g3).mono g4) ((DpAll.cons hd0 hdr).mono (g3.trans g4)) hx0 (by decide) hk2.1 (fun e he => hk2.2.2 e (List.mem_of_mem_drop he)) fun H5 g5 => ?_
                refine mk ?_ _ ((g3.trans g4).trans g5)
                rw [hrow, show isNm d0 = true by simpa using hn, Bool.true_and]
                rfl
          · have h' : ¬ (1 + 0 : Int) ≤ _ := fun z => h (decide_eq_true z)
            simp at h'
            omega
      · have hrow : rowV f0 (d0 :: dr) = false := by
          show (decide (dr.length ≤ 6) && _) = _
          rw [decide_eq_false h7, Bool.false_and]
        refine ite2 (fun h => ite2 (fun h2 => mk hrow _ g3) (fun h2 => ?_)) (fun h => mk hrow _ g3)
        simp at h2
        omega
theorem lis_b : ∀ (kV doc pm : Value) (an : Option Addr) (cdv ct : Value) (us : List Value), us.length = f_law_is_value_P.length → bindArgs (PySem.W.fnOf "_law_is_value" "_law_is_value" (defArgs f_law_is_value_s) (defBody f_law_is_value_s) (defScope f_law_is_value_s) .none kV doc pm an cdv ct) ⟨us, []⟩ = pure (f_law_is_value_P.zip us) :=
  fun _ _ _ _ _ _ us hl => match us, hl with | [_], _ => rfl
theorem cal_law_is_value (T : Tw K mg) : ∀ n, n ≤ 60 → Cal P w K mg base (n + 3) "_law_is_value" (spLook K (fun d => .bl (isV n d)) (ok n))
  | 0, _ => by
    have rc : Cal P w K mg base 2 "_law_is_value" (spLook K (fun d => .bl ((fun _ => false) d)) fun _ => False) := T.lis_value.zero lis_b fun vs H Q E h => by
      obtain ⟨_, _, _, _, h, _⟩ := h
      exact h
    refine (lis_step T rc (by decide)).imp fun vs H Q E h => ?_
    obtain ⟨v, d, rfl, hd, ho, q⟩ := h
    refine ⟨v, d, rfl, hd, ⟨ok_le (by decide) ho, ?_⟩, fun H' g => ?_⟩
    · cases d <;> first | trivial | exact ho.elim
    · have z := q H' g
      dsimp only at z
      rw [isV_eq 0 d ho] at z
      exact z
  | n + 1, hn => by
    refine (lis_step T (cal_law_is_value T n (by omega)) (by omega)).imp fun vs H Q E h => ?_
    obtain ⟨v, d, rfl, hd, ho, q⟩ := h
    refine ⟨v, d, rfl, hd, ⟨ok_le hn ho, ?_⟩, fun H' g => ?_⟩
    · cases d <;> first | trivial | exact ho.2
    · have z := q H' g
      dsimp only at z
      rw [isV_eq (n + 1) d ho] at z
      exact z
end
end Rm

set_option Elab.async false
set_option linter.all false
set_option maxRecDepth 100000
set_option maxHeartbeats 4000000
namespace Rm
open PySem PySem.Spec PyProof.Rows L2
section
variable {P : Program} {w : World} {K : PySem.W.Frag} {mg : Str → Option Value} {base : Heap}
def odd2 (K : PySem.W.Frag) (H : Hp) (x : V) : Prop := ∃ d, Dp K H x d ∧ ok 2 d
theorem odd2_mono {H H' : Hp} {x : V} (g : Same H H') (h : odd2 K H x) : odd2 K H' x := by
  obtain ⟨d, h1, h2⟩ := h
  exact ⟨d, h1.mono g, h2⟩
def strB (x : Str) : Bool := decide (x.length ≤ 9) && x.cps.toList.all fun c => decide (c < 128)
theorem strA {n : Nat} {x : Str} (h : strB x = true) : ok n (.str x) := by
  unfold strB at h
  simp only [Bool.and_eq_true, decide_eq_true_eq, List.all_eq_true] at h
  exact ok_atom h
theorem intA {n : Nat} {i : Int} (h : i.natAbs ≤ 1000) : ok n (.int i) := ok_atom (show i.natAbs ≤ 10 ^ 30 from Nat.le_trans h (by decide))
theorem one {n : Nat} {a : PyData} (h : ok n a) : ok (n + 1) (.tuple [a]) := ⟨by simp, fun e he => by rw [List.mem_singleton.mp he]; exact h⟩
theorem two {n : Nat} {a b : PyData} (h : ok n a) (h' : ok n b) : ok (n + 1) (.tuple [a, b]) := ⟨by simp, fun e he => by
  simp only [List.mem_cons, List.not_mem_nil, or_false] at he
  rcases he with rfl | rfl
  · exact h
  · exact h'⟩
def spBent (K : PySem.W.Frag) (n : Nat) : Sp := fun vs H Q _ => ∃ (Z : List Addr) (st sl : Addr) (c : Nat) (v : V) (d0 : PyData), vs = [.ref st, v] ∧ Sk st sl c H ∧ Liv Z st sl H ∧ c + 5 * n + 5 < 900000 ∧ Dp K (hid Z H) v d0 ∧ okn n d0 ∧
  ∀ (v : V) (d : PyData) (H' : Hp) (c' : Nat), Dp K (hid Z H') v d → ok (n + 2) d → wt d ≤ wt d0 + 9280 → Sk st sl c' H' → c' ≤ c + 5 * n + 5 → Keep st sl H H' → Q v H'
theorem resv_B : ∀ x ∈ resv, strB x = true := by
  have : resv.all strB = true := by decide +kernel
  exact List.all_eq_true.mp this
structure Jb (K : PySem.W.Frag) (Z : List Addr) (st sl : Addr) (H0 : Hp) (p : Addr) (vs : List V) (c : Nat) (H : Hp) : Prop where
  sk : Sk st sl c H
  lv : Liv Z st sl H
  np : p ∉ Z
  ep : H p = some (.lst vs)
  rs : ∀ x ∈ vs, odd2 K (hid Z H) x
  kp : Keep st sl H0 H
theorem Jb.same {Z : List Addr} {st sl p : Addr} {H0 H H' : Hp} {vs : List V} {c : Nat} (j : Jb K Z st sl H0 p vs c H) (g : Same H H') : Jb K Z st sl H0 p vs c H' :=
  ⟨j.sk.same g, j.lv.same g, j.np, g _ _ j.ep, fun x hx => odd2_mono (hid_mono g) (j.rs x hx), j.kp.trans (.same g)⟩
theorem Jb.keep {Z : List Addr} {st sl p : Addr} {H0 H H' : Hp} {vs : List V} {c c' : Nat} (j : Jb K Z st sl H0 p vs c H) (k : Keep st sl H H') (s : Sk st sl c' H') : Jb K Z st sl H0 p vs c' H' :=
  ⟨s, j.lv.keep k s, j.np, k _ _ (fun e => j.np (by rw [e]; exact j.lv.st)) (fun e => j.np (by rw [e]; exact j.lv.sl)) j.ep, fun x hx => odd2_mono (k.hid j.lv.st j.lv.sl) (j.rs x hx), j.kp.trans k⟩
theorem Jb.items {Z : List Addr} {st sl p : Addr} {H0 H : Hp} {vs : List V} {c : Nat} (j : Jb K Z st sl H0 p vs c H) : Items K (hid [st, sl] H) (.ref p) vs := by
  refine .inl ⟨p, rfl, .inl (SqL.of ?_)⟩
  rw [hid_ne fun h => ?_]
  · exact j.ep
  · simp only [List.mem_cons, List.not_mem_nil, or_false] at h
    rcases h with rfl | rfl
    · exact j.np j.lv.st
    · exact j.np j.lv.sl
theorem bent_step {k n : Nat} (T : Tw K mg) (rec : Cal P w K mg base k "_law_bent" fun vs H Q E => n ≠ 0 ∧ spBent K (n - 1) vs H Q E) (hk : 3 ≤ k) : Cal P w K mg base (k + 1) "_law_bent" (spBent K n) := by
  refine T.bent.cal f_law_bent_sc (fun _ _ _ _ _ _ us hl => match us, hl with | [_, _], _ => rfl) (fun vs H Q E h => ?_) (fun f cdv A outer s H vs Q E hr h => ?_)
  · obtain ⟨Z, st, sl, c, v, d, rfl, _⟩ := h
    rfl
  obtain ⟨Z, st, sl, c, v, d, rfl, hk, lv, hc, hd, ho, q⟩ := h
  refine ⟨_, (pss_cons (ps_set (i := 2) f_law_bent_sc.nd rfl (Or.inl rfl) (pe_lst (pa_cons (pe_op op_pow pe_int pe_int) (pa_cons (pe_op op_sub pe_int (pe_op op_pow pe_int pe_int)) (pa_cons pe_bl (pa_cons pe_non (pa_cons pe_str (pa_cons pe_str (pa_cons (pe_tup pa_nil) (pa_cons (pe_lst pa_nil) (pa_cons (pe_tup (pa_cons pe_str (pa_cons pe_int pa_nil))) (pa_cons (pe_tup (pa_cons pe_str (pa_cons pe_int pa_nil))) (pa_cons (pe_tup (pa_cons pe_str pa_nil)) (pa_cons (pe_tup (pa_cons pe_str (pa_cons pe_int pa_nil))) pa_nil))))))))))))))
      (pss_cons (ps_set (i := 2) f_law_bent_sc.nd rfl (Or.inl rfl) (pe_op op_cat (pv 2) (pe_lst (pa_cons (pe_tup (pa_cons (pe_op op_mul_str pe_str pe_int) pa_nil)) (pa_cons (pe_op op_catA (pe_tup (pa_cons pe_str pa_nil)) (pe_op op_repT (pe_tup (pa_cons pe_int pa_nil)) pe_int)) (pa_cons (pe_op op_catA (pe_tup (pa_cons pe_str (pa_cons pe_str pa_nil))) (pe_op op_repT (pe_tup (pa_cons pe_int pa_nil)) pe_int)) (pa_cons (pe_tup (pa_cons pe_int (pa_cons pe_int pa_nil))) (pa_cons (pe_tup (pa_cons (pe_tup (pa_cons pe_str pa_nil)) pa_nil)) (pa_cons (pe_tup (pa_cons pe_str pa_nil)) pa_nil)))))))))
      (pss_cons (ps_par (i := 3) (j := 4) (by rfl) f_law_bent_sc.nd rfl rfl (by decide) rfl rfl (pa_cons (pe_c (cal_law_pick T.toTy) hr (by omega) rfl (pa_cons (pv 0) (pa_cons (pe_c0 (cal_law_reserved T.toTy) hr (by omega) rfl) pa_nil))) (pa_cons (pe_c (cal_law_pick T.toTy) hr (by omega) rfl (pa_cons (pv 0) (pa_cons (pe_c0 (cal_law_reserved T.toTy) hr (by omega) rfl) pa_nil))) pa_nil)) (by rfl))
      (pss_cons (ps_set (i := 2) f_law_bent_sc.nd rfl (Or.inl rfl) (pe_op op_cat (pv 2) (pe_lst (pa_cons (pe_tup (pa_cons pe_str (pa_cons pe_str (pa_cons pe_int pa_nil)))) (pa_cons (pe_tup (pa_cons (pv 3) (pa_cons pe_int pa_nil))) (pa_cons (pe_tup (pa_cons pe_str (pa_cons (pv 4) pa_nil))) pa_nil))))))
      (pss_cons (ps_if (PW.pt (pw_or (pt_not (pt_val (pe_callB call_isiT rfl T.n_isinstance (by decide +kernel) (pa_cons (pv 1) (pa_cons (pe_tup (pa_cons (pe_bltn (v := .ty "tuple") (u := .type "tuple") rfl T.n_tuple (by decide +kernel) rfl) (pa_cons (pe_bltn (v := .ty "list") (u := .type "list") rfl T.n_list (by decide +kernel) rfl) pa_nil))) pa_nil))))) (pw_or1 (pt_cmpR op_eq (pe_c (cal_draw T.toTy) hr (by omega) rfl (pa_cons (pv 0) (pa_cons pe_int pa_nil))) pe_int (nomark _))))) (pss_one (ps_ret (pe_c (cal_law_pick T.toTy) hr (by omega) rfl (pa_cons (pv 0) (pa_cons (pv 2) pa_nil))))) pss_nil)
      (pss_cons (ps_set (i := 5) f_law_bent_sc.nd rfl (Or.inl rfl) (pe_c (cal_draw T.toTy) hr (by omega) rfl (pa_cons (pv 0) (pa_cons (pe_callB call_len rfl T.n_len (by decide +kernel) (pa_cons (pv 1) pa_nil)) pa_nil))))
      (pss_cons (ps_set (i := 6) f_law_bent_sc.nd rfl (Or.inl rfl) (pe_callTy call_list_of rfl T.n_list (by decide +kernel) (pa_cons (pv 1) pa_nil)))
      (pss_cons (ps_asg (pe_c rec hr (by omega) rfl (pa_cons (pv 0) (pa_cons (pe_ix ix_list (pv 6) (pv 5) (fun _ _ => rfl)) pa_nil))) (pg_sub (pv 6) (pv 5) set_list))
      (pss_one (ps_ret (pe_ix ix_list (pe_lst (pa_cons (pv 6) (pa_cons (pe_callTy call_tuple_of rfl T.n_tuple (by decide +kernel) (pa_cons (pv 6) pa_nil)) pa_nil))) (pe_callTy call_int_b rfl T.n_int (by decide +kernel) (pa_cons (pe_callB call_isi rfl T.n_isinstance (by decide +kernel) (pa_cons (pv 1) (pa_cons (pe_bltn (v := .ty "tuple") (u := .type "tuple") rfl T.n_tuple (by decide +kernel) rfl) pa_nil))) pa_nil)) (fun _ _ => rfl)))))))))))), ?_⟩
  rw [show L2.start f_law_bent_N [.ref st, v] = [some (.ref st), some v, none, none, none, none, none] from rfl]
  simp only [cxOf, Cx.nox, tSeq, C8.tCut, tAsg, tRet, tRetN, tIfS, tTest, tB, tAnd, tOr, tNot, tAndV, tOrV, tNotV, tIf, tOp, tUn, tCB, tCall, tCons, tNil, tC, tTup, tLst, tChain, tPar, tDrop, tNext, tSl, tPart, tNoPart, tBM, tBM0, tM1, tM0, tAug, ipI, gName, gSub, tVar, wipe, rI0, rI, rU, List.cons_append, List.nil_append, List.append_nil, List.set_cons_zero, List.set_cons_succ, List.getElem?_cons_zero, List.getElem?_cons_succ, Option.some.injEq, V.int.injEq, V.bl.injEq, V.str.injEq, V.ref.injEq, exists_and_left, exists_eq_left, if_true, if_false, Bool.not_true, Bool.not_false, Bool.false_eq_true, List.map_cons, List.map_nil, List.cons.injEq, and_true, true_and, exists_eq_left']
  have lv0 := lv
  have gg := Same.refl H
  refine ⟨⟨by decide, by decide, by decide⟩, ⟨by decide, by decide, by decide⟩, ?_⟩
  refine ⟨small (by simp), fun p0 hp0 => ?_⟩
  have gp0 := same_new hp0 (HO.tup [])
  have dp0 : Dp K (hid Z (upd H p0 (HO.tup []))) (.ref p0) (.tuple []) := row_T upd_same (lv.out hp0) (.nil)
  have gp0' := gp0
  have np0 : p0 ∉ Z := lv.out hp0
  have ep0 : upd H p0 (HO.tup []) p0 = some (HO.tup []) := upd_same
  have kp0 := hk.new (o := HO.tup []) hp0
  have lp0 := lv.same gp0
  have Gp0 := gg.trans gp0
  generalize upd H p0 (HO.tup []) = H1 at *
  have gg := Gp0; have hk := kp0; have lv := lp0; clear Gp0 kp0 lp0
  refine ⟨small (by simp), fun p1 hp1 => ?_⟩
  have gp1 := same_new hp1 (HO.lst [])
  have dp1 : Dp K (hid Z (upd H1 p1 (HO.lst []))) (.ref p1) (.list []) := row_L upd_same (lv.out hp1) (.nil)
  have gp1' := gp1
  have np1 : p1 ∉ Z := lv.out hp1
  have ep1 : upd H1 p1 (HO.lst []) p1 = some (HO.lst []) := upd_same
  have kp1 := hk.new (o := HO.lst []) hp1
  have lp1 := lv.same gp1
  have Gp1 := gg.trans gp1
  have dp0 := dp0.mono (hid_mono gp1)
  generalize upd H1 p1 (HO.lst []) = H2 at *
  have gg := Gp1; have hk := kp1; have lv := lp1; clear Gp1 kp1 lp1
  refine ⟨small (by simp), fun p2 hp2 => ?_⟩
  have gp2 := same_new hp2 (HO.tup [V.str "Cons", V.int 1])
  have dp2 : Dp K (hid Z (upd H2 p2 (HO.tup [V.str "Cons", V.int 1]))) (.ref p2) (.tuple [.str "Cons", .int 1]) := row_T upd_same (lv.out hp2) (.cons (.str _) (.cons (.int _) .nil))
  have gp2' := gp2
  have np2 : p2 ∉ Z := lv.out hp2
  have ep2 : upd H2 p2 (HO.tup [V.str "Cons", V.int 1]) p2 = some (HO.tup [V.str "Cons", V.int 1]) := upd_same
  have kp2 := hk.new (o := HO.tup [V.str "Cons", V.int 1]) hp2
  have lp2 := lv.same gp2
  have Gp2 := gg.trans gp2
  have dp0 := dp0.mono (hid_mono gp2)
  have dp1 := dp1.mono (hid_mono gp2)
  generalize upd H2 p2 (HO.tup [V.str "Cons", V.int 1]) = H3 at *
  have gg := Gp2; have hk := kp2; have lv := lp2; clear Gp2 kp2 lp2
  refine ⟨small (by simp), fun p3 hp3 => ?_⟩
  have gp3 := same_new hp3 (HO.tup [V.str "own", V.int 1])
  have dp3 : Dp K (hid Z (upd H3 p3 (HO.tup [V.str "own", V.int 1]))) (.ref p3) (.tuple [.str "own", .int 1]) := row_T upd_same (lv.out hp3) (.cons (.str _) (.cons (.int _) .nil))
  have gp3' := gp3
  have np3 : p3 ∉ Z := lv.out hp3
  have ep3 : upd H3 p3 (HO.tup [V.str "own", V.int 1]) p3 = some (HO.tup [V.str "own", V.int 1]) := upd_same
  have kp3 := hk.new (o := HO.tup [V.str "own", V.int 1]) hp3
  have lp3 := lv.same gp3
  have Gp3 := gg.trans gp3
  have dp0 := dp0.mono (hid_mono gp3)
  have dp1 := dp1.mono (hid_mono gp3)
  have dp2 := dp2.mono (hid_mono gp3)
  generalize upd H3 p3 (HO.tup [V.str "own", V.int 1]) = H4 at *
  have gg := Gp3; have hk := kp3; have lv := lp3; clear Gp3 kp3 lp3
  refine ⟨small (by simp), fun p4 hp4 => ?_⟩
  have gp4 := same_new hp4 (HO.tup [V.str "close"])
  have dp4 : Dp K (hid Z (upd H4 p4 (HO.tup [V.str "close"]))) (.ref p4) (.tuple [.str "close"]) := row_T upd_same (lv.out hp4) (.cons (.str _) .nil)
  have gp4' := gp4
  have np4 : p4 ∉ Z := lv.out hp4
  have ep4 : upd H4 p4 (HO.tup [V.str "close"]) p4 = some (HO.tup [V.str "close"]) := upd_same
  have kp4 := hk.new (o := HO.tup [V.str "close"]) hp4
  have lp4 := lv.same gp4
  have Gp4 := gg.trans gp4
  have dp0 := dp0.mono (hid_mono gp4)
  have dp1 := dp1.mono (hid_mono gp4)
  have dp2 := dp2.mono (hid_mono gp4)
  have dp3 := dp3.mono (hid_mono gp4)
  generalize upd H4 p4 (HO.tup [V.str "close"]) = H5 at *
  have gg := Gp4; have hk := kp4; have lv := lp4; clear Gp4 kp4 lp4
  refine ⟨small (by simp), fun p5 hp5 => ?_⟩
  have gp5 := same_new hp5 (HO.tup [V.str "close", V.int 1])
  have dp5 : Dp K (hid Z (upd H5 p5 (HO.tup [V.str "close", V.int 1]))) (.ref p5) (.tuple [.str "close", .int 1]) := row_T upd_same (lv.out hp5) (.cons (.str _) (.cons (.int _) .nil))
  have gp5' := gp5
  have np5 : p5 ∉ Z := lv.out hp5
  have ep5 : upd H5 p5 (HO.tup [V.str "close", V.int 1]) p5 = some (HO.tup [V.str "close", V.int 1]) := upd_same
  have kp5 := hk.new (o := HO.tup [V.str "close", V.int 1]) hp5
  have lp5 := lv.same gp5
  have Gp5 := gg.trans gp5
  have dp0 := dp0.mono (hid_mono gp5)
  have dp1 := dp1.mono (hid_mono gp5)
  have dp2 := dp2.mono (hid_mono gp5)
  have dp3 := dp3.mono (hid_mono gp5)
  have dp4 := dp4.mono (hid_mono gp5)
  generalize upd H5 p5 (HO.tup [V.str "close", V.int 1]) = H6 at *
  have gg := Gp5; have hk := kp5; have lv := lp5; clear Gp5 kp5 lp5
  have r6 : ∀ x ∈ [V.int (10 ^ Int.toNat 30), V.int (0 - 10 ^ Int.toNat 30), V.bl true, V.non, V.str "", V.str "x", V.ref p0, V.ref p1, V.ref p2, V.ref p3, V.ref p4, V.ref p5], odd2 K (hid Z H6) x := by
    intro x hx
    simp only [List.mem_cons, List.not_mem_nil, or_false] at hx
    rcases hx with rfl | rfl | rfl | rfl | rfl | rfl | rfl | rfl | rfl | rfl | rfl | rfl
    · exact ⟨_, .int _, ok_atom (show Int.natAbs _ ≤ 10 ^ 30 by decide +kernel)⟩
    · exact ⟨_, .int _, ok_atom (show Int.natAbs _ ≤ 10 ^ 30 by decide +kernel)⟩
    · exact ⟨_, .bl _, trivial⟩
    · exact ⟨_, .non, trivial⟩
    · exact ⟨_, .str _, strA (by decide +kernel)⟩
    · exact ⟨_, .str _, strA (by decide +kernel)⟩
    · exact ⟨_, dp0, ⟨by decide, fun _ h => nomatch h⟩⟩
    · exact ⟨_, dp1, ⟨by decide, fun _ h => nomatch h⟩⟩
    · exact ⟨_, dp2, two (strA (by decide +kernel)) (intA (by decide))⟩
    · exact ⟨_, dp3, two (strA (by decide +kernel)) (intA (by decide))⟩
    · exact ⟨_, dp4, one (strA (by decide +kernel))⟩
    · exact ⟨_, dp5, two (strA (by decide +kernel)) (intA (by decide))⟩
  clear dp0 dp1 dp2 dp3 dp4 dp5
  refine ⟨small (by simp), fun p6 hp6 => ?_⟩
  have gp6 := same_new hp6 (HO.lst [V.int (10 ^ Int.toNat 30), V.int (0 - 10 ^ Int.toNat 30), V.bl true, V.non, V.str "", V.str "x", V.ref p0, V.ref p1, V.ref p2, V.ref p3, V.ref p4, V.ref p5])
  have gp6' := gp6
  have np6 : p6 ∉ Z := lv.out hp6
  have ep6 : upd H6 p6 (HO.lst [V.int (10 ^ Int.toNat 30), V.int (0 - 10 ^ Int.toNat 30), V.bl true, V.non, V.str "", V.str "x", V.ref p0, V.ref p1, V.ref p2, V.ref p3, V.ref p4, V.ref p5]) p6 = some (HO.lst [V.int (10 ^ Int.toNat 30), V.int (0 - 10 ^ Int.toNat 30), V.bl true, V.non, V.str "", V.str "x", V.ref p0, V.ref p1, V.ref p2, V.ref p3, V.ref p4, V.ref p5]) := upd_same
  have kp6 := hk.new (o := HO.lst [V.int (10 ^ Int.toNat 30), V.int (0 - 10 ^ Int.toNat 30), V.bl true, V.non, V.str "", V.str "x", V.ref p0, V.ref p1, V.ref p2, V.ref p3, V.ref p4, V.ref p5]) hp6
  have lp6 := lv.same gp6
  have Gp6 := gg.trans gp6
  generalize upd H6 p6 (HO.lst [V.int (10 ^ Int.toNat 30), V.int (0 - 10 ^ Int.toNat 30), V.bl true, V.non, V.str "", V.str "x", V.ref p0, V.ref p1, V.ref p2, V.ref p3, V.ref p4, V.ref p5]) = H7 at *
  have gg := Gp6; have hk := kp6; have lv := lp6; clear Gp6 kp6 lp6
  replace r6 := fun x hx => odd2_mono (hid_mono gp6') (r6 x hx)
  have l6 : ([V.int (10 ^ Int.toNat 30), V.int (0 - 10 ^ Int.toNat 30), V.bl true, V.non, V.str "", V.str "x", V.ref p0, V.ref p1, V.ref p2, V.ref p3, V.ref p4, V.ref p5] : List V).length ≤ 12 := by simp
  generalize ([V.int (10 ^ Int.toNat 30), V.int (0 - 10 ^ Int.toNat 30), V.bl true, V.non, V.str "", V.str "x", V.ref p0, V.ref p1, V.ref p2, V.ref p3, V.ref p4, V.ref p5] : List V) = vs6 at ep6 r6 l6
  refine ⟨by decide, by decide, by decide +kernel, small (by simp), fun p7 hp7 => ?_⟩
  have gp7 := same_new hp7 (HO.tup [V.str (Txt.mul "a" 9)])
  have dp7 : Dp K (hid Z (upd H7 p7 (HO.tup [V.str (Txt.mul "a" 9)]))) (.ref p7) (.tuple [.str (Txt.mul "a" 9)]) := row_T upd_same (lv.out hp7) (.cons (.str _) .nil)
  have gp7' := gp7
  have np7 : p7 ∉ Z := lv.out hp7
  have ep7 : upd H7 p7 (HO.tup [V.str (Txt.mul "a" 9)]) p7 = some (HO.tup [V.str (Txt.mul "a" 9)]) := upd_same
  have kp7 := hk.new (o := HO.tup [V.str (Txt.mul "a" 9)]) hp7
  have lp7 := lv.same gp7
  have Gp7 := gg.trans gp7
  have ep6 := gp7 _ _ ep6
  generalize upd H7 p7 (HO.tup [V.str (Txt.mul "a" 9)]) = H8 at *
  have gg := Gp7; have hk := kp7; have lv := lp7; clear Gp7 kp7 lp7
  refine ⟨small (by simp), fun p8 hp8 => ?_⟩
  have gp8 := same_new hp8 (HO.tup [V.str "cons"])
  have gp8' := gp8
  have np8 : p8 ∉ Z := lv.out hp8
  have ep8 : upd H8 p8 (HO.tup [V.str "cons"]) p8 = some (HO.tup [V.str "cons"]) := upd_same
  have kp8 := hk.new (o := HO.tup [V.str "cons"]) hp8
  have lp8 := lv.same gp8
  have Gp8 := gg.trans gp8
  have ep6 := gp8 _ _ ep6
  have dp7 := dp7.mono (hid_mono gp8)
  generalize upd H8 p8 (HO.tup [V.str "cons"]) = H9 at *
  have gg := Gp8; have hk := kp8; have lv := lp8; clear Gp8 kp8 lp8
  refine ⟨small (by simp), fun p9 hp9 => ?_⟩
  have gp9 := same_new hp9 (HO.tup [V.int 0])
  have gp9' := gp9
  have np9 : p9 ∉ Z := lv.out hp9
  have ep9 : upd H9 p9 (HO.tup [V.int 0]) p9 = some (HO.tup [V.int 0]) := upd_same
  have kp9 := hk.new (o := HO.tup [V.int 0]) hp9
  have lp9 := lv.same gp9
  have Gp9 := gg.trans gp9
  have ep6 := gp9 _ _ ep6
  have dp7 := dp7.mono (hid_mono gp9)
  have ep8 := gp9 _ _ ep8
  generalize upd H9 p9 (HO.tup [V.int 0]) = H10 at *
  have gg := Gp9; have hk := kp9; have lv := lp9; clear Gp9 kp9 lp9
  refine ⟨p9, 7, _, rfl, rfl, SqT.of ep9, by simp, by decide, by decide, by simp, fun p10 hp10 => ?_⟩
  have gp10 := same_new hp10 (HO.tup (List.replicate (Int.toNat 7) [V.int 0]).flatten)
  have gp10' := gp10
  have np10 : p10 ∉ Z := lv.out hp10
  have ep10 : upd H10 p10 (HO.tup (List.replicate (Int.toNat 7) [V.int 0]).flatten) p10 = some (HO.tup (List.replicate (Int.toNat 7) [V.int 0]).flatten) := upd_same
  have kp10 := hk.new (o := HO.tup (List.replicate (Int.toNat 7) [V.int 0]).flatten) hp10
  have lp10 := lv.same gp10
  have Gp10 := gg.trans gp10
  have ep6 := gp10 _ _ ep6
  have dp7 := dp7.mono (hid_mono gp10)
  have ep8 := gp10 _ _ ep8
  generalize upd H10 p10 (HO.tup (List.replicate (Int.toNat 7) [V.int 0]).flatten) = H11 at *
  have gg := Gp10; have hk := kp10; have lv := lp10; clear Gp10 kp10 lp10
  refine ⟨p8, p10, _, _, rfl, rfl, SqT.of ep8, SqT.of ep10, small (by decide +kernel), fun z => absurd z (by simp), fun _ z => absurd z (by decide +kernel), fun _ _ p11 hp11 => ?_⟩
  have gp11 := same_new hp11 (HO.tup ([V.str "cons"] ++ (List.replicate (Int.toNat 7) [V.int 0]).flatten))
  have dp11 : Dp K (hid Z (upd H11 p11 (HO.tup ([V.str "cons"] ++ (List.replicate (Int.toNat 7) [V.int 0]).flatten)))) (.ref p11) (.tuple (.str "cons" :: List.replicate 7 (.int 0))) := row_T upd_same (lv.out hp11) (.cons (.str _) (.cons (.int _) (.cons (.int _) (.cons (.int _) (.cons (.int _) (.cons (.int _) (.cons (.int _) (.cons (.int _) .nil))))))))
  have gp11' := gp11
  have np11 : p11 ∉ Z := lv.out hp11
  have ep11 : upd H11 p11 (HO.tup ([V.str "cons"] ++ (List.replicate (Int.toNat 7) [V.int 0]).flatten)) p11 = some (HO.tup ([V.str "cons"] ++ (List.replicate (Int.toNat 7) [V.int 0]).flatten)) := upd_same
  have kp11 := hk.new (o := HO.tup ([V.str "cons"] ++ (List.replicate (Int.toNat 7) [V.int 0]).flatten)) hp11
  have lp11 := lv.same gp11
  have Gp11 := gg.trans gp11
  have ep6 := gp11 _ _ ep6
  have dp7 := dp7.mono (hid_mono gp11)
  generalize upd H11 p11 (HO.tup ([V.str "cons"] ++ (List.replicate (Int.toNat 7) [V.int 0]).flatten)) = H12 at *
  have gg := Gp11; have hk := kp11; have lv := lp11; clear Gp11 kp11 lp11
  refine ⟨small (by simp), fun p12 hp12 => ?_⟩
  have gp12 := same_new hp12 (HO.tup [V.str "close", V.str "f"])
  have gp12' := gp12
  have np12 : p12 ∉ Z := lv.out hp12
  have ep12 : upd H12 p12 (HO.tup [V.str "close", V.str "f"]) p12 = some (HO.tup [V.str "close", V.str "f"]) := upd_same
  have kp12 := hk.new (o := HO.tup [V.str "close", V.str "f"]) hp12
  have lp12 := lv.same gp12
  have Gp12 := gg.trans gp12
  have ep6 := gp12 _ _ ep6
  have dp7 := dp7.mono (hid_mono gp12)
  have dp11 := dp11.mono (hid_mono gp12)
  generalize upd H12 p12 (HO.tup [V.str "close", V.str "f"]) = H13 at *
  have gg := Gp12; have hk := kp12; have lv := lp12; clear Gp12 kp12 lp12
  refine ⟨small (by simp), fun p13 hp13 => ?_⟩
  have gp13 := same_new hp13 (HO.tup [V.int 0])
  have gp13' := gp13
  have np13 : p13 ∉ Z := lv.out hp13
  have ep13 : upd H13 p13 (HO.tup [V.int 0]) p13 = some (HO.tup [V.int 0]) := upd_same
  have kp13 := hk.new (o := HO.tup [V.int 0]) hp13
  have lp13 := lv.same gp13
  have Gp13 := gg.trans gp13
  have ep6 := gp13 _ _ ep6
  have dp7 := dp7.mono (hid_mono gp13)
  have dp11 := dp11.mono (hid_mono gp13)
  have ep12 := gp13 _ _ ep12
  generalize upd H13 p13 (HO.tup [V.int 0]) = H14 at *
  have gg := Gp13; have hk := kp13; have lv := lp13; clear Gp13 kp13 lp13
  refine ⟨p13, 6, _, rfl, rfl, SqT.of ep13, by simp, by decide, by decide, by simp, fun p14 hp14 => ?_⟩
  have gp14 := same_new hp14 (HO.tup (List.replicate (Int.toNat 6) [V.int 0]).flatten)
  have gp14' := gp14
  have np14 : p14 ∉ Z := lv.out hp14
  have ep14 : upd H14 p14 (HO.tup (List.replicate (Int.toNat 6) [V.int 0]).flatten) p14 = some (HO.tup (List.replicate (Int.toNat 6) [V.int 0]).flatten) := upd_same
  have kp14 := hk.new (o := HO.tup (List.replicate (Int.toNat 6) [V.int 0]).flatten) hp14
  have lp14 := lv.same gp14
  have Gp14 := gg.trans gp14
  have ep6 := gp14 _ _ ep6
  have dp7 := dp7.mono (hid_mono gp14)
  have dp11 := dp11.mono (hid_mono gp14)
  have ep12 := gp14 _ _ ep12
  generalize upd H14 p14 (HO.tup (List.replicate (Int.toNat 6) [V.int 0]).flatten) = H15 at *
  have gg := Gp14; have hk := kp14; have lv := lp14; clear Gp14 kp14 lp14
  refine ⟨p12, p14, _, _, rfl, rfl, SqT.of ep12, SqT.of ep14, small (by decide +kernel), fun z => absurd z (by simp), fun _ z => absurd z (by decide +kernel), fun _ _ p15 hp15 => ?_⟩
  have gp15 := same_new hp15 (HO.tup ([V.str "close", V.str "f"] ++ (List.replicate (Int.toNat 6) [V.int 0]).flatten))
  have dp15 : Dp K (hid Z (upd H15 p15 (HO.tup ([V.str "close", V.str "f"] ++ (List.replicate (Int.toNat 6) [V.int 0]).flatten)))) (.ref p15) (.tuple (.str "close" :: .str "f" :: List.replicate 6 (.int 0))) := row_T upd_same (lv.out hp15) (.cons (.str _) (.cons (.str _) (.cons (.int _) (.cons (.int _) (.cons (.int _) (.cons (.int _) (.cons (.int _) (.cons (.int _) .nil))))))))
  have gp15' := gp15
  have np15 : p15 ∉ Z := lv.out hp15
  have ep15 : upd H15 p15 (HO.tup ([V.str "close", V.str "f"] ++ (List.replicate (Int.toNat 6) [V.int 0]).flatten)) p15 = some (HO.tup ([V.str "close", V.str "f"] ++ (List.replicate (Int.toNat 6) [V.int 0]).flatten)) := upd_same
  have kp15 := hk.new (o := HO.tup ([V.str "close", V.str "f"] ++ (List.replicate (Int.toNat 6) [V.int 0]).flatten)) hp15
  have lp15 := lv.same gp15
  have Gp15 := gg.trans gp15
  have ep6 := gp15 _ _ ep6
  have dp7 := dp7.mono (hid_mono gp15)
  have dp11 := dp11.mono (hid_mono gp15)
  generalize upd H15 p15 (HO.tup ([V.str "close", V.str "f"] ++ (List.replicate (Int.toNat 6) [V.int 0]).flatten)) = H16 at *
  have gg := Gp15; have hk := kp15; have lv := lp15; clear Gp15 kp15 lp15
  refine ⟨small (by simp), fun p16 hp16 => ?_⟩
  have gp16 := same_new hp16 (HO.tup [V.int 1, V.int 2])
  have dp16 : Dp K (hid Z (upd H16 p16 (HO.tup [V.int 1, V.int 2]))) (.ref p16) (.tuple [.int 1, .int 2]) := row_T upd_same (lv.out hp16) (.cons (.int _) (.cons (.int _) .nil))
  have gp16' := gp16
  have np16 : p16 ∉ Z := lv.out hp16
  have ep16 : upd H16 p16 (HO.tup [V.int 1, V.int 2]) p16 = some (HO.tup [V.int 1, V.int 2]) := upd_same
  have kp16 := hk.new (o := HO.tup [V.int 1, V.int 2]) hp16
  have lp16 := lv.same gp16
  have Gp16 := gg.trans gp16
  have ep6 := gp16 _ _ ep6
  have dp7 := dp7.mono (hid_mono gp16)
  have dp11 := dp11.mono (hid_mono gp16)
  have dp15 := dp15.mono (hid_mono gp16)
  generalize upd H16 p16 (HO.tup [V.int 1, V.int 2]) = H17 at *
  have gg := Gp16; have hk := kp16; have lv := lp16; clear Gp16 kp16 lp16
  refine ⟨small (by simp), fun p17 hp17 => ?_⟩
  have gp17 := same_new hp17 (HO.tup [V.str "cons"])
  have dp17 : Dp K (hid Z (upd H17 p17 (HO.tup [V.str "cons"]))) (.ref p17) (.tuple [.str "cons"]) := row_T upd_same (lv.out hp17) (.cons (.str _) .nil)
  have gp17' := gp17
  have np17 : p17 ∉ Z := lv.out hp17
  have ep17 : upd H17 p17 (HO.tup [V.str "cons"]) p17 = some (HO.tup [V.str "cons"]) := upd_same
  have kp17 := hk.new (o := HO.tup [V.str "cons"]) hp17
  have lp17 := lv.same gp17
  have Gp17 := gg.trans gp17
  have ep6 := gp17 _ _ ep6
  have dp7 := dp7.mono (hid_mono gp17)
  have dp11 := dp11.mono (hid_mono gp17)
  have dp15 := dp15.mono (hid_mono gp17)
  have dp16 := dp16.mono (hid_mono gp17)
  generalize upd H17 p17 (HO.tup [V.str "cons"]) = H18 at *
  have gg := Gp17; have hk := kp17; have lv := lp17; clear Gp17 kp17 lp17
  refine ⟨small (by simp), fun p18 hp18 => ?_⟩
  have gp18 := same_new hp18 (HO.tup [V.ref p17])
  have dp18 : Dp K (hid Z (upd H18 p18 (HO.tup [V.ref p17]))) (.ref p18) (.tuple [.tuple [.str "cons"]]) := row_T upd_same (lv.out hp18) (.cons (dp17.mono (hid_mono gp18)) .nil)
  have gp18' := gp18
  have np18 : p18 ∉ Z := lv.out hp18
  have ep18 : upd H18 p18 (HO.tup [V.ref p17]) p18 = some (HO.tup [V.ref p17]) := upd_same
  have kp18 := hk.new (o := HO.tup [V.ref p17]) hp18
  have lp18 := lv.same gp18
  have Gp18 := gg.trans gp18
  have ep6 := gp18 _ _ ep6
  have dp7 := dp7.mono (hid_mono gp18)
  have dp11 := dp11.mono (hid_mono gp18)
  have dp15 := dp15.mono (hid_mono gp18)
  have dp16 := dp16.mono (hid_mono gp18)
  generalize upd H18 p18 (HO.tup [V.ref p17]) = H19 at *
  have gg := Gp18; have hk := kp18; have lv := lp18; clear Gp18 kp18 lp18
  refine ⟨small (by simp), fun p19 hp19 => ?_⟩
  have gp19 := same_new hp19 (HO.tup [V.str "a1"])
  have dp19 : Dp K (hid Z (upd H19 p19 (HO.tup [V.str "a1"]))) (.ref p19) (.tuple [.str "a1"]) := row_T upd_same (lv.out hp19) (.cons (.str _) .nil)
  have gp19' := gp19
  have np19 : p19 ∉ Z := lv.out hp19
  have ep19 : upd H19 p19 (HO.tup [V.str "a1"]) p19 = some (HO.tup [V.str "a1"]) := upd_same
  have kp19 := hk.new (o := HO.tup [V.str "a1"]) hp19
  have lp19 := lv.same gp19
  have Gp19 := gg.trans gp19
  have ep6 := gp19 _ _ ep6
  have dp7 := dp7.mono (hid_mono gp19)
  have dp11 := dp11.mono (hid_mono gp19)
  have dp15 := dp15.mono (hid_mono gp19)
  have dp16 := dp16.mono (hid_mono gp19)
  have dp18 := dp18.mono (hid_mono gp19)
  generalize upd H19 p19 (HO.tup [V.str "a1"]) = H20 at *
  have gg := Gp19; have hk := kp19; have lv := lp19; clear Gp19 kp19 lp19
  have r20 : ∀ x ∈ [V.ref p7, V.ref p11, V.ref p15, V.ref p16, V.ref p18, V.ref p19], odd2 K (hid Z H20) x := by
    intro x hx
    simp only [List.mem_cons, List.not_mem_nil, or_false] at hx
    rcases hx with rfl | rfl | rfl | rfl | rfl | rfl
    · exact ⟨_, dp7, one (strA (by decide +kernel))⟩
    · exact ⟨_, dp11, ⟨by decide, fun e he => by
        rcases List.mem_cons.mp he with rfl | h
        · exact strA (by decide +kernel)
        · rw [List.eq_of_mem_replicate h]; exact intA (by decide)⟩⟩
    · exact ⟨_, dp15, ⟨by decide, fun e he => by
        rcases List.mem_cons.mp he with rfl | h
        · exact strA (by decide +kernel)
        · rcases List.mem_cons.mp h with rfl | h
          · exact strA (by decide +kernel)
          · rw [List.eq_of_mem_replicate h]; exact intA (by decide)⟩⟩
    · exact ⟨_, dp16, two (intA (by decide)) (intA (by decide))⟩
    · exact ⟨_, dp18, one (n := 1) (one (strA (by decide +kernel)))⟩
    · exact ⟨_, dp19, one (strA (by decide +kernel))⟩
  clear dp7 dp11 dp15 dp16 dp17 dp18 dp19
  refine ⟨small (by simp), fun p20 hp20 => ?_⟩
  have gp20 := same_new hp20 (HO.lst [V.ref p7, V.ref p11, V.ref p15, V.ref p16, V.ref p18, V.ref p19])
  have gp20' := gp20
  have np20 : p20 ∉ Z := lv.out hp20
  have ep20 : upd H20 p20 (HO.lst [V.ref p7, V.ref p11, V.ref p15, V.ref p16, V.ref p18, V.ref p19]) p20 = some (HO.lst [V.ref p7, V.ref p11, V.ref p15, V.ref p16, V.ref p18, V.ref p19]) := upd_same
  have kp20 := hk.new (o := HO.lst [V.ref p7, V.ref p11, V.ref p15, V.ref p16, V.ref p18, V.ref p19]) hp20
  have lp20 := lv.same gp20
  have Gp20 := gg.trans gp20
  have ep6 := gp20 _ _ ep6
  generalize upd H20 p20 (HO.lst [V.ref p7, V.ref p11, V.ref p15, V.ref p16, V.ref p18, V.ref p19]) = H21 at *
  have gg := Gp20; have hk := kp20; have lv := lp20; clear Gp20 kp20 lp20
  replace r20 := fun x hx => odd2_mono (hid_mono gp20') (r20 x hx)
  have g621 : Same H7 H21 := (((((((((((((gp7.trans gp8).trans gp9).trans gp10).trans gp11).trans gp12).trans gp13).trans gp14).trans gp15).trans gp16).trans gp17).trans gp18).trans gp19).trans gp20)
  replace r6 := fun x hx => odd2_mono (hid_mono g621) (r6 x hx)
  have r21 : ∀ x ∈ vs6 ++ [V.ref p7, V.ref p11, V.ref p15, V.ref p16, V.ref p18, V.ref p19], odd2 K (hid Z H21) x := fun x hx => (List.mem_append.mp hx).elim (r6 x) (r20 x)
  have l21 : (vs6 ++ [V.ref p7, V.ref p11, V.ref p15, V.ref p16, V.ref p18, V.ref p19]).length ≤ 18 := by simp; omega
  refine ⟨p6, p20, _, _, rfl, rfl, ep6, ep20, small (by simp; omega), fun p21 hp21 => ?_⟩
  have gp21 := same_new hp21 (HO.lst (vs6 ++ [V.ref p7, V.ref p11, V.ref p15, V.ref p16, V.ref p18, V.ref p19]))
  have gp21' := gp21
  have np21 : p21 ∉ Z := lv.out hp21
  have ep21 : upd H21 p21 (HO.lst (vs6 ++ [V.ref p7, V.ref p11, V.ref p15, V.ref p16, V.ref p18, V.ref p19])) p21 = some (HO.lst (vs6 ++ [V.ref p7, V.ref p11, V.ref p15, V.ref p16, V.ref p18, V.ref p19])) := upd_same
  have kp21 := hk.new (o := HO.lst (vs6 ++ [V.ref p7, V.ref p11, V.ref p15, V.ref p16, V.ref p18, V.ref p19])) hp21
  have lp21 := lv.same gp21
  have Gp21 := gg.trans gp21
  generalize upd H21 p21 (HO.lst (vs6 ++ [V.ref p7, V.ref p11, V.ref p15, V.ref p16, V.ref p18, V.ref p19])) = H22 at *
  have gg := Gp21; have hk := kp21; have lv := lp21; clear Gp21 kp21 lp21
  replace r21 := fun x hx => odd2_mono (hid_mono gp21') (r21 x hx)
  generalize vs6 ++ [V.ref p7, V.ref p11, V.ref p15, V.ref p16, V.ref p18, V.ref p19] = vs at r21 l21 ep21 ⊢
  have j22 : Jb K Z st sl H p21 vs c H22 := ⟨hk, lv, np21, ep21, r21, .same gg⟩
  dsimp only
  clear r21 ep21 r6 r20 hp0 hp1 hp2 hp3 hp4 hp5 hp6 hp7 hp8 hp9 hp10 hp11 hp12 hp13 hp14 hp15 hp16 hp17 hp18 hp19 hp20 hp21
  refine ⟨rfl, fun pr H23 g23 hpr er => ?_⟩
  have j23 := j22.same g23
  refine ⟨st, sl, c, .ref pr, resv.map V.str, rfl, j23.sk, by omega, ?_, by decide +kernel, by decide +kernel, fun i wd H24 hwd k24 g24 => ?_⟩
  · refine .inl ⟨pr, rfl, .inl (SqL.of ?_)⟩
    rw [hid_ne (by simp [j22.sk.nst hpr, j22.sk.nsl hpr])]
    exact er
  have j24 := j23.keep g24 k24
  refine ⟨rfl, fun pr2 H25 g25 hpr2 er2 => ?_⟩
  have j25 := j24.same g25
  refine ⟨st, sl, c + 1, .ref pr2, resv.map V.str, rfl, j25.sk, by omega, ?_, by decide +kernel, by decide +kernel, fun i2 wo H26 hwo k26 g26 => ?_⟩
  · refine .inl ⟨pr2, rfl, .inl (SqL.of ?_)⟩
    rw [hid_ne (by simp [j24.sk.nst hpr2, j24.sk.nsl hpr2])]
    exact er2
  have j26 := j25.keep g26 k26
  obtain ⟨wd, hw1, rfl⟩ := List.mem_map.mp (List.mem_of_getElem? hwd)
  obtain ⟨wo, hw2, rfl⟩ := List.mem_map.mp (List.mem_of_getElem? hwo)
  clear hwd hwo
  refine ⟨_, _, ⟨rfl, rfl⟩, ?_⟩
  replace hk := j26.sk
  replace lv := j26.lv
  replace gg := Same.refl H26
  refine ⟨small (by simp), fun p27 hp27 => ?_⟩
  have gp27 := same_new hp27 (HO.tup [V.str "close", V.str "drop", V.int 1])
  have dp27 : Dp K (hid Z (upd H26 p27 (HO.tup [V.str "close", V.str "drop", V.int 1]))) (.ref p27) (.tuple [.str "close", .str "drop", .int 1]) := row_T upd_same (lv.out hp27) (.cons (.str _) (.cons (.str _) (.cons (.int _) .nil)))
  have gp27' := gp27
  have np27 : p27 ∉ Z := lv.out hp27
  have ep27 : upd H26 p27 (HO.tup [V.str "close", V.str "drop", V.int 1]) p27 = some (HO.tup [V.str "close", V.str "drop", V.int 1]) := upd_same
  have kp27 := hk.new (o := HO.tup [V.str "close", V.str "drop", V.int 1]) hp27
  have lp27 := lv.same gp27
  have Gp27 := gg.trans gp27
  generalize upd H26 p27 (HO.tup [V.str "close", V.str "drop", V.int 1]) = H27 at *
  have gg := Gp27; have hk := kp27; have lv := lp27; clear Gp27 kp27 lp27
  refine ⟨small (by simp), fun p28 hp28 => ?_⟩
  have gp28 := same_new hp28 (HO.tup [V.str wd, V.int 1])
  have dp28 : Dp K (hid Z (upd H27 p28 (HO.tup [V.str wd, V.int 1]))) (.ref p28) (.tuple [.str wd, .int 1]) := row_T upd_same (lv.out hp28) (.cons (.str _) (.cons (.int _) .nil))
  have gp28' := gp28
  have np28 : p28 ∉ Z := lv.out hp28
  have ep28 : upd H27 p28 (HO.tup [V.str wd, V.int 1]) p28 = some (HO.tup [V.str wd, V.int 1]) := upd_same
  have kp28 := hk.new (o := HO.tup [V.str wd, V.int 1]) hp28
  have lp28 := lv.same gp28
  have Gp28 := gg.trans gp28
  have dp27 := dp27.mono (hid_mono gp28)
  generalize upd H27 p28 (HO.tup [V.str wd, V.int 1]) = H28 at *
  have gg := Gp28; have hk := kp28; have lv := lp28; clear Gp28 kp28 lp28
  refine ⟨small (by simp), fun p29 hp29 => ?_⟩
  have gp29 := same_new hp29 (HO.tup [V.str "close", V.str wo])
  have dp29 : Dp K (hid Z (upd H28 p29 (HO.tup [V.str "close", V.str wo]))) (.ref p29) (.tuple [.str "close", .str wo]) := row_T upd_same (lv.out hp29) (.cons (.str _) (.cons (.str _) .nil))
  have gp29' := gp29
  have np29 : p29 ∉ Z := lv.out hp29
  have ep29 : upd H28 p29 (HO.tup [V.str "close", V.str wo]) p29 = some (HO.tup [V.str "close", V.str wo]) := upd_same
  have kp29 := hk.new (o := HO.tup [V.str "close", V.str wo]) hp29
  have lp29 := lv.same gp29
  have Gp29 := gg.trans gp29
  have dp27 := dp27.mono (hid_mono gp29)
  have dp28 := dp28.mono (hid_mono gp29)
  generalize upd H28 p29 (HO.tup [V.str "close", V.str wo]) = H29 at *
  have gg := Gp29; have hk := kp29; have lv := lp29; clear Gp29 kp29 lp29
  refine ⟨small (by simp), fun p30 hp30 => ?_⟩
  have gp30 := same_new hp30 (HO.lst [V.ref p27, V.ref p28, V.ref p29])
  have gp30' := gp30
  have np30 : p30 ∉ Z := lv.out hp30
  have ep30 : upd H29 p30 (HO.lst [V.ref p27, V.ref p28, V.ref p29]) p30 = some (HO.lst [V.ref p27, V.ref p28, V.ref p29]) := upd_same
  have kp30 := hk.new (o := HO.lst [V.ref p27, V.ref p28, V.ref p29]) hp30
  have lp30 := lv.same gp30
  have Gp30 := gg.trans gp30
  have dp27 := dp27.mono (hid_mono gp30)
  have dp28 := dp28.mono (hid_mono gp30)
  have dp29 := dp29.mono (hid_mono gp30)
  generalize upd H29 p30 (HO.lst [V.ref p27, V.ref p28, V.ref p29]) = H30 at *
  have gg := Gp30; have hk := kp30; have lv := lp30; clear Gp30 kp30 lp30
  have j30 := j26.same gg
  have r30 : ∀ x ∈ vs ++ [V.ref p27, V.ref p28, V.ref p29], odd2 K (hid Z H30) x := by
    intro x hx
    rcases List.mem_append.mp hx with h | h
    · exact j30.rs x h
    · simp only [List.mem_cons, List.not_mem_nil, or_false] at h
      rcases h with rfl | rfl | rfl
      · refine ⟨_, dp27, ⟨by decide, fun e he => ?_⟩⟩
        simp only [List.mem_cons, List.not_mem_nil, or_false] at he
        rcases he with rfl | rfl | rfl
        · exact strA (by decide +kernel)
        · exact strA (by decide +kernel)
        · exact intA (by decide)
      · exact ⟨_, dp28, two (strA (resv_B wd hw1)) (intA (by decide))⟩
      · exact ⟨_, dp29, two (strA (by decide +kernel)) (strA (resv_B wo hw2))⟩
  refine ⟨p21, p30, _, _, rfl, rfl, j30.ep, ep30, small (by simp; omega), fun p31 hp31 => ?_⟩
  have gp31 := same_new hp31 (HO.lst (vs ++ [V.ref p27, V.ref p28, V.ref p29]))
  have gp31' := gp31
  have np31 : p31 ∉ Z := lv.out hp31
  have ep31 : upd H30 p31 (HO.lst (vs ++ [V.ref p27, V.ref p28, V.ref p29])) p31 = some (HO.lst (vs ++ [V.ref p27, V.ref p28, V.ref p29])) := upd_same
  have kp31 := hk.new (o := HO.lst (vs ++ [V.ref p27, V.ref p28, V.ref p29])) hp31
  have lp31 := lv.same gp31
  have Gp31 := gg.trans gp31
  generalize upd H30 p31 (HO.lst (vs ++ [V.ref p27, V.ref p28, V.ref p29])) = H31 at *
  have gg := Gp31; have hk := kp31; have lv := lp31; clear Gp31 kp31 lp31
  have j31 : Jb K Z st sl H p31 (vs ++ [V.ref p27, V.ref p28, V.ref p29]) (c + 1 + 1) H31 := ⟨hk, lv, np31, ep31, fun x hx => odd2_mono (hid_mono gp31') (r30 x hx), j26.kp.trans (.same gg)⟩
  have l31 : (vs ++ [V.ref p27, V.ref p28, V.ref p29]).length ≤ 21 := by simp; omega
  have ne31 : vs ++ [V.ref p27, V.ref p28, V.ref p29] ≠ [] := by simp
  generalize vs ++ [V.ref p27, V.ref p28, V.ref p29] = ws at j31 l31 ne31
  clear r30 ep31 ep30 dp27 dp28 dp29 j30 j26 j25 j24 j23 j22
  have fin : ∀ H' c', Jb K Z st sl H p31 ws c' H' → c' ≤ c + 4 → spPick K [V.ref st, V.ref p31] H' Q E0 := fun H' c' j hc' => by
    refine ⟨st, sl, c', .ref p31, ws, rfl, j.sk, by omega, j.items, ne31, by omega, fun i x H2 hx k2 g2 => ?_⟩
    obtain ⟨d2, h1, h2⟩ := (j.keep g2 k2).rs x (List.mem_of_getElem? hx)
    exact q x d2 H2 _ h1 (ok_le (by omega) h2) (Nat.le_trans (show wt d2 ≤ 9280 from ok_wt h2) (Nat.le_add_left _ _)) k2 (by omega) (j.kp.trans g2)
  have hd31 := hd.mono (j31.kp.hid j31.lv.st j31.lv.sl)
  refine ⟨small (by simp), fun p32 hp32 => isi_seq (hd31.mono (hid_same _ _)) hp32 ⟨_, rfl, ite2 (fun e => ?_) (fun e => ?_)⟩⟩
  · exact fin _ _ (j31.same (same_new hp32 _)) (by omega)
  · have j32 := j31.same (same_new hp32 (.tup [.ty "tuple", .ty "list"]))
    refine ⟨st, sl, c + 1 + 1, 3, rfl, j32.sk, by omega, by decide, by decide, fun r H33 r0 r1 k33 g33 => ?_⟩
    have j33 := j32.keep g33 k33
    refine ⟨rfl, _, rfl, ite2 (fun e1 => fin _ _ j33 (by omega)) (fun e1 => ?_)⟩
    have hd33 := hd.mono (j33.kp.hid j33.lv.st j33.lv.sl)
    have e' : isSeq d = true := by simpa using e
    obtain ⟨a, xs, ds, rfl, hq, ha, hd2⟩ := dp_seq hd33 e'
    have hl := dpa_len ha
    obtain ⟨m, rfl, hne, hl9, hk2⟩ : ∃ m, n = m + 1 ∧ ds ≠ [] ∧ ds.length ≤ 9 ∧ ∀ e ∈ ds, okn m e := by
      cases n with
      | zero => rcases hd2 with rfl | rfl <;> exact ho.elim
      | succ m => rcases hd2 with rfl | rfl <;> exact ⟨m, rfl, ho⟩
    have hpos : 0 < ds.length := List.length_pos_iff.mpr hne
    refine ⟨xs.length, len_data (hq.mono (hid_same _ _)), st, sl, c + 1 + 1 + 1, xs.length, rfl, j33.sk, by omega, by omega, by omega, fun r2 H34 r20 r21 k34 g34 => ?_⟩
    have j34 := j33.keep g34 k34
    have gh34 := g34.hid j33.lv.st j33.lv.sl
    refine ⟨a, rfl, xs, (hq.mono gh34).mono (hid_same _ _), fun p35 hp35 => ?_⟩
    obtain ⟨x, ex, ex2⟩ := atI_of r20 r21
    obtain ⟨dx, hdx1, hdx2⟩ := dpa_get ha ex2
    have np35 : p35 ∉ Z := j34.lv.out hp35
    have gn : Same (hid Z H33) (hid (p35 :: Z) (upd H34 p35 (.lst xs))) := gh34.trans (hid_new hp35)
    refine ⟨p35, xs, r2, x, rfl, rfl, SqL.of upd_same, ex, Nat.succ_ne_zero m, p35 :: Z, st, sl, c + 1 + 1 + 1 + 1, x, dx, rfl, j34.sk.new hp35, j34.lv.cons, by show _ + 5 * m + 5 < _; omega, hdx2.mono gn, hk2 dx (List.mem_of_getElem? hdx1), fun v2 d2 H36 c36 hv2 ho2 hw2' k36 hc36 g36 => ?_⟩
    have lv35 : Liv (p35 :: Z) st sl (upd H34 p35 (.lst xs)) := j34.lv.cons
    have gn2 := gn.trans (g36.hid lv35.st lv35.sl)
    have s35 := j34.sk.nst hp35
    have l35 := j34.sk.nsl hp35
    have e36 : H36 p35 = some (.lst xs) := g36 _ _ s35 l35 upd_same
    refine ⟨p35, xs, r2, r2.toNat, rfl, rfl, e36, ixN_of r20 r21, ?_⟩
    have gu : Same (hid (p35 :: Z) H36) (hid (p35 :: Z) (upd H36 p35 (.lst (xs.set r2.toNat v2)))) := hid_upd (List.mem_cons_self ..)
    have e37 : upd H36 p35 (.lst (xs.set r2.toNat v2)) p35 = some (.lst (xs.set r2.toNat v2)) := upd_same
    have k37 : Sk st sl c36 (upd H36 p35 (.lst (xs.set r2.toNat v2))) := k36.upd s35 l35
    have kp37 : Keep st sl H (upd H36 p35 (.lst (xs.set r2.toNat v2))) := fun b o n1 n2 eb => by
      have h34 := j34.kp _ _ n1 n2 eb
      have nb : b ≠ p35 := ne_of_none h34 hp35
      rw [upd_ne nb]
      refine g36 _ _ n1 n2 ?_
      rw [upd_ne nb]
      exact h34
    have hall : DpAll K (hid (p35 :: Z) (upd H36 p35 (.lst (xs.set r2.toNat v2)))) (xs.set r2.toNat v2) (ds.set r2.toNat d2) := dpa_set (hv2.mono gu) _ (ha.mono (gn2.trans gu))
    have hdd : Dp K (hid (p35 :: Z) (upd H36 p35 (.lst (xs.set r2.toNat v2)))) (.ref a) d := hd33.mono (gn2.trans gu)
    generalize upd H36 p35 (.lst (xs.set r2.toNat v2)) = H37 at e37 k37 kp37 hall hdd ⊢
    refine ⟨_, .inl ⟨SqL.of e37, fun p38 hp38 => ⟨small (by simp), fun p39 hp39 => ?_⟩⟩⟩
    have g38 := same_new hp38 (.tup (xs.set r2.toNat v2))
    have g39 := same_new hp39 (.lst [V.ref p35, V.ref p38])
    have e38 : upd (upd H37 p38 (.tup (xs.set r2.toNat v2))) p39 (.lst [V.ref p35, V.ref p38]) p38 = some (.tup (xs.set r2.toNat v2)) := g39 _ _ upd_same
    have e39 : upd (upd H37 p38 (.tup (xs.set r2.toNat v2))) p39 (.lst [V.ref p35, V.ref p38]) p39 = some (.lst [V.ref p35, V.ref p38]) := upd_same
    have k39 := k37.same (g38.trans g39)
    have np38 : p38 ∉ Z := (lv0.keep kp37 k37).out hp38
    have e35 : upd (upd H37 p38 (.tup (xs.set r2.toNat v2))) p39 (.lst [V.ref p35, V.ref p38]) p35 = some (.lst (xs.set r2.toNat v2)) := g39 _ _ (g38 _ _ e37)
    have kp39 := kp37.trans (.same (g38.trans g39))
    have hall' := hall.mono ((hid_less (Z := Z) (fun z hz => List.mem_cons_of_mem _ hz) H37).trans (hid_mono (g38.trans g39)))
    have hdd' := hdd.mono ((hid_same _ _).trans (g38.trans g39))
    generalize upd (upd H37 p38 (.tup (xs.set r2.toNat v2))) p39 (.lst [V.ref p35, V.ref p38]) = H39 at e35 e38 e39 k39 kp39 hall' hdd' ⊢
    have hrow : (ds.set r2.toNat d2).length ≤ 9 ∧ ∀ e ∈ ds.set r2.toNat d2, ok (m + 2) e := by
      refine ⟨by rw [List.length_set]; exact hl9, fun e he => ?_⟩
      rcases List.mem_or_eq_of_mem_set he with h | h
      · exact ok_le (by omega) (okn_ok (hk2 e h))
      · rw [h]; exact ho2
    have hws := wtAll_set hw2' hdx1
    have hwd : wt d = wtAll ds + 100 := by rcases hd2 with rfl | rfl <;> simp only [wt]
    have hc37 : c36 ≤ c + 5 * (m + 1) + 5 := by
      have : c36 ≤ c + 1 + 1 + 1 + 1 + 5 * m + 5 := hc36
      omega
    refine isi_one hdd' (by simp) ⟨_, rfl, ?_⟩
    cases isT "tuple" d with
    | false => exact ⟨p39, _, 0, .ref p35, rfl, rfl, SqL.of e39, rfl, q _ (.list (ds.set r2.toNat d2)) H39 _ (row_L e35 np35 hall') hrow (by rw [hwd]; simp only [wt]; omega) k39 hc37 kp39⟩
    | true => exact ⟨p39, _, 1, .ref p38, rfl, rfl, SqL.of e39, rfl, q _ (.tuple (ds.set r2.toNat d2)) H39 _ (row_T e38 np38 hall') hrow (by rw [hwd]; simp only [wt]; omega) k39 hc37 kp39⟩
theorem bent_b : ∀ (kV doc pm : Value) (an : Option Addr) (cdv ct : Value) (us : List Value), us.length = f_law_bent_P.length → bindArgs (PySem.W.fnOf "_law_bent" "_law_bent" (defArgs f_law_bent_s) (defBody f_law_bent_s) (defScope f_law_bent_s) .none kV doc pm an cdv ct) ⟨us, []⟩ = pure (f_law_bent_P.zip us) :=
  fun _ _ _ _ _ _ us hl => match us, hl with | [_, _], _ => rfl
theorem cal_law_bent (T : Tw K mg) : ∀ n, Cal P w K mg base (n + 4) "_law_bent" (spBent K n)
  | 0 => bent_step T (k := 3) (T.bent.zero bent_b fun vs H Q E h => h.1 rfl) (by decide)
  | n + 1 => bent_step T (k := n + 4) ((cal_law_bent T n).imp fun vs H Q E h => h.2) (by omega)
end
end Rm

set_option Elab.async false
set_option linter.all false
set_option maxRecDepth 100000
set_option maxHeartbeats 4000000
namespace Rm
open PySem PySem.Spec PyProof.Rows L2
section
variable {P : Program} {w : World} {K : PySem.W.Frag} {mg : Str → Option Value} {base : Heap}
theorem Sk.liv {st sl : Addr} {c : Nat} {H : Hp} (k : Sk st sl c H) : Liv [st, sl] st sl H := ⟨by simp, by simp, fun z hz => by
  obtain ⟨_, _, _, _, e1, e2, _⟩ := k
  simp only [List.mem_cons, List.not_mem_nil, or_false] at hz
  rcases hz with rfl | rfl
  · rw [e1]; exact fun e => nomatch e
  · rw [e2]; exact fun e => nomatch e⟩
def spLaw (K : PySem.W.Frag) : Sp := fun vs H Q _ => ∃ (a : Addr) (ns : List Int), vs = [.ref a] ∧ SqL K H a (ns.map V.int) ∧ ns.length ≤ 63 ∧ ∀ H', Q (.bl true) H'
theorem body_law (T : Tw K mg) (f : Addr) (cdv : Value) (s : Shared) (H : Hp) (a : Addr) (Q : VK) (hr : Room 9 (callerA.deeper (envOfC "law" (defScope f_law_s) s.heap.objs.size f cdv))) (h : spLaw K [.ref a] H Q E0) :
    ∃ t, PSs (cxOf CX0 P w K mg base f_law_N "law" (defScope f_law_s) f cdv callerA [] s H E0).nox (defBody f_law_s) t ∧ t { nx := fun _ H' => Q .non H', rt := Q } (L2.start f_law_N [.ref a]) H := by
  obtain ⟨a', ns, e, hS, hl, q⟩ := h
  obtain rfl : a = a' := by simpa using e
  refine ⟨_, (pss_cons (ps_set (i := 1) f_law_sc.nd rfl (Or.inl rfl) (pe_c (cal_law_start T.toTy) hr (by omega) rfl (pa_cons (pv 0) pa_nil)))
      (pss_cons (ps_for PassesOwn.never rfl (pi_range1 rfl T.n_range (pa_cons pe_int pa_nil)) (pg_name (i := 2) f_law_sc.nd rfl (Or.inl rfl)) (pss_cons (ps_set (i := 3) f_law_sc.nd rfl (Or.inl rfl) (pe_c (cal_law_thing T 4) hr (by omega) rfl (pa_cons (pv 1) (pa_cons pe_int pa_nil))))
      (C8.pss_cut (ps_if (pt_cmpR op_eq (pe_c (cal_draw T.toTy) hr (by omega) rfl (pa_cons (pv 1) (pa_cons pe_int pa_nil))) pe_int (nomark _)) (pss_one (ps_set (i := 3) f_law_sc.nd rfl (Or.inl rfl) (pe_c (cal_law_bent T 4) hr (by omega) rfl (pa_cons (pv 1) (pa_cons (pv 3) pa_nil))))) pss_nil)
      (pss_cons (ps_set (i := 4) f_law_sc.nd rfl (Or.inl rfl) (pe_callB (call_reprR rfl hr) rfl T.n_repr (by decide +kernel) (pa_cons (pv 3) pa_nil)))
      (pss_cons (ps_set (i := 5) f_law_sc.nd rfl (Or.inl rfl) (pe_c (cal_is_value T.toTx 6 (by decide)) hr (by omega) rfl (pa_cons (pv 3) pa_nil)))
      (pss_one (ps_if (PW.pt (pw_or (pt_not (pt_val (pe_callB call_isi rfl T.n_isinstance (by decide +kernel) (pa_cons (pv 5) (pa_cons (pe_bltn (v := .ty "bool") (u := .type "bool") rfl T.n_bool (by decide +kernel) rfl) pa_nil))))) (pw_or (pt_cmpR (op_neD hr.units) (pv 5) (pe_c (cal_law_is_value T 6 (by decide)) hr (by omega) rfl (pa_cons (pv 3) pa_nil)) (nomark _)) (pw_or1 (pt_cmpR op_ne (pe_callB (call_reprR rfl hr) rfl T.n_repr (by decide +kernel) (pa_cons (pv 3) pa_nil)) (pv 4) (nomark _)))))) (pss_one (ps_ret pe_bl)) pss_nil)))))))
      (pss_one (ps_ret pe_bl)))), ?_⟩
  rw [show L2.start f_law_N [.ref a] = [some (.ref a), none, none, none, none, none] from rfl]
  simp only [cxOf, Cx.nox, tSeq, C8.tCut, tAsg, tRet, tRetN, tIfS, tTest, tB, tAnd, tOr, tNot, tAndV, tOrV, tNotV, tIf, tOp, tUn, tCB, tCall, tCons, tNil, tC, tTup, tLst, tChain, tPar, tDrop, tNext, tSl, tPart, tNoPart, tBM, tBM0, tM1, tM0, tAug, ipI, gName, gSub, tVar, wipe, rI0, rI, rU, List.cons_append, List.nil_append, List.append_nil, List.set_cons_zero, List.set_cons_succ, List.getElem?_cons_zero, List.getElem?_cons_succ, Option.some.injEq, V.int.injEq, V.bl.injEq, V.str.injEq, V.ref.injEq, exists_and_left, exists_eq_left, if_true, if_false, Bool.not_true, Bool.not_false, Bool.false_eq_true, List.map_cons, List.map_nil, List.cons.injEq, and_true, true_and, exists_eq_left']
  refine ⟨a, ns, rfl, hS, hl, fun st sl H1 g1 k1 => ?_⟩
  refine ⟨10, rfl, by decide, by decide, ?_⟩
  refine for_range (lo := 0) (n := 10) (fun i σ H' => ∃ (v2 v3 v4 v5 : Option V) (c : Nat), σ = [some (.ref a), some (.ref st), v2, v3, v4, v5] ∧ Sk st sl c H' ∧ c ≤ 7300 * i) ⟨none, none, none, none, 0, rfl, k1, by omega⟩ ?_ (fun σ H' _ => q H')
  rintro i σ H2 hi ⟨v2, v3, v4, v5, c, rfl, k2, hc⟩
  simp only [cxOf, Cx.nox, tSeq, C8.tCut, tAsg, tRet, tRetN, tIfS, tTest, tB, tAnd, tOr, tNot, tAndV, tOrV, tNotV, tIf, tOp, tUn, tCB, tCall, tCons, tNil, tC, tTup, tLst, tChain, tPar, tDrop, tNext, tSl, tPart, tNoPart, tBM, tBM0, tM1, tM0, tAug, ipI, gName, gSub, tVar, wipe, rI0, rI, rU, List.cons_append, List.nil_append, List.append_nil, List.set_cons_zero, List.set_cons_succ, List.getElem?_cons_zero, List.getElem?_cons_succ, Option.some.injEq, V.int.injEq, V.bl.injEq, V.str.injEq, V.ref.injEq, exists_and_left, exists_eq_left, if_true, if_false, Bool.not_true, Bool.not_false, Bool.false_eq_true, List.map_cons, List.map_nil, List.cons.injEq, and_true, true_and, exists_eq_left']
  refine ⟨[st, sl], st, sl, c, rfl, k2, k2.liv, by show c + 7255 < 900000; omega, fun v d H3 c3 hd ho k3 hc3 g3 => ?_⟩
  have hc3' : c3 ≤ c + 7255 := hc3
  dsimp only
  refine ⟨fun σ' H' => ∃ (v : V) (d : PyData) (c' : Nat), σ' = [some (.ref a), some (.ref st), some (.int (0 + i)), some v, v4, v5] ∧ Sk st sl c' H' ∧ c' ≤ c + 7290 ∧ Dp K H' v d ∧ ok 6 d ∧ wt d ≤ 1000000, ?_, ?_⟩
  · refine ⟨st, sl, c3, 2, rfl, k3, by omega, by decide, by decide, fun r H4 r0 r1 k4 g4 => ?_⟩
    have hd4 := hd.mono (g4.hid (by simp) (by simp))
    refine ⟨rfl, _, rfl, ite2 (fun e => ?_) (fun e => ?_)⟩
    · refine ⟨[st, sl], st, sl, c3 + 1, v, d, rfl, k4, k4.liv, by omega, hd4, ho, fun v' d' H5 c5 hd5 ho5 hw5 k5 hc5 g5 => ?_⟩
      refine ⟨v', d', c5, rfl, k5, by omega, hd5.mono (hid_same _ _), ho5, ?_⟩
      have h1 : wt d ≤ 752860 := ok_wt (okn_ok ho)
      omega
    · refine ⟨v, d, c3 + 1, rfl, k4, by omega, hd4.mono (hid_same _ _), ok_le (by decide) (okn_ok ho), ?_⟩
      have h1 : wt d ≤ 752860 := ok_wt (okn_ok ho)
      omega
  · rintro σ' H4 ⟨v, d, c4, rfl, k4, hc4, hd4, ho4, hw4⟩
    have hsz : d.shown.length ≤ sizeLine := Nat.le_trans (shown_wt ho4) (Nat.le_trans hw4 (by decide))
    simp only [cxOf, Cx.nox, tSeq, C8.tCut, tAsg, tRet, tRetN, tIfS, tTest, tB, tAnd, tOr, tNot, tAndV, tOrV, tNotV, tIf, tOp, tUn, tCB, tCall, tCons, tNil, tC, tTup, tLst, tChain, tPar, tDrop, tNext, tSl, tPart, tNoPart, tBM, tBM0, tM1, tM0, tAug, ipI, gName, gSub, tVar, wipe, rI0, rI, rU, List.cons_append, List.nil_append, List.append_nil, List.set_cons_zero, List.set_cons_succ, List.getElem?_cons_zero, List.getElem?_cons_succ, Option.some.injEq, V.int.injEq, V.bl.injEq, V.str.injEq, V.ref.injEq, exists_and_left, exists_eq_left, if_true, if_false, Bool.not_true, Bool.not_false, Bool.false_eq_true, List.map_cons, List.map_nil, List.cons.injEq, and_true, true_and, exists_eq_left']
    refine ⟨d, hd4, 6, ho4, by decide, hsz, ?_⟩
    refine ⟨v, d, rfl, hd4, ho4, fun H5 g5 => ?_⟩
    refine isi_one (.bl _) (by simp) ⟨_, rfl, ?_⟩
    refine ite2 (fun e => ?_) (fun e => ?_)
    · simp [isT, isTn, tyN] at e
    · refine ⟨v, d, rfl, hd4.mono g5, ho4, fun H6 g6 => ?_⟩
      refine ⟨.bool (isV 6 d), .bool (isV 6 d), .bl _, .bl _, ok_shaped (n := 0) trivial (by decide), ok_shaped (n := 0) trivial (by decide), _, rfl, ?_⟩
      refine ite2 (fun e => ?_) (fun e => ?_)
      · simp [PyData.eqv] at e
      · refine ⟨d, (hd4.mono g5).mono g6, 6, ho4, by decide, hsz, rfl, _, rfl, ?_⟩
        refine ite2 (fun e => ?_) (fun e => ?_)
        · simp at e
        · exact ⟨_, _, _, _, ⟨rfl, rfl, rfl, rfl⟩, c4, (k4.same g5).same g6, by omega⟩
end
end Rm

set_option Elab.async false
set_option linter.all false
set_option maxRecDepth 100000
set_option maxHeartbeats 0
namespace Rm
open PySem PySem.Spec PyProof.Rows L2
/-! ### the head: what the top leaves, by names -/
def hookY (n : Nat) (fa : List He.Fa) (fn : List He.DefD) (ex : PySem.W.Frag → Bool) : PySem.W.Hook where
  α := He.AlD × Bool
  obs := fun s => (He.obsDG n fa fn s.heap.get?, ex (He.frG s.heap.get? (He.asD s.heap.get? n)))
  val := fun _ => (He.valD fn, true)
  says := fun _ h => ∃ K : PySem.W.Frag, K.In h ∧ He.SaysD fa fn K ∧ ex K = true
  of := fun _ _ e => ⟨_, He.frG_in, (Prod.mk.inj e).1, (Prod.mk.inj e).2⟩
  keeps := fun _ _ _ ⟨K, hK, c⟩ k => ⟨K, PySem.W.Frag.In.keeps hK k, c⟩
def f_is_row_d : He.DefD := ⟨("is_row", none), "is_row", "is_row", defArgs f_is_row_s, defBody f_is_row_s, defScope f_is_row_s, [], []⟩
def f_is_integer_d : He.DefD := ⟨("is_integer", none), "is_integer", "is_integer", defArgs f_is_integer_s, defBody f_is_integer_s, defScope f_is_integer_s, [], []⟩
def f_is_small_d : He.DefD := ⟨("is_small", none), "is_small", "is_small", defArgs f_is_small_s, defBody f_is_small_s, defScope f_is_small_s, [], []⟩
def f_is_name_d : He.DefD := ⟨("is_name", none), "is_name", "is_name", defArgs f_is_name_s, defBody f_is_name_s, defScope f_is_name_s, [], []⟩
def f_is_value_d : He.DefD := ⟨("is_value", none), "is_value", "is_value", defArgs f_is_value_s, defBody f_is_value_s, defScope f_is_value_s, [], []⟩
def f_law_draw_d : He.DefD := ⟨("_law_draw", none), "_law_draw", "_law_draw", defArgs f_law_draw_s, defBody f_law_draw_s, defScope f_law_draw_s, [], []⟩
def f_law_start_d : He.DefD := ⟨("_law_start", none), "_law_start", "_law_start", defArgs f_law_start_s, defBody f_law_start_s, defScope f_law_start_s, [], []⟩
def f_law_pick_d : He.DefD := ⟨("_law_pick", none), "_law_pick", "_law_pick", defArgs f_law_pick_s, defBody f_law_pick_s, defScope f_law_pick_s, [], []⟩
def f_law_reserved_d : He.DefD := ⟨("_law_reserved", none), "_law_reserved", "_law_reserved", defArgs f_law_reserved_s, defBody f_law_reserved_s, defScope f_law_reserved_s, [], []⟩
def f_law_is_name_d : He.DefD := ⟨("_law_is_name", none), "_law_is_name", "_law_is_name", defArgs f_law_is_name_s, defBody f_law_is_name_s, defScope f_law_is_name_s, [], []⟩
def f_law_fresh_d : He.DefD := ⟨("_law_fresh", none), "_law_fresh", "_law_fresh", defArgs f_law_fresh_s, defBody f_law_fresh_s, defScope f_law_fresh_s, [], []⟩
def f_law_number_d : He.DefD := ⟨("_law_number", none), "_law_number", "_law_number", defArgs f_law_number_s, defBody f_law_number_s, defScope f_law_number_s, [], []⟩
def f_law_thing_d : He.DefD := ⟨("_law_thing", none), "_law_thing", "_law_thing", defArgs f_law_thing_s, defBody f_law_thing_s, defScope f_law_thing_s, [], []⟩
def f_law_bent_d : He.DefD := ⟨("_law_bent", none), "_law_bent", "_law_bent", defArgs f_law_bent_s, defBody f_law_bent_s, defScope f_law_bent_s, [], []⟩
def f_law_is_value_d : He.DefD := ⟨("_law_is_value", none), "_law_is_value", "_law_is_value", defArgs f_law_is_value_s, defBody f_law_is_value_s, defScope f_law_is_value_s, [], []⟩
def f_law_d : He.DefD := ⟨("law", none), "law", "law", defArgs f_law_s, defBody f_law_s, defScope f_law_s, [], []⟩
def hfn : List He.DefD := [f_is_row_d, f_is_integer_d, f_is_small_d, f_is_name_d, f_is_value_d, f_law_draw_d, f_law_start_d, f_law_pick_d, f_law_reserved_d, f_law_is_name_d, f_law_fresh_d, f_law_number_d, f_law_thing_d, f_law_bent_d, f_law_is_value_d, f_law_d]
def hfa : List He.Fa := [.glo "is_row", .glo "is_integer", .glo "is_small", .glo "is_name", .glo "is_value", .glo "_law_draw", .glo "_law_start", .glo "_law_pick", .glo "_law_reserved", .glo "_law_is_name", .glo "_law_fresh", .glo "_law_number", .glo "_law_thing", .glo "_law_bent", .glo "_law_is_value", .glo "law", .free "isinstance", .free "tuple", .free "list", .free "int", .free "bool", .free "str", .free "abs", .free "len", .free "all", .free "range", .free "min", .free "repr", .int "LONGEST_NAME" 8, .int "MOST_WORDS" 7, .str "LETTERS" letters, .glo "RESERVED"]
def hex (K : PySem.W.Frag) : Bool := He.tupB K "RESERVED" (resv.map He.Dv.str)
abbrev R : PySem.W.OpenRow := PySem.W.OpenLaw.row PySem.Challenge.rw_refmodes_k03_values_or_not
abbrev hk : PySem.W.Hook := hookY 4 hfa hfn hex
def ob (s : PySem.W.SharedT) : He.AlD × Bool := (He.obsDG 4 hfa hfn (HandSHeadRun.getT s), hex (He.frG (HandSHeadRun.getT s) (He.asD (HandSHeadRun.getT s) 4)))
theorem ob_eq (s : PySem.W.SharedT) : ob s = hk.obs s.abs := by
  have e : HandSHeadRun.getT s = s.abs.heap.get? := funext (HandSHeadRun.getT_eq s)
  unfold ob
  rw [e]
  rfl
def loose : List Str := ["LETTERS", "RESERVED", "LONGEST_NAME", "is_row", "is_integer", "is_small", "is_name", "MOST_WORDS", "is_value", "_law_draw", "_law_start", "_law_pick", "_law_reserved", "_law_is_name", "_law_fresh", "_law_number", "_law_thing", "_law_bent", "_law_is_value"]
theorem mkDf {K : PySem.W.Frag} {mg : Str → Option Value} {x : Str} {st : Stmt} (d : He.DefD) (h : ∃ fd, FunD K x x (defArgs st) (defBody st) (defScope st) [] [] (He.ga K x) fd) (hm : mg x = some (.ref (He.ga K x))) : Df K mg x st := by
  obtain ⟨fd, F⟩ := h
  exact ⟨_, fd, F, hm⟩
theorem mkT {K : PySem.W.Frag} {h : Heap} {mg : Str → Option Value} (X : K.In h) (G : h.Ns mainGlobals mg) (c : He.SaysD hfa hfn K) (ce : hex K = true) : Tw K mg where
  n_isinstance := He.free_ok X G (c.fact 16 (f := .free "isinstance") rfl)
  n_tuple := He.free_ok X G (c.fact 17 (f := .free "tuple") rfl)
  n_list := He.free_ok X G (c.fact 18 (f := .free "list") rfl)
  n_int := He.free_ok X G (c.fact 19 (f := .free "int") rfl)
  n_bool := He.free_ok X G (c.fact 20 (f := .free "bool") rfl)
  n_str := He.free_ok X G (c.fact 21 (f := .free "str") rfl)
  n_abs := He.free_ok X G (c.fact 22 (f := .free "abs") rfl)
  n_len := He.free_ok X G (c.fact 23 (f := .free "len") rfl)
  n_all := He.free_ok X G (c.fact 24 (f := .free "all") rfl)
  n_range := He.free_ok X G (c.fact 25 (f := .free "range") rfl)
  n_min := He.free_ok X G (c.fact 26 (f := .free "min") rfl)
  n_repr := He.free_ok X G (c.fact 27 (f := .free "repr") rfl)
  gLETTERS := let ⟨t, h⟩ := He.str_ok X G (c.fact 30 (f := .str "LETTERS" letters) rfl); ⟨_, h, t, rfl⟩
  gLONGEST_NAME := let ⟨t, h⟩ := He.int_ok X G (c.fact 28 (f := .int "LONGEST_NAME" 8) rfl); ⟨_, h, t, rfl⟩
  gMOST_WORDS := let ⟨t, h⟩ := He.int_ok X G (c.fact 29 (f := .int "MOST_WORDS" 7) rfl); ⟨_, h, t, rfl⟩
  gRESERVED := ⟨_, He.glo_ok X G (c.fact 31 (f := .glo "RESERVED") rfl), fun H => by
    have z := He.tupB_ok ce H
    rw [List.map_map] at z
    exact z⟩
  is_row := (mkDf f_is_row_d (c.def_ 0 (d := f_is_row_d) rfl) (He.glo_ok X G (c.fact 0 (f := .glo "is_row") rfl)))
  is_integer := (mkDf f_is_integer_d (c.def_ 1 (d := f_is_integer_d) rfl) (He.glo_ok X G (c.fact 1 (f := .glo "is_integer") rfl)))
  is_small := (mkDf f_is_small_d (c.def_ 2 (d := f_is_small_d) rfl) (He.glo_ok X G (c.fact 2 (f := .glo "is_small") rfl)))
  is_name := (mkDf f_is_name_d (c.def_ 3 (d := f_is_name_d) rfl) (He.glo_ok X G (c.fact 3 (f := .glo "is_name") rfl)))
  is_value := (mkDf f_is_value_d (c.def_ 4 (d := f_is_value_d) rfl) (He.glo_ok X G (c.fact 4 (f := .glo "is_value") rfl)))
  draw := (mkDf f_law_draw_d (c.def_ 5 (d := f_law_draw_d) rfl) (He.glo_ok X G (c.fact 5 (f := .glo "_law_draw") rfl)))
  lstart := (mkDf f_law_start_d (c.def_ 6 (d := f_law_start_d) rfl) (He.glo_ok X G (c.fact 6 (f := .glo "_law_start") rfl)))
  pick := (mkDf f_law_pick_d (c.def_ 7 (d := f_law_pick_d) rfl) (He.glo_ok X G (c.fact 7 (f := .glo "_law_pick") rfl)))
  reserved := (mkDf f_law_reserved_d (c.def_ 8 (d := f_law_reserved_d) rfl) (He.glo_ok X G (c.fact 8 (f := .glo "_law_reserved") rfl)))
  lis_name := (mkDf f_law_is_name_d (c.def_ 9 (d := f_law_is_name_d) rfl) (He.glo_ok X G (c.fact 9 (f := .glo "_law_is_name") rfl)))
  number := (mkDf f_law_number_d (c.def_ 11 (d := f_law_number_d) rfl) (He.glo_ok X G (c.fact 11 (f := .glo "_law_number") rfl)))
  fresh := (mkDf f_law_fresh_d (c.def_ 10 (d := f_law_fresh_d) rfl) (He.glo_ok X G (c.fact 10 (f := .glo "_law_fresh") rfl)))
  thing := (mkDf f_law_thing_d (c.def_ 12 (d := f_law_thing_d) rfl) (He.glo_ok X G (c.fact 12 (f := .glo "_law_thing") rfl)))
  bent := (mkDf f_law_bent_d (c.def_ 13 (d := f_law_bent_d) rfl) (He.glo_ok X G (c.fact 13 (f := .glo "_law_bent") rfl)))
  lis_value := (mkDf f_law_is_value_d (c.def_ 14 (d := f_law_is_value_d) rfl) (He.glo_ok X G (c.fact 14 (f := .glo "_law_is_value") rfl)))
  law := (mkDf f_law_d (c.def_ 15 (d := f_law_d) rfl) (He.glo_ok X G (c.fact 15 (f := .glo "law") rfl)))
end Rm

set_option Elab.async false
set_option linter.all false
set_option maxRecDepth 100000
set_option maxHeartbeats 0
namespace Rm
open PySem PySem.Spec PyProof.Rows L2
theorem run (w : World) : HandSHeadRun.RunEq R (PySem.W.view R.prog [22]) hk ob 2000 loose w := by
  intro os
  kernel_rfl
end Rm
open PySem PySem.W PySem.Calls PyProof.Rows
theorem PySem.Challenge.cw_refmodes_k03_values_or_not_holds : PySem.Challenge.rw_refmodes_k03_values_or_not.Holds := by
  w_on; o_law
  refine HandSHeadRun.head_any (r := OpenLaw.row PySem.Challenge.rw_refmodes_k03_values_or_not) (q := view (OpenLaw.row PySem.Challenge.rw_refmodes_k03_values_or_not).prog [22]) (H := Rm.hk) (ob := Rm.ob) (M := 2000) (loose := Rm.loose) (d := HandSHeadRun.topDef (OpenLaw.row PySem.Challenge.rw_refmodes_k03_values_or_not).prog 22) (kwd := []) Rm.ob_eq
    (by kernel_rfl) (fun s => by kernel_rfl) Rm.run (by kernel_rfl) (by kernel_rfl) (by kernel_rfl) (by rfl) (by first | assumption | decide +kernel) (by decide +kernel) ⟨rfl, rfl, rfl, rfl, rfl, by decide +kernel⟩ ?hw ?hc
  case hw => w_witness2
  case hc =>
    refine Rm.walk_law (l := PySem.Challenge.rw_refmodes_k03_values_or_not) (n := 63) (k := 10) (x := "_law_script") rfl (by decide) (by kernel_rfl) ⟨rfl, by decide, by decide⟩ ?F
    intro w mg fa h Y G hmg0
    obtain ⟨K, KX, c, ce⟩ := Y
    have T := Rm.mkT KX G c ce
    have hmg : mg ("law" : PySem.Str) = some (.ref fa) := by
      have e : (HandSHeadRun.topDef (OpenLaw.row PySem.Challenge.rw_refmodes_k03_values_or_not).prog 22).name = ("law" : PySem.Str) := by kernel_rfl
      rw [← e]
      exact hmg0
    obtain ⟨f, fd, F, hm⟩ := T.law.ex
    obtain rfl : fa = f := by
      have := hmg.symm.trans hm
      cases this
      rfl
    refine ⟨K, fd, Rm.spLaw K, KX, fun s u => (L2.FunD.bindsA (ps := ["_law_script"]) F fun _ _ _ _ _ _ us hl => match us, hl with | [_], _ => rfl) s [u] rfl, fun H a ns hl sq => ⟨a, ns, rfl, sq, hl, fun _ => rfl⟩, fun base h1 h2 s H a Q en bd hs => ?_⟩
    exact Rm.law1 (k := 9) F Rm.f_law_sc (fun cdv s H a Q hr hs => Rm.body_law T _ cdv s H a Q hr hs) s H a Q ⟨rfl, by decide, by decide⟩ en bd hs
