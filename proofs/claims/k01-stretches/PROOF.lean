import PyProof.Rows.All
import Wide.All
import OpenK.AllK
import Wide.FinOn
import HandS.ForMost
import HandS.ForExc
import HandS.More
import HandS.IsInst
import HandS.Style
import HandS.Wide
import HandS.SetFor
import HandS.Defaults
import HandS.CallSlots
import HandS.TryMany
import HandS.Evl
import KE.KEqDeep
import KE.KEqSeq
import PySem.Challenge.RW_seatmarks_k01_stretches
set_option Elab.async false
set_option linter.all false
set_option maxRecDepth 100000
set_option maxHeartbeats 4000000
/-! ### own rules: defs and methods by one hypothesis each, exceptions, small tactics -/
namespace Sm
open PySem PySem.Spec L2 PyProof.Rows
section
variable (P : Program) (w : World) (K : PySem.W.Frag) (mg : Str → Option Value) (base : Heap)
/-- a def of the module, called by its name -/
structure Dfn (k : Nat) (x : Str) (dvs : List V) (sp : Sp) : Prop where
  ex : ∃ (f : Addr) (fd : FuncData) (ps : List Str) (ds : List Value), FnOk P w K mg base (L2.CX P w) k f fd ps sp ∧ mg x = some (.ref f) ∧ PySem.W.keepIn K (.ref f) = true ∧ Binds K fd ps ds ∧ Vals dvs ds
/-- a method -/
structure Mth (k : Nat) (C : Addr) (m : Str) (dvs : List V) (sp : Sp) : Prop where
  ex : ∃ (f : Addr) (fd : FuncData) (ps : List Str) (ds : List Value), FnOk P w K mg base (L2.CX P w) k f fd ps sp ∧ Meth K C m f ∧ Binds K fd ps ds ∧ Vals dvs ds
  cl : Cls K C
/-- a class that is made by its __init__ -/
structure Mke (k : Nat) (C : Addr) (x : Str) (sp : Sp) : Prop where
  ex : ∃ (f : Addr) (fd : FuncData) (ps : List Str), FnOk P w K mg base (L2.CX P w) k f fd ps sp ∧ Mk K C f ∧ mg x = some (.ref C) ∧ Binds K fd ps []
/-- an own exception class without __init__, over ValueError at any depth -/
structure Xc (x : Str) (C : Addr) : Prop where
  gC : mg x = some (.ref C)
  xC : PySem.W.excIn K C [.type "ValueError", .type "Exception", .type "BaseException", .type "object"] "ValueError.__new__" = true
  kC : PySem.W.keepIn K (.ref C) = true
  bC : PySem.W.subIn K (.ref C) (.type "BaseException") = some true
  tC : PySem.W.typeIn K (.ref C) = some (.type "type")
  iC : PySem.W.isClsIn K C = true
end
section
variable {X : Cx} {k j : Nat} {C : Addr} {x m : Str} {sp : Sp} {dvs : List V} {E : XK} {ES : L2.St → XK} {p pos apos : Pos} {e o : Expr} {es : List Expr} {ta : TE} {t : TA}
theorem pe_def (D : Dfn X.prog X.w X.K X.mg X.base k x dvs sp) (hr : Room k X.A) (hx : Passes (L2.CX X.prog X.w) X E) (ha : PA X (e :: es) t) (hg : Gl X x := by rfl)
    (hdb : (x == ("__debug__" : Str)) = false := by decide) (he : starEach (e :: es) X.env = (false, eval e X.env) :: starEach es X.env := by rfl) (hpl : (backTo pos (starEach es X.env)).any (·.1) = false := by rfl) :
    PE X (.Call (.Name x p) (e :: es) [] pos) (tCall sp dvs E t) := by
  obtain ⟨f, fd, ps, ds, F, hm, hk, hb, hd⟩ := D.ex
  exact pe_call F hr hg hm hk hb hd hx ha hdb he hpl
theorem pe_mth {pl : Sem Bool} (D : Mth X.prog X.w X.K X.mg X.base k C m dvs sp) (hr : Room k X.A) (hx : Passes (L2.CX X.prog X.w) X E) (he : PE X o ta) (ha : PA X (e :: es) t)
    (hst : starEach (e :: es) X.env = (false, eval e X.env) :: starEach es X.env := by rfl) (hpl : (backTo pos (starEach es X.env)).any (·.1) = false := by rfl)
    (ht : eval (.Call (.Attribute o m apos) (e :: es) [] pos) X.env = (do
      let ov ← eval o X.env
      standAt apos.atName
      let (f, first) ← holding [ov] (getMethod ov m pl)
      callWith pos f first (backTo pos (starEach (e :: es) X.env)) (backToKw pos (keywordEach [] X.env))) := by rfl) :
    PE X (.Call (.Attribute o m apos) (e :: es) [] pos) (tMeth C m sp dvs E ta t) := by
  obtain ⟨f, fd, ps, ds, F, hm, hb, hd⟩ := D.ex
  exact pe_meth he D.cl hm F hr hb hd hx ha hst hpl ht
theorem pe_mth0 {pl : Sem Bool} (D : Mth X.prog X.w X.K X.mg X.base k C m dvs sp) (hr : Room k X.A) (hx : Passes (L2.CX X.prog X.w) X E) (he : PE X o ta)
    (ht : eval (.Call (.Attribute o m apos) [] [] pos) X.env = (do
      let ov ← eval o X.env
      standAt apos.atName
      let (f, first) ← holding [ov] (getMethod ov m pl)
      callWith pos f first (backTo pos (starEach [] X.env)) (backToKw pos (keywordEach [] X.env))) := by rfl) :
    PE X (.Call (.Attribute o m apos) [] [] pos) (tMeth C m sp dvs E ta tNil) := by
  obtain ⟨f, fd, ps, ds, F, hm, hb, hd⟩ := D.ex
  exact pe_meth0 he D.cl hm F hr hb hd hx ht
theorem pe_mk (D : Mke X.prog X.w X.K X.mg X.base k C x sp) (hr : Room (k + 1) X.A) (hx : Passes (L2.CX X.prog X.w) X E) (ha : PA X (e :: es) t) (hg : Gl X x := by rfl)
    (hdb : (x == ("__debug__" : Str)) = false := by decide) (he : starEach (e :: es) X.env = (false, eval e X.env) :: starEach es X.env := by rfl) (hpl : (backTo pos (starEach es X.env)).any (·.1) = false := by rfl) :
    PE X (.Call (.Name x p) (e :: es) [] pos) (tMake C sp [] E t) := by
  obtain ⟨f, fd, ps, F, M, hm, hb⟩ := D.ex
  exact pe_make M F hr hg hm hb .nil hx ha hdb he hpl
theorem pmk {n : Nat} {p2 : Pos} {z : Str} (D : Xc X.K X.mg x C) (hg : Gl X x := by rfl) (hdb : (x == ("__debug__" : Str)) = false := by decide) :
    PMk X (.Call (.Name x p) [.Constant (.str z) n p2] [] pos) (fun _ H Q => Q (.ref C) none H) :=
  pmk_own PySem.F.excBase_ValueError D.xC D.gC D.kC (raises_own D.bC D.tC) hg hdb
theorem pe_const {i : Int} (h : ∃ t, X.mg x = some (.int i t)) (hg : Gl X x := by rfl) (hd : (x == ("__debug__" : Str)) = false := by decide) : PE X (.Name x pos) (tC (.int i)) := by
  obtain ⟨t, h⟩ := h
  exact pe_glob hg h ⟨t, rfl⟩ hd
end
/-- 1 << l -/
def rShl1 : R2 := fun x y H Q => ∃ l : Nat, x = .int 1 ∧ y = .int l ∧ l ≤ 1000 ∧ Q (.int (2 ^ l)) H
theorem op_shl1 {X : Cx} : OpR X (binaryOp .LShift) rShl1 := by
  intro pins s σ H x y v u Q I rx ry h
  obtain ⟨l, rfl, rfl, hl, q⟩ := h
  refine op_shl pins s σ H _ _ v u Q I rx ry ⟨_, _, rfl, rfl, ⟨by omega, by omega, by decide⟩, ?_⟩
  show Q (.int ((1 : Int) * 2 ^ ((l : Int)).toNat)) H
  rw [Int.one_mul, Int.toNat_natCast]; exact q
/-- what is asked of a thing that may be no number: its type is known, ints alone pass -/
def KdV (K : PySem.W.Frag) (H : Hp) (x : V) : Prop := ∃ (T : String) (b1 b2 : Bool), TyX K H x (.type T) ∧ kitB T "int" = some b1 ∧ kitB T "bool" = some b2 ∧ ((b1 && !b2) = true → ∃ i, x = .int i) ∧ ((b1 && !b2) = false → ∀ i, x ≠ .int i)
def amongV (x : V) (lo hi : Int) : Bool := match x with
  | .int i => decide (lo ≤ i) && decide (i ≤ hi)
  | _ => false
theorem KdV.int {K : PySem.W.Frag} {H : Hp} {i : Int} : KdV K H (.int i) := ⟨"int", true, false, .base (.int i), by decide +kernel, by decide +kernel, fun _ => ⟨i, rfl⟩, fun z => by cases z⟩
theorem KdV.non {K : PySem.W.Frag} {H : Hp} : KdV K H .non := ⟨"NoneType", false, false, .base .non, by decide +kernel, by decide +kernel, (fun z => by cases z), fun _ i z => by cases z⟩
theorem ifT {c A B : Prop} [Decidable c] (hc : c) (h : A) : if decide c = true then A else B := by rw [if_pos (decide_eq_true hc)]; exact h
theorem ifF {c A B : Prop} [Decidable c] (hc : ¬ c) (h : B) : if decide c = true then A else B := by rw [decide_eq_false hc]; exact iteF h
theorem ifNT {c A B : Prop} [Decidable c] (hc : ¬ c) (h : A) : if (!decide c) = true then A else B := by rw [decide_eq_false hc]; exact iteT h
theorem ifNF {c A B : Prop} [Decidable c] (hc : c) (h : B) : if (!decide c) = true then A else B := by rw [decide_eq_true hc]; exact iteF h
theorem ifB {b : Bool} {A B : Prop} (h1 : b = true → A) (h2 : b = false → B) : if b = true then A else B := by
  cases b with
  | true => exact iteT (h1 rfl)
  | false => exact iteF (h2 rfl)
/-- a test of which only so much is said: its ways are taken up behind it -/
theorem join {c : TT} {σ : L2.St} {H : Hp} {Q : Bool → Hp → Prop} (R : Bool → Hp → Prop) (h1 : ∀ Q' : Bool → Hp → Prop, (∀ b H', R b H' → Q' b H') → c σ H Q') (h2 : ∀ b H', R b H' → Q b H') : c σ H Q := h1 Q h2
/-- for i, x in enumerate(xs) -/
theorem for_enumL {K : PySem.W.Frag} {a : Addr} {xs : List V} {g : TG} {tb : TS} {D : Ends} {σ : L2.St} {H : Hp} (Pv : Nat → L2.St → Hp → Prop) (h0 : Pv 0 σ H) (hq : ∀ i σ H, Pv i σ H → SqL K H a xs)
    (hs : ∀ (i : Nat) (x : V) (T : Addr) (σ : L2.St) (H : Hp), xs[i]? = some x → Pv i σ H → H T = none → g (.ref T) σ (upd H T (.tup [.int (i : Nat), x])) fun σ2 H2 => tb { D with nx := Pv (i + 1), ct := Pv (i + 1), bk := D.nx } σ2 H2) (hd : ∀ σ H, Pv xs.length σ H → D.nx σ H) :
    ∃ W : Nat → Nat → L2.St → Hp → Prop, (∃ m, W 0 m σ H) ∧ ∀ i m σ H, W i m σ H →
      ((Ite K a).stop i H ∧ D.nx σ H) ∨ ((Ite K a).go i H ∧ ∃ N : L2.St → Hp → Prop, (∀ σ' H', N σ' H' → ∃ m', m' < m ∧ W (i + 1) m' σ' H') ∧ ∀ v H', (Ite K a).yld i H v H' → g v σ H' fun σ2 H2 => tb { D with nx := N, ct := N, bk := D.nx } σ2 H2) := by
  refine ⟨fun i m σ H => m = xs.length - i ∧ i ≤ xs.length ∧ Pv i σ H, ⟨xs.length, rfl, Nat.zero_le _, h0⟩, ?_⟩
  rintro i m σ H ⟨rfl, hi, p⟩
  have qx := hq i σ H p
  by_cases hlt : i < xs.length
  · have hx : xs[i]? = some xs[i] := List.getElem?_eq_getElem hlt
    refine .inr ⟨⟨xs, _, qx, hx⟩, Pv (i + 1), fun σ' H' p' => ⟨xs.length - (i + 1), by omega, rfl, hlt, p'⟩, fun v H' y => ?_⟩
    obtain ⟨T, x', rfl, hT, rfl, f1⟩ := y
    exact hs i x' T σ H (f1 xs qx) p hT
  · have e : i = xs.length := by omega
    subst e
    exact .inl ⟨⟨xs, qx, Nat.le_refl _⟩, hd σ H p⟩
theorem tyes {σ : L2.St} {H : Hp} {Q : Bool → Hp → Prop} (h : Q true H) : tYes σ H Q := h
end Sm
local macro_rules | `(tactic| walk_at "hp") => `(tactic| first | assumption | exact L2.upd_same | (rw [L2.upd_ne (by assumption)]; assumption))
local macro_rules | `(tactic| walk_at "s") => `(tactic| first
  | refine ⟨_, rfl, ?_⟩
  | refine ⟨_, _, rfl, rfl, ?_⟩
  | refine ⟨_, _, rfl, rfl, ⟨by omega, by omega⟩, ?_⟩
  | refine ⟨_, _, rfl, rfl, by omega, ?_⟩)
local macro_rules | `(tactic| walk_at "go") => `(tactic| repeat walk_at "s")

namespace Sm
open PySem PySem.Spec L2 PyProof.Rows
def top (i : Nat) : Stmt := PySem.Challenge.pw_seatmarks_k01_stretches.main.body.getD i (.Pass ⟨0, 0, 0, 0⟩)
abbrev s_is_among : Stmt := top 5
abbrev s_need_among : Stmt := top 6
abbrev s_is_too_full : Stmt := top 7
abbrev s_stretch_at : Stmt := top 8
abbrev s_spread : Stmt := top 9
abbrev s_l_next : Stmt := top 11
abbrev s_l_too_many : Stmt := top 12
abbrev s_l_whole : Stmt := top 13
abbrev s_l_spread_right : Stmt := top 14
abbrev s_law : Stmt := top 15
theorem sc_is_among : FnScope ["thing", "least", "most"] ["thing", "least", "most"] (defScope s_is_among) := ⟨rfl, rfl, rfl, by decide +kernel, rfl, by decide +kernel, by decide +kernel⟩
theorem sc_need_among : FnScope ["thing", "least", "most"] ["thing", "least", "most"] (defScope s_need_among) := ⟨rfl, rfl, rfl, by decide +kernel, rfl, by decide +kernel, by decide +kernel⟩
theorem sc_is_too_full : FnScope ["level", "many", "turn"] ["level", "many"] (defScope s_is_too_full) := ⟨rfl, rfl, rfl, by decide +kernel, rfl, by decide +kernel, by decide +kernel⟩
theorem sc_stretch_at : FnScope ["level", "mark"] ["level", "mark"] (defScope s_stretch_at) := ⟨rfl, rfl, rfl, by decide +kernel, rfl, by decide +kernel, by decide +kernel⟩
theorem sc_spread : FnScope ["level", "start", "many", "turn"] ["level", "start", "many"] (defScope s_spread) := ⟨rfl, rfl, rfl, by decide +kernel, rfl, by decide +kernel, by decide +kernel⟩
theorem sc_l_next : FnScope ["_law_state", "_law_k", "_law_cells", "_law_base"] ["_law_state"] (defScope s_l_next) := ⟨rfl, rfl, rfl, by decide +kernel, rfl, by decide +kernel, by decide +kernel⟩
theorem sc_l_too_many : FnScope ["_law_level", "_law_many", "_law_room", "_law_turn"] ["_law_level", "_law_many"] (defScope s_l_too_many) := ⟨rfl, rfl, rfl, by decide +kernel, rfl, by decide +kernel, by decide +kernel⟩
theorem sc_l_whole : FnScope ["_law_thing"] ["_law_thing"] (defScope s_l_whole) := ⟨rfl, rfl, rfl, by decide +kernel, rfl, by decide +kernel, by decide +kernel⟩
theorem sc_l_spread_right : FnScope ["_law_level", "_law_start", "_law_many", "_law_size", "_law_found", "_law_mark", "_law_place", "_law_exact", "_law_kept"] ["_law_level", "_law_start", "_law_many"] (defScope s_l_spread_right) := ⟨rfl, rfl, rfl, by decide +kernel, rfl, by decide +kernel, by decide +kernel⟩
theorem sc_law : FnScope ["_law_script", "_law_state", "_law_cell", "_law_n", "_law_level", "_law_most", "_law_any_one", "_law_many", "_law_found", "_law_start", "_law_first"] ["_law_script"] (defScope s_law) := ⟨rfl, rfl, rfl, by decide +kernel, rfl, by decide +kernel, by decide +kernel⟩
structure Txt (K : PySem.W.Frag) (mg : Str → Option Value) (CB CN CT CF CS : Addr) : Prop where
  n_len : mg "len" = none
  n_isinstance : mg "isinstance" = none
  n_range : mg "range" = none
  n_min : mg "min" = none
  n_list : mg "list" = none
  n_all : mg "all" = none
  n_enumerate : mg "enumerate" = none
  n_int : mg "int" = none
  n_bool : mg "bool" = none
  g_MOST_WIDE : ∃ t, mg "MOST_WIDE" = some (.int 60 t)
  x_BadWide : Xc K mg "BadWide" CB
  x_SeatError : Xc K mg "SeatError" CS
/-! ### the promises of stretches.py -/
def spAmong (K : PySem.W.Frag) : Sp := fun vs H Q _ => ∃ (x : V) (lo hi : Int), vs = [x, .int lo, .int hi] ∧ KdV K H x ∧ Q (.bl (amongV x lo hi)) H
def spNeed (K : PySem.W.Frag) (CB : Addr) : Sp := fun vs H Q E => ∃ (x : V) (lo hi : Int), vs = [x, .int lo, .int hi] ∧ KdV K H x ∧ (amongV x lo hi = true → Q .non H) ∧ (amongV x lo hi = false → E (.ref CB) none H)
/-- too many things for a stretch of a level -/
def tooMany (l : Nat) (n : Int) : Bool := decide ((4 : Int) ^ l < n * 3 ^ l)
/-- the first mark of the stretch of a level that a mark lies in -/
def startOf (l : Nat) (m : Int) : Int := m / 2 ^ l * 2 ^ l
def okL (x : V) : Bool := amongV x 0 60
def okN (x : V) : Bool := amongV x 0 (2 ^ 60)
def okM (x : V) : Bool := amongV x 0 (2 ^ 60 - 1)
def spFullG (K : PySem.W.Frag) (CB : Addr) : Sp := fun vs H Q E => ∃ (x y : V), vs = [x, y] ∧ KdV K H x ∧ KdV K H y ∧
  (∀ (l : Nat) (n : Int), x = .int l → y = .int n → l ≤ 60 → 0 ≤ n → n ≤ 2 ^ 60 → Q (.bl (tooMany l n)) H) ∧ ((okL x && okN y) = false → E (.ref CB) none H)
def spAtG (K : PySem.W.Frag) (CB : Addr) : Sp := fun vs H Q E => ∃ (x y : V), vs = [x, y] ∧ KdV K H x ∧ KdV K H y ∧
  (∀ (l : Nat) (n : Int), x = .int l → y = .int n → l ≤ 60 → 0 ≤ n → n < 2 ^ 60 → Q (.int (startOf l n)) H) ∧ ((okL x && okM y) = false → E (.ref CB) none H)
/-- the marks of n things, spread on a stretch -/
def marksOf (l : Nat) (st : Int) (n : Nat) : List Int := (List.range n).map fun i : Nat => st + (i : Int) * 2 ^ l / (n : Int)
def okC (x y : V) : Bool := match x with
  | .int l => amongV y 0 (2 ^ (min l.toNat 10))
  | _ => false
def spSpreadG (K : PySem.W.Frag) (CB : Addr) : Sp := fun vs H Q E => ∃ (x y z : V), vs = [x, y, z] ∧ KdV K H x ∧ KdV K H y ∧ KdV K H z ∧
  (∀ (l n : Nat) (st : Int), x = .int l → y = .int st → z = .int n → l ≤ 60 → 0 ≤ st → st < 2 ^ 60 → n ≤ 2 ^ l → n ≤ 1024 →
    ∀ p H', H p = none → Same H H' → H' p = some (.lst ((marksOf l st n).map V.int)) → Q (.ref p) H') ∧ ((okL x && okM y && okC x z) = false → E (.ref CB) none H)
def spFull (K : PySem.W.Frag) (CB : Addr) : Sp := fun vs H Q E => (∃ (l : Nat) (n : Int), vs = [.int l, .int n] ∧ l ≤ 60 ∧ 0 ≤ n ∧ n ≤ 2 ^ 60 ∧ Q (.bl (tooMany l n)) H) ∨
  ∃ x y : V, vs = [x, y] ∧ KdV K H x ∧ KdV K H y ∧ (okL x && okN y) = false ∧ E (.ref CB) none H
def spAt (K : PySem.W.Frag) (CB : Addr) : Sp := fun vs H Q E => (∃ (l : Nat) (n : Int), vs = [.int l, .int n] ∧ l ≤ 60 ∧ 0 ≤ n ∧ n < 2 ^ 60 ∧ Q (.int (startOf l n)) H) ∨
  ∃ x y : V, vs = [x, y] ∧ KdV K H x ∧ KdV K H y ∧ (okL x && okM y) = false ∧ E (.ref CB) none H
def spSpread (K : PySem.W.Frag) (CB : Addr) : Sp := fun vs H Q E => (∃ (l n : Nat) (st : Int), vs = [.int l, .int st, .int n] ∧ l ≤ 60 ∧ 0 ≤ st ∧ st < 2 ^ 60 ∧ n ≤ 2 ^ l ∧ n ≤ 1024 ∧
    ∀ p H', H p = none → Same H H' → H' p = some (.lst ((marksOf l st n).map V.int)) → Q (.ref p) H') ∨
  ∃ x y z : V, vs = [x, y, z] ∧ KdV K H x ∧ KdV K H y ∧ KdV K H z ∧ (okL x && okM y && okC x z) = false ∧ E (.ref CB) none H
section
variable {P : Program} {w : World} {K : PySem.W.Frag} {mg : Str → Option Value} {base : Heap} {CB CN CT CF CS : Addr} {f : Addr} {fd : FuncData}
theorem ok_is_among (F : Fun K "is_among" "is_among" s_is_among f fd) (T : Txt K mg CB CN CT CF CS) : FnOk P w K mg base (L2.CX P w) 1 f fd ["thing", "least", "most"] (spAmong K) := by
  refine F.okX sc_is_among (fun vs H Q E h => ?_) (fun cdv A outer s H vs Q E hr h => ?_)
  · obtain ⟨x, lo, hi, rfl, _⟩ := h; rfl
  · obtain ⟨x, lo, hi, rfl, ⟨Ty, b1, b2, ht, k1, k2, h1, h2⟩, q⟩ := h
    refine ⟨_, (pss_one (ps_ret (pe_and (pe_callB call_isi (by rfl) T.n_isinstance (by decide +kernel) (pa_cons (pv 0) (pa_cons (pe_bltn (v := .ty "int") rfl T.n_int (by decide +kernel) rfl) pa_nil))) (pe_and (pe_not (pe_callB call_isi (by rfl) T.n_isinstance (by decide +kernel) (pa_cons (pv 0) (pa_cons (pe_bltn (v := .ty "bool") rfl T.n_bool (by decide +kernel) rfl) pa_nil)))) (pe_one (pe_chain op_le op_le (pv 1) (pv 0) (pv 2))))))), ?_⟩
    refine ⟨_, rfl, _, _, _, _, b1, rfl, .ty "int", ht, kit_ty k1, b1, rfl, ?_⟩
    cases b1 with
    | false =>
      refine iteF ?_
      have e : amongV x lo hi = false := by
        cases x <;> first | rfl | exact absurd rfl (h2 rfl _)
      show Q (.bl false) H
      rw [← e]; exact q
    | true =>
      refine iteT ?_
      refine ⟨_, rfl, _, _, _, _, b2, rfl, .ty "bool", ht, kit_ty k2, b2, rfl, !b2, rfl, ?_⟩
      cases b2 with
      | true =>
        refine iteF ?_
        have e : amongV x lo hi = false := by
          cases x <;> first | rfl | exact absurd rfl (h2 rfl _)
        show Q (.bl false) H
        rw [← e]; exact q
      | false =>
        refine iteT ?_
        obtain ⟨i, rfl⟩ := h1 rfl
        refine ⟨_, rfl, _, rfl, _, _, rfl, rfl, _, rfl, ?_⟩
        by_cases c : lo ≤ i
        · rw [if_pos (decide_eq_true c)]
          refine ⟨_, rfl, _, _, rfl, rfl, ?_⟩
          have e : amongV (.int i) lo hi = decide (i ≤ hi) := by
            show (decide (lo ≤ i) && decide (i ≤ hi)) = _
            rw [decide_eq_true c]; rfl
          show Q (.bl (decide (i ≤ hi))) H
          rw [← e]; exact q
        · rw [if_neg (by simpa using c)]
          have e : amongV (.int i) lo hi = false := by
            show (decide (lo ≤ i) && decide (i ≤ hi)) = _
            rw [decide_eq_false c]; rfl
          show Q (.bl false) H
          rw [← e]; exact q
theorem ok_need_among (F : Fun K "need_among" "need_among" s_need_among f fd) (T : Txt K mg CB CN CT CF CS) (d_is_among : Dfn P w K mg base 1 "is_among" [] (spAmong K)) : FnOk P w K mg base (L2.CX P w) 2 f fd ["thing", "least", "most"] (spNeed K CB) := by
  refine F.okX sc_need_among (fun vs H Q E h => ?_) (fun cdv A outer s H vs Q E hr h => ?_)
  · obtain ⟨x, lo, hi, rfl, _⟩ := h; rfl
  · obtain ⟨x, lo, hi, rfl, hk, q, e⟩ := h
    refine ⟨_, (pss_one (ps_if (pt_not (pt_val (Sm.pe_def d_is_among (hr.mono (by decide)) (passes_call (takes_of rfl rfl rfl rfl) (fun _ _ _ _ z => z)) (pa_cons (pv 0) (pa_cons (pv 1) (pa_cons (pv 2) pa_nil))))))
        (pss_one (ps_raise rfl (takes_of rfl rfl rfl rfl) (Sm.pmk T.x_BadWide)))
        pss_nil)), ?_⟩
    refine ⟨_, rfl, _, rfl, _, rfl, x, lo, hi, rfl, hk, _, rfl, ?_⟩
    cases c : amongV x lo hi with
    | true => exact iteF (q c)
    | false => exact iteT (e c)
theorem among_int {i lo hi : Int} : amongV (.int i) lo hi = true ↔ lo ≤ i ∧ i ≤ hi := by
  show (decide (lo ≤ i) && decide (i ≤ hi)) = true ↔ _
  rw [Bool.and_eq_true, decide_eq_true_eq, decide_eq_true_eq]
theorem among_nat {x : V} {hi : Int} (h : amongV x 0 hi = true) : ∃ n : Nat, x = .int n ∧ (n : Int) ≤ hi := by
  cases x with
  | int i =>
    obtain ⟨h1, h2⟩ := among_int.mp h
    exact ⟨i.toNat, by rw [Int.toNat_of_nonneg h1], by rw [Int.toNat_of_nonneg h1]; exact h2⟩
  | _ => exact absurd h (by simp [amongV])
theorem full_end {CB : Addr} {l : Nat} {n : Int} {H : Hp} {Q : VK} {E : XK} (hl : l ≤ 60) (h0 : 0 ≤ n) (h1 : n ≤ 2 ^ 60) (q : Q (.bl (tooMany l n)) H) :
    (∀ (l' : Nat) (n' : Int), V.int l = .int l' → V.int n = .int n' → l' ≤ 60 → 0 ≤ n' → n' ≤ 2 ^ 60 → Q (.bl (tooMany l' n')) H) ∧ ((okL (.int l) && okN (.int n)) = false → E (.ref CB) none H) := by
  refine ⟨fun l' n' e1 e2 _ _ _ => ?_, fun e => ?_⟩
  · have e1' : (l : Int) = l' := V.int.inj e1
    have e2' : n = n' := V.int.inj e2
    have : l = l' := by omega
    subst this e2'; exact q
  · have h : (okL (.int l) && okN (.int n)) = true := Bool.and_eq_true_iff.mpr ⟨among_int.mpr (by omega), among_int.mpr (by omega)⟩
    rw [e] at h; cases h
theorem at_end {CB : Addr} {l : Nat} {n : Int} {H : Hp} {Q : VK} {E : XK} (hl : l ≤ 60) (h0 : 0 ≤ n) (h1 : n < 2 ^ 60) (q : Q (.int (startOf l n)) H) :
    (∀ (l' : Nat) (n' : Int), V.int l = .int l' → V.int n = .int n' → l' ≤ 60 → 0 ≤ n' → n' < 2 ^ 60 → Q (.int (startOf l' n')) H) ∧ ((okL (.int l) && okM (.int n)) = false → E (.ref CB) none H) := by
  refine ⟨fun l' n' e1 e2 _ _ _ => ?_, fun e => ?_⟩
  · have e1' : (l : Int) = l' := V.int.inj e1
    have e2' : n = n' := V.int.inj e2
    have : l = l' := by omega
    subst this e2'; exact q
  · have h : (okL (.int l) && okM (.int n)) = true := Bool.and_eq_true_iff.mpr ⟨among_int.mpr (by omega), among_int.mpr (by omega)⟩
    rw [e] at h; cases h
theorem spread_end {CB : Addr} {l n : Nat} {st : Int} {H : Hp} {Q : VK} {E : XK} (hl : l ≤ 60) (h0 : 0 ≤ st) (h1 : st < 2 ^ 60) (hn : n ≤ 2 ^ l) (hn2 : n ≤ 1024)
    (q : ∀ p H', H p = none → Same H H' → H' p = some (.lst ((marksOf l st n).map V.int)) → Q (.ref p) H') :
    (∀ (l' n' : Nat) (st' : Int), V.int l = .int l' → V.int st = .int st' → V.int n = .int n' → l' ≤ 60 → 0 ≤ st' → st' < 2 ^ 60 → n' ≤ 2 ^ l' → n' ≤ 1024 →
      ∀ p H', H p = none → Same H H' → H' p = some (.lst ((marksOf l' st' n').map V.int)) → Q (.ref p) H') ∧ ((okL (.int l) && okM (.int st) && okC (.int l) (.int n)) = false → E (.ref CB) none H) := by
  refine ⟨fun l' n' st' e1 e2 e3 _ _ _ _ _ => ?_, fun e => ?_⟩
  · have e1' : (l : Int) = l' := V.int.inj e1
    have e2' : st = st' := V.int.inj e2
    have e3' : (n : Int) = n' := V.int.inj e3
    have : l = l' := by omega
    have : n = n' := by omega
    subst l' n' st'; exact q
  · have h : (okL (.int l) && okM (.int st) && okC (.int l) (.int n)) = true := Bool.and_eq_true_iff.mpr ⟨Bool.and_eq_true_iff.mpr ⟨among_int.mpr (by omega), among_int.mpr (by omega)⟩, by
      show amongV (.int n) 0 (2 ^ (min (l : Int).toNat 10)) = true
      rw [Int.toNat_natCast]
      refine among_int.mpr ⟨by omega, ?_⟩
      rcases Nat.le_total l 10 with c | c
      · rw [Nat.min_eq_left c]; exact_mod_cast hn
      · rw [Nat.min_eq_right c]; exact_mod_cast hn2⟩
    rw [e] at h; cases h
theorem full_of {K : PySem.W.Frag} {CB : Addr} {vs : List V} {H : Hp} {Q : VK} {E : XK} (h : spFull K CB vs H Q E) : spFullG K CB vs H Q E := by
  rcases h with ⟨l, n, rfl, hl, h0, h1, q⟩ | ⟨x, y, rfl, hx, hy, b, e⟩
  · exact ⟨_, _, rfl, .int, .int, full_end hl h0 h1 q⟩
  · refine ⟨x, y, rfl, hx, hy, fun l n e1 e2 hl h0 h1 => ?_, fun _ => e⟩
    subst e1 e2
    have h : (okL (.int l) && okN (.int n)) = true := Bool.and_eq_true_iff.mpr ⟨among_int.mpr (by omega), among_int.mpr (by omega)⟩
    rw [b] at h; cases h
theorem at_of' {K : PySem.W.Frag} {CB : Addr} {vs : List V} {H : Hp} {Q : VK} {E : XK} (h : spAt K CB vs H Q E) : spAtG K CB vs H Q E := by
  rcases h with ⟨l, n, rfl, hl, h0, h1, q⟩ | ⟨x, y, rfl, hx, hy, b, e⟩
  · exact ⟨_, _, rfl, .int, .int, at_end hl h0 h1 q⟩
  · refine ⟨x, y, rfl, hx, hy, fun l n e1 e2 hl h0 h1 => ?_, fun _ => e⟩
    subst e1 e2
    have h : (okL (.int l) && okM (.int n)) = true := Bool.and_eq_true_iff.mpr ⟨among_int.mpr (by omega), among_int.mpr (by omega)⟩
    rw [b] at h; cases h
theorem okC_of {l n : Nat} (hn : n ≤ 2 ^ l) (hn2 : n ≤ 1024) : okC (.int l) (.int n) = true := by
  show amongV (.int n) 0 (2 ^ (min (l : Int).toNat 10)) = true
  rw [Int.toNat_natCast]
  refine among_int.mpr ⟨by omega, ?_⟩
  rcases Nat.le_total l 10 with c | c
  · rw [Nat.min_eq_left c]; exact_mod_cast hn
  · rw [Nat.min_eq_right c]; exact_mod_cast hn2
theorem spread_of {K : PySem.W.Frag} {CB : Addr} {vs : List V} {H : Hp} {Q : VK} {E : XK} (h : spSpread K CB vs H Q E) : spSpreadG K CB vs H Q E := by
  rcases h with ⟨l, n, st, rfl, hl, h0, h1, hn, hn2, q⟩ | ⟨x, y, z, rfl, hx, hy, hz, b, e⟩
  · exact ⟨_, _, _, rfl, .int, .int, .int, spread_end hl h0 h1 hn hn2 q⟩
  · refine ⟨x, y, z, rfl, hx, hy, hz, fun l n st e1 e2 e3 hl h0 h1 hn hn2 => ?_, fun _ => e⟩
    subst e1 e2 e3
    have h : (okL (.int l) && okM (.int st) && okC (.int l) (.int n)) = true := Bool.and_eq_true_iff.mpr ⟨Bool.and_eq_true_iff.mpr ⟨among_int.mpr (by omega), among_int.mpr (by omega)⟩, okC_of hn hn2⟩
    rw [b] at h; cases h
theorem pow3 (l : Nat) (h : l ≤ 60) : (3 : Int) ^ l ≤ 3 ^ 60 := by
  exact_mod_cast Nat.pow_le_pow_right (by decide : 0 < 3) h
theorem small3 {n : Int} {i : Nat} (h0 : 0 ≤ n) (h1 : n ≤ 2 ^ 60) (hi : i ≤ 60) : (n * 3 ^ i).natAbs < 2 ^ 160 := by
  rw [Int.natAbs_mul, Int.natAbs_pow]
  have a : n.natAbs ≤ 2 ^ 60 := by omega
  have b : ((3 : Int).natAbs) ^ i ≤ 3 ^ 60 := Nat.pow_le_pow_right (by decide) hi
  exact Nat.lt_of_le_of_lt (Nat.mul_le_mul a b) (by decide)
theorem ok_is_too_full (F : Fun K "is_too_full" "is_too_full" s_is_too_full f fd) (T : Txt K mg CB CN CT CF CS) (d_need_among : Dfn P w K mg base 2 "need_among" [] (spNeed K CB)) : FnOk P w K mg base (L2.CX P w) 3 f fd ["level", "many"] (spFull K CB) := by
  refine F.okX sc_is_too_full (fun vs H Q E h => ?_) (fun cdv A outer s H vs Q E hr h => ?_)
  · rcases h with ⟨l, n, rfl, _⟩ | ⟨x, y, rfl, _⟩ <;> rfl
  · obtain ⟨x, y, rfl, hx, hy, q, e⟩ := full_of h
    refine ⟨_, (pss_cons (ps_expr (Sm.pe_def d_need_among (hr.mono (by decide)) (passes_call (takes_of rfl rfl rfl rfl) (fun _ _ _ _ z => z)) (pa_cons (pv 0) (pa_cons pe_int (pa_cons (Sm.pe_const T.g_MOST_WIDE) pa_nil)))))
      (pss_cons (ps_expr (Sm.pe_def d_need_among (hr.mono (by decide)) (passes_call (takes_of rfl rfl rfl rfl) (fun _ _ _ _ z => z)) (pa_cons (pv 1) (pa_cons pe_int (pa_cons (pe_op Sm.op_shl1 pe_int (Sm.pe_const T.g_MOST_WIDE)) pa_nil)))))
      (pss_cons (ps_for (passes_of rfl) rfl (pi_range1 rfl T.n_range (pa_cons (pv 0) pa_nil)) (pg_name (i := 2) sc_is_too_full.nd rfl (by first | exact Or.inl rfl | exact Or.inr rfl))
        (pss_one (ps_set (i := 1) sc_is_too_full.nd rfl (by first | exact Or.inl rfl | exact Or.inr rfl) (pe_op op_mulW (pv 1) pe_int))))
      (pss_one (ps_ret (pe_cmpR op_gt (pv 1) (pe_op Sm.op_shl1 pe_int (pe_op op_mulW pe_int (pv 0))) (nomark _))))))), ?_⟩
    refine ⟨_, rfl, x, 0, 60, rfl, hx, fun c1 => ?_, fun c1 => e (by show (amongV x 0 60 && _) = false; rw [c1]; rfl)⟩
    refine ⟨_, rfl, 60, rfl, rfl, by decide, y, 0, 2 ^ 60, rfl, hy, fun c2 => ?_, fun c2 => e (by show (_ && amongV y 0 (2 ^ 60)) = false; rw [c2, Bool.and_false])⟩
    obtain ⟨l, rfl, hl⟩ := among_nat c1
    obtain ⟨n, rfl, hn⟩ := among_nat c2
    have hl : l ≤ 60 := by omega
    refine ⟨_, rfl, (l : Int), rfl, by omega, by omega, for_range (lo := 0) (n := l) (fun i σ H' => H' = H ∧ ∃ v, σ = [some (.int l), some (.int (n * 3 ^ i)), v]) ⟨rfl, none, by rw [Int.pow_zero, Int.mul_one]; rfl⟩ ?_ ?_⟩
    · rintro i σ H' hi ⟨rfl, v, rfl⟩
      refine ⟨_, rfl, _, _, rfl, rfl, wide_mul (small3 (Int.natCast_nonneg _) hn (by omega)) (show (3 : Int).natAbs < 2 ^ 2 by decide) (by decide) (by decide) (by decide), ?_⟩
      refine ⟨rfl, some (.int (0 + (i : Int))), ?_⟩
      show [some (V.int l), some (V.int (n * 3 ^ i * 3)), some (V.int (0 + (i : Int)))] = _
      rw [Int.pow_succ, ← Int.mul_assoc]
    · rintro σ H' ⟨rfl, v, rfl⟩
      refine ⟨_, rfl, _, rfl, _, _, rfl, rfl, wide_mul (show (2 : Int).natAbs < 2 ^ 2 by decide) (show (l : Int).natAbs < 2 ^ 7 by omega) (by decide) (by decide) (by decide), 2 * l, rfl, (by show V.int ((2 : Int) * (l : Int)) = _; exact congrArg V.int (by omega)), by omega, _, _, rfl, rfl, ?_⟩
      have k := q l n rfl rfl hl (Int.natCast_nonneg _) hn
      have e2 : (2 : Int) ^ (2 * l) = 4 ^ l := by
        rw [Int.pow_mul]; rfl
      show Q (.bl (decide ((2 : Int) ^ (2 * l) < n * 3 ^ l))) H'
      rw [e2]
      exact k
theorem ok_stretch_at (F : Fun K "stretch_at" "stretch_at" s_stretch_at f fd) (T : Txt K mg CB CN CT CF CS) (d_need_among : Dfn P w K mg base 2 "need_among" [] (spNeed K CB)) : FnOk P w K mg base (L2.CX P w) 3 f fd ["level", "mark"] (spAt K CB) := by
  refine F.okX sc_stretch_at (fun vs H Q E h => ?_) (fun cdv A outer s H vs Q E hr h => ?_)
  · rcases h with ⟨l, n, rfl, _⟩ | ⟨x, y, rfl, _⟩ <;> rfl
  · obtain ⟨x, y, rfl, hx, hy, q, e⟩ := at_of' h
    refine ⟨_, (pss_cons (ps_expr (Sm.pe_def d_need_among (hr.mono (by decide)) (passes_call (takes_of rfl rfl rfl rfl) (fun _ _ _ _ z => z)) (pa_cons (pv 0) (pa_cons pe_int (pa_cons (Sm.pe_const T.g_MOST_WIDE) pa_nil)))))
      (pss_cons (ps_expr (Sm.pe_def d_need_among (hr.mono (by decide)) (passes_call (takes_of rfl rfl rfl rfl) (fun _ _ _ _ z => z)) (pa_cons (pv 1) (pa_cons pe_int (pa_cons (pe_op op_sub (pe_op Sm.op_shl1 pe_int (Sm.pe_const T.g_MOST_WIDE)) pe_int) pa_nil)))))
      (pss_one (ps_ret (pe_op op_shl (pe_op op_shr (pv 1) (pv 0)) (pv 0)))))), ?_⟩
    refine ⟨_, rfl, x, 0, 60, rfl, hx, fun c1 => ?_, fun c1 => e (by show (amongV x 0 60 && _) = false; rw [c1]; rfl)⟩
    refine ⟨_, rfl, 60, rfl, rfl, by decide, _, _, rfl, rfl, y, 0, 2 ^ 60 - 1, rfl, hy, fun c2 => ?_, fun c2 => e (by show (_ && amongV y 0 (2 ^ 60 - 1)) = false; rw [c2, Bool.and_false])⟩
    obtain ⟨l, rfl, hl⟩ := among_nat c1
    obtain ⟨n, rfl, hn⟩ := among_nat c2
    have hl : l ≤ 60 := by omega
    have k := q l n rfl rfl hl (Int.natCast_nonneg _) (by omega)
    have hd : (n : Int) / 2 ^ l ≤ n := Int.ediv_le_self _ (Int.natCast_nonneg _)
    have hd0 : 0 ≤ (n : Int) / 2 ^ l := Int.ediv_nonneg (Int.natCast_nonneg _) (by exact_mod_cast Nat.zero_le (2 ^ l))
    refine ⟨_, rfl, _, rfl, _, _, rfl, rfl, (by show (0 : Int) ≤ l; omega), _, rfl, _, _, rfl, rfl, ⟨by omega, by omega, ?_⟩, k⟩
    show ((n : Int) / 2 ^ l).natAbs < 2 ^ 64
    omega
/-- some of the marks -/
def marksTo (l : Nat) (st : Int) (n i : Nat) : List Int := (List.range i).map fun k : Nat => st + (k : Int) * 2 ^ l / (n : Int)
theorem marksTo_succ {l n i : Nat} {st : Int} : marksTo l st n (i + 1) = marksTo l st n i ++ [st + (i : Int) * 2 ^ l / (n : Int)] := by
  unfold marksTo
  rw [List.range_succ, List.map_append]; rfl
theorem marksTo_len {l n i : Nat} {st : Int} : (marksTo l st n i).length = i := by
  unfold marksTo
  rw [List.length_map, List.length_range]
theorem min10 (l : Nat) : (if (10 : Int) < (l : Int) then (10 : Int) else (l : Int)) = ((min l 10 : Nat) : Int) := by
  split <;> omega
theorem ok_spread (F : Fun K "spread" "spread" s_spread f fd) (T : Txt K mg CB CN CT CF CS) (d_need_among : Dfn P w K mg base 2 "need_among" [] (spNeed K CB)) : FnOk P w K mg base (L2.CX P w) 3 f fd ["level", "start", "many"] (spSpread K CB) := by
  refine F.okX sc_spread (fun vs H Q E h => ?_) (fun cdv A outer s H vs Q E hr h => ?_)
  · rcases h with ⟨l, n, st, rfl, _⟩ | ⟨x, y, z, rfl, _⟩ <;> rfl
  · obtain ⟨x, y, z, rfl, hx, hy, hz, q, e⟩ := spread_of h
    refine ⟨_, (pss_cons (ps_expr (Sm.pe_def d_need_among (hr.mono (by decide)) (passes_call (takes_of rfl rfl rfl rfl) (fun _ _ _ _ z => z)) (pa_cons (pv 0) (pa_cons pe_int (pa_cons (Sm.pe_const T.g_MOST_WIDE) pa_nil)))))
      (pss_cons (ps_expr (Sm.pe_def d_need_among (hr.mono (by decide)) (passes_call (takes_of rfl rfl rfl rfl) (fun _ _ _ _ z => z)) (pa_cons (pv 1) (pa_cons pe_int (pa_cons (pe_op op_sub (pe_op Sm.op_shl1 pe_int (Sm.pe_const T.g_MOST_WIDE)) pe_int) pa_nil)))))
      (pss_cons (ps_expr (Sm.pe_def d_need_among (hr.mono (by decide)) (passes_call (takes_of rfl rfl rfl rfl) (fun _ _ _ _ z => z)) (pa_cons (pv 2) (pa_cons pe_int (pa_cons (pe_op Sm.op_shl1 pe_int (pe_callB (call_min2 rfl) (by rfl) T.n_min (by decide +kernel) (pa_cons (pv 0) (pa_cons pe_int pa_nil)))) pa_nil)))))
      (pss_one (ps_ret (pe_lc (own := [("turn", 3)]) (g := gName 3) rfl sc_spread.nd (pi_range1 rfl T.n_range (pa_cons (pv 2) pa_nil)) (blkOk_by (N := ["level", "start", "many", "turn"]) (sc := defScope s_spread) (by decide +kernel)) (fun _ _ _ _ _ => pg_name (i := 3) sc_spread.nd rfl (Or.inl rfl)) (fun _ _ _ _ _ => pts_nil) (fun _ _ _ _ _ => (pe_op op_add (pv 1) (pe_op op_fdiv (pe_op op_shl (pv 3) (pv 0)) (pv 2)))))))))), ?_⟩
    refine ⟨_, rfl, x, 0, 60, rfl, hx, fun c1 => ?_, fun c1 => e (by show (amongV x 0 60 && _ && _) = false; rw [c1]; rfl)⟩
    refine ⟨_, rfl, 60, rfl, rfl, by decide, _, _, rfl, rfl, y, 0, 2 ^ 60 - 1, rfl, hy, fun c2 => ?_, fun c2 => e (by show (_ && amongV y 0 (2 ^ 60 - 1) && _) = false; rw [c2, Bool.and_false]; rfl)⟩
    obtain ⟨l, rfl, hl⟩ := among_nat c1
    obtain ⟨m, rfl, hm⟩ := among_nat c2
    have hl : l ≤ 60 := by omega
    refine ⟨_, rfl, _, rfl, _, _, rfl, min l 10, rfl, congrArg V.int (min10 l), by omega, z, 0, _, rfl, hz, fun c3 => ?_, fun c3 => e ?_⟩
    rotate_left
    · show (_ && _ && amongV z 0 (2 ^ (min (l : Int).toNat 10))) = false
      rw [Int.toNat_natCast, c3, Bool.and_false]
    obtain ⟨n, rfl, hn⟩ := among_nat c3
    have hn1 : n ≤ 2 ^ (min l 10) := by exact_mod_cast hn
    have hn2 : n ≤ 2 ^ l := Nat.le_trans hn1 (Nat.pow_le_pow_right (by decide) (Nat.min_le_left _ _))
    have hn3 : n ≤ 1024 := Nat.le_trans hn1 (Nat.pow_le_pow_right (by decide) (Nat.min_le_right _ _))
    have k := q l n m rfl rfl rfl hl (Int.natCast_nonneg _) (by omega) hn2 hn3
    refine ⟨_, rfl, (n : Int), rfl, by omega, by omega, fun Dl hD => lc_range (lo := 0) (n := n) (fun i H' => Same H H' ∧ H' Dl = some (.lst ((marksTo l m n i).map V.int))) ⟨fun b o h => by rw [upd_ne (ne_of_none h hD)]; exact h, upd_same⟩ ?_ ?_⟩
    · rintro i H' hi ⟨s1, a1⟩
      refine ⟨rfl, tyes (iteT ?_)⟩
      refine ⟨_, rfl, _, rfl, _, rfl, _, _, rfl, rfl, ⟨by omega, by omega, by omega⟩, _, rfl, _, _, rfl, rfl, ⟨by omega, by omega⟩, _, _, rfl, rfl, _, a1, ?_, fun b o h => ?_, ?_⟩
      · rw [List.length_map, marksTo_len]
        exact Nat.lt_of_lt_of_le (by omega : i < 1024) (by rw [sizeLine_eq]; decide)
      · rw [upd_ne (ne_of_none h hD)]; exact s1 b o h
      · rw [upd_same, marksTo_succ, List.map_append]
        show some (HO.lst (_ ++ [V.int (m + ((0 : Int) + (i : Int)) * 2 ^ ((l : Int)).toNat / (n : Int))])) = _
        rw [Int.zero_add, Int.toNat_natCast]; rfl
    · rintro H' ⟨s1, a1⟩
      exact k Dl H' hD s1 a1
end
end Sm

namespace Sm
open PySem PySem.Spec L2 PyProof.Rows
/-! ### data compared -/
section
variable {K : PySem.W.Frag} {H H' : Hp} {a st : Addr}
theorem dpAll_ints : ∀ ns : List Int, DpAll K H (ns.map V.int) (ns.map PyData.int)
  | [] => .nil
  | n :: r => .cons (.int n) (dpAll_ints r)
theorem dp_ints {ns : List Int} (h : SqL K H a (ns.map V.int)) : Dp K H (.ref a) (.list (ns.map PyData.int)) := .lst h (dpAll_ints ns)
theorem eqv_ints (ns ms : List Int) : PyData.eqv (.list (ns.map PyData.int)) (.list (ms.map PyData.int)) = decide (ns = ms) := by
  rw [PyData.eqv]; exact PySem.W.ked_eqvAll ns ms
theorem sh_ints (ns : List Int) : SeqAt.shaped (.list (ns.map PyData.int)) = true := PySem.W.ke_shaped_ints ns
/-- all but the object at st is as it was -/
def Fr1 (st : Addr) (H H' : Hp) : Prop := ∀ b o, H b = some o → b ≠ st → H' b = some o
theorem Fr1.refl : Fr1 st H H := fun _ _ h _ => h
theorem Fr1.upd {o : HO} : Fr1 st H (upd H st o) := fun b u h n => by rw [upd_ne n]; exact h
theorem Fr1.same {H2 : Hp} (f : Fr1 st H H') (s : Same H' H2) : Fr1 st H H2 := fun b u h n => s b u (f b u h n)
theorem Fr1.trans {H2 : Hp} (f : Fr1 st H H') (s : Fr1 st H' H2) : Fr1 st H H2 := fun b u h n => s b u (f b u h n) n
theorem sq_fr {xs : List V} {kv : List (Key × V)} (h : SqL K H a xs) (hs : H st = some (.dK kv)) (f : Fr1 st H H') : SqL K H' a xs := by
  rcases h with (h | ⟨o, h⟩) | h
  · exact .inl (.inl (f _ _ h (ne_of h hs (by intro z; cases z))))
  · exact .inl (.inr ⟨o, f _ _ h (ne_of h hs (by intro z; cases z))⟩)
  · exact .inr h
end
theorem upd_new {H : Hp} {p : Addr} {o : HO} (h : H p = none) : Same H (upd H p o) := fun b u e => by rw [upd_ne (ne_of_none e h)]; exact e
/-! ### dicts of two or more text keys -/
section
variable {k1 k2 : Str} {v1 v2 v : V}
theorem val1 {r : List (Key × V)} : valV ((.inr k1, v1) :: r : List (Key × V)) (.inr k1) = some v1 := valV_pos rfl
theorem val2 {r : List (Key × V)} (h : ¬ k1 = k2) : valV ((.inr k1, v1) :: r : List (Key × V)) (.inr k2) = valV r (.inr k2) := valV_neg (fun z => h (Sum.inr.inj z))
theorem put_pos {k : Key} {r : List (Key × V)} : putK ((k, v1) :: r) k v = (k, v) :: r.map (fun kv => if kv.1 = k then (kv.1, v) else kv) := by
  unfold putK
  rw [if_pos (by simp)]
  simp
theorem put_neg {k j : Key} {r : List (Key × V)} (h : ¬ k = j) : putK ((k, v1) :: r) j v = (k, v1) :: putK r j v := by
  unfold putK
  have e : ((((k, v1) :: r : List (Key × V)).any fun kv => decide (kv.1 = j)) = true) ↔ ((r.any fun kv => decide (kv.1 = j)) = true) := by
    simp [h]
  by_cases c : (r.any fun kv => decide (kv.1 = j)) = true
  · rw [if_pos (e.mpr c), if_pos c]; simp [h]
  · rw [if_neg (fun z => c (e.mp z)), if_neg c]; rfl
end
theorem key_ca : ¬ (("cells" : Str) = "at") := by decide +kernel
/-- the state of the law's numbers -/
def stK (a : Addr) (k : Int) : List (Key × V) := [(.inr "cells", .ref a), (.inr "at", .int k)]
theorem stK_at {a : Addr} {k : Int} : valV (stK a k) (.inr "at") = some (.int k) := (val2 key_ca).trans val1
theorem stK_cells {a : Addr} {k : Int} : valV (stK a k) (.inr "cells") = some (.ref a) := val1
theorem stK_put {a : Addr} {k j : Int} : putK (stK a k) (.inr "at") (.int j) = stK a j := by
  unfold stK
  rw [put_neg (fun z => key_ca (Sum.inr.inj z)), put_pos]; rfl
theorem dget_of {H : Hp} {d : Addr} {kv : List (Key × V)} {k : Key} {v : V} (h : H d = some (.dK kv)) (e : valV kv k = some v) : DGet H d (kV k) (some v) := by
  rw [← e]; exact DGet.k h
theorem dput_of {H : Hp} {d : Addr} {kv kv' : List (Key × V)} {k : Key} {v : V} (h : H d = some (.dK kv)) (hl : kv.length ≤ 1000) (e : putK kv k v = kv') : DPut H d (kV k) v (upd H d (.dK kv')) := by
  rw [← e]; exact DPut.k h (small1000 hl)
/-- a number of the law's row: nothing is said of which -/
def spNext (K : PySem.W.Frag) : Sp := fun vs H Q _ => ∃ (st a : Addr) (ns : List Int) (k : Int), vs = [.ref st] ∧ H st = some (.dK (stK a k)) ∧ SqL K H a (ns.map V.int) ∧ ns.length ≤ 100 ∧ 0 ≤ k ∧ k ≤ 1000000 ∧
  ∀ (z : Int) (H' : Hp), 0 ≤ z → z < 2 ^ 29 → H' st = some (.dK (stK a (k + 1))) → Fr1 st H H' → Q (.int z) H'
def spTooMany : Sp := fun vs H Q _ => ∃ (l : Nat) (n : Int), vs = [.int l, .int n] ∧ l ≤ 60 ∧ 0 ≤ n ∧ n ≤ 2 ^ 60 ∧ Q (.bl (tooMany l n)) H
section
variable {P : Program} {w : World} {K : PySem.W.Frag} {mg : Str → Option Value} {base : Heap} {CB CN CT CF CS : Addr} {f : Addr} {fd : FuncData}
theorem ok_l_next (F : Fun K "_law_next" "_law_next" s_l_next f fd) (T : Txt K mg CB CN CT CF CS) : FnOk P w K mg base (L2.CX P w) 1 f fd ["_law_state"] (spNext K) := by
  refine F.okX sc_l_next (fun vs H Q E h => ?_) (fun cdv A outer s H vs Q E hr h => ?_)
  · obtain ⟨st, a, ns, k, rfl, _⟩ := h; rfl
  · obtain ⟨st, a, ns, k, rfl, hs, hx, hl, hk0, hk1, q⟩ := h
    refine ⟨_, (pss_cons (ps_dput (hu_of hr) (pv 0) pe_str (pe_op op_add (pe_dget (hu_of hr) (pv 0) pe_str (fun _ _ => rfl)) pe_int) rfl)
      (pss_cons (ps_set (i := 1) sc_l_next.nd rfl (by first | exact Or.inl rfl | exact Or.inr rfl) (pe_dget (hu_of hr) (pv 0) pe_str (fun _ _ => rfl)))
      (pss_cons (ps_set (i := 2) sc_l_next.nd rfl (by first | exact Or.inl rfl | exact Or.inr rfl) (pe_dget (hu_of hr) (pv 0) pe_str (fun _ _ => rfl)))
      (pss_cons (ps_set (i := 3) sc_l_next.nd rfl (by first | exact Or.inl rfl | exact Or.inr rfl) (pe_op op_add (pe_op op_mul (pe_op op_mul pe_int (pv 1)) (pv 1)) (pe_op op_mul pe_int (pv 1))))
      (pss_cons (ps_if (pt_cmpR (op_neD hr.units) (pv 2) (pe_lst pa_nil) (nomark _))
        (pss_one (ps_set (i := 3) sc_l_next.nd rfl (by first | exact Or.inl rfl | exact Or.inr rfl) (pe_op op_add (pv 3) (pe_op op_mul (pe_op op_mod (pe_ix ix_list (pv 2) (pe_op op_mod (pv 1) (pe_callB call_len_seq (by rfl) T.n_len PySem.boot_len (pa_cons (pv 2) pa_nil))) (fun _ _ => rfl)) pe_int) (pe_op op_add pe_int (pe_op op_fdiv (pv 1) (pe_callB call_len_seq (by rfl) T.n_len PySem.boot_len (pa_cons (pv 2) pa_nil))))))))
        pss_nil)
      (pss_one (ps_ret (pe_op op_fdiv (pe_op op_mod (pe_op op_mul (pv 3) pe_int) pe_int) pe_int)))))))), ?_⟩
    -- _law_state['at'] = _law_state['at'] + 1
    refine ⟨_, rfl, st, _, rfl, dget_of (k := .inr "at") hs stK_at, _, _, rfl, rfl, _, rfl, st, _, rfl, dput_of (k := .inr "at") hs (show 2 ≤ 1000 by decide) stK_put, ?_⟩
    have f1 : Fr1 st H (upd H st (.dK (stK a (k + 1)))) := Fr1.upd
    have h1 : (upd H st (.dK (stK a (k + 1)))) st = some (.dK (stK a (k + 1))) := upd_same
    generalize upd H st (.dK (stK a (k + 1))) = H1 at f1 h1
    have x1 := sq_fr hx hs f1
    -- _law_k, _law_cells, _law_base
    refine ⟨_, rfl, st, _, rfl, dget_of (k := .inr "at") h1 stK_at, _, rfl, st, _, rfl, dget_of (k := .inr "cells") h1 stK_cells, ?_⟩
    refine ⟨_, rfl, _, _, rfl, rfl, .inl ⟨by decide, by decide⟩, _, rfl, _, _, rfl, rfl, .inr ⟨by omega, by omega⟩, _, rfl, _, _, rfl, rfl, .inl ⟨by decide, by decide⟩, _, _, rfl, rfl, ?_⟩
    have fin : ∀ (b : Int) (H2 : Hp), Same H1 H2 → Q (.int (b * 48271 % 2147483647 / 7)) H2 := fun b H2 s2 =>
      q _ H2 (by omega) (by omega) (s2 _ _ h1) (f1.same s2)
    refine ⟨_, rfl, by decide, fun p hp => ⟨_, _, dp_ints ((upd_new hp).seq x1), dp_ints (ns := []) (SqL.of upd_same), sh_ints _, sh_ints _, _, rfl, ?_⟩⟩
    rw [eqv_ints]
    by_cases c : ns = []
    · rw [decide_eq_true c]
      refine iteF ?_
      refine ⟨_, rfl, _, _, rfl, rfl, .inr ⟨by decide, by decide⟩, _, _, rfl, rfl, (show (0 : Int) < 2147483647 by decide), _, _, rfl, rfl, ⟨by decide, by decide⟩, ?_⟩
      exact fin _ _ (upd_new hp)
    · rw [decide_eq_false c]
      refine iteT ?_
      have hpos : 0 < ns.length := List.length_pos_iff.mpr c
      have x2 := (upd_new (o := .lst []) hp).seq x1
      have hlen : ((ns.map V.int).length : Int) = ns.length := by rw [List.length_map]
      have hm0 : 0 ≤ (k + 1) % (ns.length : Int) := Int.emod_nonneg _ (by omega)
      have hm1 : (k + 1) % (ns.length : Int) < ns.length := Int.emod_lt_of_pos _ (by omega)
      obtain ⟨j, hj⟩ : ∃ j : Nat, (k + 1) % (ns.length : Int) = j := ⟨_, (Int.toNat_of_nonneg hm0).symm⟩
      have hjl : j < ns.length := by omega
      refine ⟨_, rfl, _, rfl, _, rfl, _, rfl, _, _, rfl, .inl x2, _, _, rfl, rfl, (by show (0 : Int) < ((ns.map V.int).length : Int); omega), a, ns.map V.int, _, .int ns[j], rfl, rfl, x2, ?_, ?_⟩
      · rw [hlen, hj]
        exact atI_nat (by rw [List.getElem?_map, List.getElem?_eq_getElem hjl]; rfl)
      refine ⟨_, _, rfl, rfl, (show (0 : Int) < 2147483647 by decide), _, rfl, _, rfl, _, _, rfl, .inl x2, _, _, rfl, rfl, ⟨by omega, by omega⟩, _, _, rfl, rfl, _, _, rfl, rfl, .inl ⟨by omega, by omega⟩, _, _, rfl, rfl, ?_⟩
      refine ⟨_, rfl, _, _, rfl, rfl, .inr ⟨by decide, by decide⟩, _, _, rfl, rfl, (show (0 : Int) < 2147483647 by decide), _, _, rfl, rfl, ⟨by decide, by decide⟩, ?_⟩
      exact fin _ _ (upd_new hp)
theorem small34 {n c : Int} {i : Nat} (h0 : 0 ≤ n) (h1 : n ≤ 2 ^ 60) (hi : i ≤ 60) (hc : c.natAbs ≤ 4) : (n * c ^ i).natAbs < 2 ^ 190 := by
  rw [Int.natAbs_mul, Int.natAbs_pow]
  have a : n.natAbs ≤ 2 ^ 60 := by omega
  have b : c.natAbs ^ i ≤ 4 ^ 60 := Nat.le_trans (Nat.pow_le_pow_left hc _) (Nat.pow_le_pow_right (by decide) hi)
  exact Nat.lt_of_le_of_lt (Nat.mul_le_mul a b) (by decide)
theorem ok_l_too_many (F : Fun K "_law_too_many" "_law_too_many" s_l_too_many f fd) (T : Txt K mg CB CN CT CF CS) : FnOk P w K mg base (L2.CX P w) 1 f fd ["_law_level", "_law_many"] spTooMany := by
  refine F.okX sc_l_too_many (fun vs H Q E h => ?_) (fun cdv A outer s H vs Q E hr h => ?_)
  · obtain ⟨l, n, rfl, _⟩ := h; rfl
  · obtain ⟨l, n, rfl, hl, h0, h1, q⟩ := h
    refine ⟨_, (pss_cons (ps_set (i := 2) sc_l_too_many.nd rfl (by first | exact Or.inl rfl | exact Or.inr rfl) pe_int)
      (pss_cons (ps_for (passes_of rfl) rfl (pi_range1 rfl T.n_range (pa_cons (pv 0) pa_nil)) (pg_name (i := 3) sc_l_too_many.nd rfl (by first | exact Or.inl rfl | exact Or.inr rfl))
        (pss_cons (ps_set (i := 1) sc_l_too_many.nd rfl (by first | exact Or.inl rfl | exact Or.inr rfl) (pe_op op_mulW (pv 1) pe_int))
        (pss_one (ps_set (i := 2) sc_l_too_many.nd rfl (by first | exact Or.inl rfl | exact Or.inr rfl) (pe_op op_mulW (pv 2) pe_int)))))
      (pss_one (ps_ret (pe_cmpR op_gt (pv 1) (pv 2) (nomark _)))))), ?_⟩
    refine ⟨_, rfl, (l : Int), rfl, by omega, by omega, for_range (lo := 0) (n := l) (fun i σ H' => H' = H ∧ ∃ v, σ = [some (.int l), some (.int (n * 3 ^ i)), some (.int (1 * 4 ^ i)), v])
      ⟨rfl, none, by rw [Int.pow_zero, Int.mul_one]; rfl⟩ ?_ ?_⟩
    · rintro i σ H' hi ⟨rfl, v, rfl⟩
      refine ⟨_, rfl, _, _, rfl, rfl, wide_mul (small34 h0 h1 (by omega) (by decide)) (show (3 : Int).natAbs < 2 ^ 2 by decide) (by decide) (by decide) (by decide), ?_⟩
      refine ⟨_, rfl, _, _, rfl, rfl, wide_mul (small34 (n := 1) (by decide) (by decide) (i := i) (by omega) (by decide)) (show (4 : Int).natAbs < 2 ^ 3 by decide) (by decide) (by decide) (by decide), ?_⟩
      refine ⟨rfl, some (.int (0 + (i : Int))), ?_⟩
      show [some (V.int l), some (V.int (n * 3 ^ i * 3)), some (V.int (1 * 4 ^ i * 4)), some (V.int (0 + (i : Int)))] = _
      rw [Int.pow_succ, Int.pow_succ, ← Int.mul_assoc, ← Int.mul_assoc]
    · rintro σ H' ⟨rfl, v, rfl⟩
      refine ⟨_, rfl, _, rfl, _, _, rfl, rfl, ?_⟩
      show Q (.bl (decide ((1 : Int) * 4 ^ l < n * 3 ^ l))) H'
      rw [Int.one_mul]
      exact q
end
/-! ### the law's frame -/
def spLaw (K : PySem.W.Frag) : Sp := fun vs H Q _ => ∃ (a : Addr) (ns : List Int), vs = [.ref a] ∧ SqL K H a (ns.map V.int) ∧ ns.length ≤ 63 ∧ ∀ H', Q (.bl true) H'
theorem merge_st {a : Addr} {k : Int} : mergeK [] (stK a k) = stK a k := by
  show putK (putK ([] : List (Key × V)) (Sum.inr "cells" : Key) (.ref a)) (Sum.inr "at" : Key) (.int k) = _
  rw [putK_new _ valV_nil, List.nil_append, put_neg (fun z => key_ca (Sum.inr.inj z)), putK_new _ valV_nil]; rfl
theorem cut_map {l : List Int} {lo hi : Option Int} : ∃ ms : List Int, cutV (l.map V.int) lo hi = ms.map V.int ∧ ∀ z ∈ ms, z ∈ l := by
  unfold cutV
  rw [← List.map_drop, ← List.map_take]
  exact ⟨_, rfl, fun z h => List.mem_of_mem_drop (List.mem_of_mem_take h)⟩
theorem cut60 {l : List V} {k : Nat} : (cutV l none (some (k : Int))).length ≤ k := by
  unfold cutV
  rw [List.length_take, HT.sIx_nat, HT.sIx_none]
  omega
end Sm

namespace Sm
open PySem PySem.Spec L2
/-! ### the plain laws of spread -/
theorem pow_pos2 (l : Nat) : (0 : Int) < 2 ^ l := by exact_mod_cast Nat.pow_pos (n := l) (by decide : 0 < 2)
theorem div_lo {a n : Int} (hn : 0 < n) : a / n * n ≤ a := by
  have := Int.ediv_mul_le a (by omega : n ≠ 0)
  exact this
theorem div_hi {a n : Int} (hn : 0 < n) : a < (a / n + 1) * n := Int.lt_ediv_add_one_mul_self a hn
/-- what the law asks of a mark -/
theorem share {l n i : Nat} {st : Int} (hi : i < n) :
    (st + (i : Int) * 2 ^ l / n) * n - st * n ≤ i * 2 ^ l ∧ (i : Int) * 2 ^ l < (st + (i : Int) * 2 ^ l / n + 1 - st) * n := by
  have hn : (0 : Int) < n := by omega
  have h1 := div_lo (a := (i : Int) * 2 ^ l) hn
  have h2 := div_hi (a := (i : Int) * 2 ^ l) hn
  constructor
  · rw [Int.add_mul]; omega
  · rw [show st + (i : Int) * 2 ^ l / n + 1 - st = (i : Int) * 2 ^ l / n + 1 by omega]; exact h2
theorem share_in {l n i : Nat} {st : Int} (hi : i < n) : st ≤ st + (i : Int) * 2 ^ l / n ∧ st + (i : Int) * 2 ^ l / n < st + 2 ^ l := by
  have hn : (0 : Int) < n := by omega
  have h0 : 0 ≤ (i : Int) * 2 ^ l / n := Int.ediv_nonneg (Int.mul_nonneg (by omega) (Int.le_of_lt (pow_pos2 l))) (by omega)
  have h1 : (i : Int) * 2 ^ l / n < 2 ^ l := by
    refine Int.ediv_lt_of_lt_mul hn ?_
    rw [Int.mul_comm]
    exact Int.mul_lt_mul_of_pos_left (by omega) (pow_pos2 l)
  omega
theorem share_up {l n i : Nat} (hi : i < n) (hn2 : n ≤ 2 ^ l) : (i : Int) * 2 ^ l / n < ((i + 1 : Nat) : Int) * 2 ^ l / n := by
  have hn : (0 : Int) < n := by omega
  have h2 : (n : Int) ≤ 2 ^ l := by exact_mod_cast hn2
  have h3 : (i : Int) * 2 ^ l + 1 * n ≤ ((i + 1 : Nat) : Int) * 2 ^ l := by
    rw [show ((i + 1 : Nat) : Int) = (i : Int) + 1 by omega, Int.add_mul]
    omega
  have h4 := Int.ediv_le_ediv hn h3
  rw [Int.add_mul_ediv_right _ _ (by omega)] at h4
  omega
theorem marks_at {l n i : Nat} {st : Int} (hi : i < n) : (marksOf l st n)[i]? = some (st + (i : Int) * 2 ^ l / n) := by
  unfold marksOf
  rw [List.getElem?_map, List.getElem?_range hi]; rfl
theorem marks_len {l n : Nat} {st : Int} : (marksOf l st n).length = n := by
  unfold marksOf
  rw [List.length_map, List.length_range]
end Sm

namespace PyProof.Rows
open PySem L2
/-- list + list, both only read -/
def rCatR (K : PySem.W.Frag) : R2 := fun x y H Q => ∃ l b xs zs, x = .ref l ∧ y = .ref b ∧ SqL K H l xs ∧ SqL K H b zs ∧ xs.length + zs.length ≤ sizeLine ∧ ∀ p, H p = none → Q (.ref p) (upd H p (.lst (xs ++ zs)))
theorem op_catR {X : Cx} : OpR X (binaryOp .Add) (rCatR X.K) := by
  intro pins s σ H x y v u Q I rx ry h
  obtain ⟨l, b, xs, zs, rfl, rfl, hH, hB, hz, q⟩ := h
  cases rx
  cases ry
  obtain ⟨its, r, ⟨⟨cls, dd, data, sl⟩, n, ho, hc, hdd, hd⟩, z⟩ := I.list hH
  obtain ⟨its2, r2, ⟨⟨cls2, dd2, data2, sl2⟩, n2, ho2, hc2, hdd2, hd2⟩, z2⟩ := I.list hB
  simp only at hc hd hc2 hd2 hdd hdd2
  subst hc hd hc2 hd2 hdd hdd2
  have hl := r.length
  have hl2 := r2.length
  have e : its.toArray ++ its2.toArray = (its ++ its2).toArray := by simp
  refine concat_meets ⟨_, ho, rfl⟩ ⟨_, ho2, rfl⟩ noFill_list_add seq_list_add PySem.F.slot_list_add PySem.F.entry_list_add (PySem.F.args_list_add_2 _ _) (list_addW l b its.toArray its2.toArray n n2 none none sl sl2 (by simp; omega)) ⟨ho, ho2, ?_⟩
  rw [e]
  exact ⟨.ref _, _, I.lnew (t' := s.toks) (r.append r2) (by rw [List.length_append]; omega), rfl, q _ I.fresh⟩
end PyProof.Rows
namespace Sm
open PySem PySem.Spec L2
/-! ### the law's helpers -/
def spWhole : Sp := fun vs H Q _ => ∃ i : Int, vs = [.int i] ∧ Q (.bl true) H
def spRight : Sp := fun vs H Q _ => ∃ (l n : Nat) (st : Int), vs = [.int l, .int st, .int n] ∧ l ≤ 60 ∧ 0 ≤ st ∧ st < 2 ^ 60 ∧ n ≤ 2 ^ l ∧ n ≤ 1024 ∧ ∀ H', Same H H' → Q (.bl true) H'
section
variable {P : Program} {w : World} {K : PySem.W.Frag} {mg : Str → Option Value} {base : Heap} {CB CN CT CF CS : Addr} {f : Addr} {fd : FuncData}
theorem ok_l_whole (F : Fun K "_law_whole" "_law_whole" s_l_whole f fd) (T : Txt K mg CB CN CT CF CS) : FnOk P w K mg base (L2.CX P w) 1 f fd ["_law_thing"] spWhole := by
  refine F.okX sc_l_whole (fun vs H Q E h => ?_) (fun cdv A outer s H vs Q E hr h => ?_)
  · obtain ⟨i, rfl, _⟩ := h; rfl
  · obtain ⟨i, rfl, q⟩ := h
    refine ⟨_, (pss_one (ps_ret (pe_and (pe_callB call_isi (by rfl) T.n_isinstance (by decide +kernel) (pa_cons (pv 0) (pa_cons (pe_bltn (v := .ty "int") rfl T.n_int (by decide +kernel) rfl) pa_nil))) (pe_one (pe_not (pe_callB call_isi (by rfl) T.n_isinstance (by decide +kernel) (pa_cons (pv 0) (pa_cons (pe_bltn (v := .ty "bool") rfl T.n_bool (by decide +kernel) rfl) pa_nil)))))))), ?_⟩
    refine ⟨_, rfl, _, _, _, _, true, rfl, .ty "int", .base (.int i), kit_ty (by decide +kernel), _, rfl, iteT ?_⟩
    refine ⟨_, rfl, _, _, _, _, false, rfl, .ty "bool", .base (.int i), kit_ty (by decide +kernel), _, rfl, q⟩
theorem all_true (n : Nat) : (List.replicate n true).all id = true := by
  induction n with
  | zero => rfl
  | succ n ih => rw [List.replicate_succ, List.all_cons, ih]; rfl
theorem ok_l_right (F : Fun K "_law_spread_right" "_law_spread_right" s_l_spread_right f fd) (T : Txt K mg CB CN CT CF CS) (d__law_whole : Dfn P w K mg base 1 "_law_whole" [] spWhole) (d_spread : Dfn P w K mg base 3 "spread" [] (spSpread K CB)) :
    FnOk P w K mg base (L2.CX P w) 4 f fd ["_law_level", "_law_start", "_law_many"] spRight := by
  refine F.okX sc_l_spread_right (fun vs H Q E h => ?_) (fun cdv A outer s H vs Q E hr h => ?_)
  · obtain ⟨l, n, st, rfl, _⟩ := h; rfl
  · obtain ⟨l, n, st, rfl, hl, h0, h1, hn, hn2, q⟩ := h
    refine ⟨_, (pss_cons (ps_set (i := 3) sc_l_spread_right.nd rfl (by first | exact Or.inl rfl | exact Or.inr rfl) (pe_op Sm.op_shl1 pe_int (pv 0)))
      (pss_cons (ps_set (i := 4) sc_l_spread_right.nd rfl (by first | exact Or.inl rfl | exact Or.inr rfl) (Sm.pe_def d_spread (hr.mono (by decide)) passL (pa_cons (pv 0) (pa_cons (pv 1) (pa_cons (pv 2) pa_nil)))))
      (pss_cons (ps_if (PW.pt (pw_or (pt_not (pt_val (pe_callB call_isi (by rfl) T.n_isinstance (by decide +kernel) (pa_cons (pv 4) (pa_cons (pe_bltn (v := .ty "list") rfl T.n_list (by decide +kernel) rfl) pa_nil))))) (pw_or (pt_not (pt_val (pe_callB (cr_all rfl) (by rfl) T.n_all (by decide +kernel) (pa_cons (pe_lc (own := [("_law_mark", 5)]) (g := gName 5) rfl sc_l_spread_right.nd (pi_list (pv 4)) (blkOk_by (N := ["_law_level", "_law_start", "_law_many", "_law_size", "_law_found", "_law_mark", "_law_place", "_law_exact", "_law_kept"]) (sc := defScope s_l_spread_right) (by decide +kernel)) (fun _ _ _ _ _ => pg_name (i := 5) sc_l_spread_right.nd rfl (Or.inl rfl)) (fun _ _ _ _ _ => pts_nil) (fun _ _ _ _ _ => (Sm.pe_def d__law_whole (hr.mono (by decide)) passL (pa_cons (pv 5) pa_nil)))) pa_nil)))) (pw_or1 (pt_cmpR op_ne (pe_callB call_len_seq (by rfl) T.n_len PySem.boot_len (pa_cons (pv 4) pa_nil)) (pv 2) (nomark _))))))
        (pss_one (ps_ret pe_bl))
        pss_nil)
      (pss_cons (ps_for (passes_of rfl) rfl (pi_enum (by rfl) T.n_enumerate (pa_cons (pv 4) pa_nil)) (pg_tup rfl (pgs_cons (pg_name (i := 6) sc_l_spread_right.nd rfl (by first | exact Or.inl rfl | exact Or.inr rfl)) (pgs_cons (pg_name (i := 5) sc_l_spread_right.nd rfl (by first | exact Or.inl rfl | exact Or.inr rfl)) pgs_nil)))
        (pss_cons (ps_set (i := 7) sc_l_spread_right.nd rfl (by first | exact Or.inl rfl | exact Or.inr rfl) (pe_op op_mul (pv 6) (pv 3)))
        (pss_cons (ps_if (pt_not (pt_chain op_le op_lt (pe_op op_sub (pe_op op_mul (pv 5) (pv 2)) (pe_op op_mul (pv 1) (pv 2))) (pv 7) (pe_op op_mul (pe_op op_sub (pe_op op_add (pv 5) pe_int) (pv 1)) (pv 2))))
          (pss_one (ps_ret pe_bl))
          pss_nil)
        (pss_one (ps_if (PW.pt (pw_or (PW.pt (pw_and (pt_cmpR op_gt (pv 6) pe_int (nomark _)) (pw_and1 (pt_cmpR op_ge (pe_ix ix_list (pv 4) (pe_op op_sub (pv 6) pe_int) (fun _ _ => rfl)) (pv 5) (nomark _))))) (pw_or1 (pt_not (pt_chain op_le op_lt (pv 1) (pv 5) (pe_op op_add (pv 1) (pv 3)))))))
          (pss_one (ps_ret pe_bl))
          pss_nil)))))
      (pss_cons (ps_set (i := 8) sc_l_spread_right.nd rfl (by first | exact Or.inl rfl | exact Or.inr rfl) (pe_callTy call_list_of (by rfl) T.n_list (by decide +kernel) (pa_cons (pv 4) pa_nil)))
      (pss_cons (ps_expr (pe_bm PySem.F.plainAttrs_list PySem.F.slot_list_append PySem.F.type_list_append mt_append (pv 4) (pa_cons pe_int pa_nil)))
      (pss_one (ps_ret (pe_cmpR (op_eqD hr.units) (Sm.pe_def d_spread (hr.mono (by decide)) passL (pa_cons (pv 0) (pa_cons (pv 1) (pa_cons (pv 2) pa_nil)))) (pv 8) (nomark _)))))))))), ?_⟩
    -- size, found
    refine ⟨_, rfl, l, rfl, rfl, by omega, _, rfl, _, rfl, _, rfl, .inl ⟨l, n, st, rfl, hl, h0, h1, hn, hn2, fun p H1 hp s1 a1 => ?_⟩⟩
    -- isinstance(found, list)
    refine ⟨_, rfl, _, _, _, _, true, rfl, .ty "list", .base (.lst a1), kit_ty (by decide +kernel), _, rfl, iteF ?_⟩
    -- all([..])
    refine ⟨_, rfl, p, rfl, ⟨_, SqL.of a1⟩, fun D hD => lc_list (K := K) (a := p) (xs := (marksOf l st n).map V.int) (fun i H' => Same H1 H' ∧ H' D = some (.lst ((List.replicate i true).map V.bl)))
      ⟨upd_new hD, upd_same⟩ (fun i H' _ ⟨s2, _⟩ => s2.seq (SqL.of a1)) ?_ ?_⟩
    · rintro i x H' hi ⟨s2, a2⟩
      obtain ⟨z, rfl⟩ : ∃ z, x = V.int z := by
        rw [List.getElem?_map] at hi
        cases e : (marksOf l st n)[i]? with
        | none => rw [e] at hi; cases hi
        | some z => rw [e] at hi; exact ⟨z, (Option.some.inj hi).symm⟩
      have hil : i < n := by
        have := (List.getElem?_eq_some_iff.mp hi).1
        rw [List.length_map, marks_len] at this; exact this
      refine ⟨rfl, tyes (iteT ?_)⟩
      refine ⟨_, rfl, z, rfl, _, a2, ?_, fun b o h => ?_, ?_⟩
      · rw [List.length_map, List.length_replicate]
        exact Nat.lt_of_lt_of_le (by omega : i < 1024) (by rw [sizeLine_eq]; decide)
      · rw [upd_ne (ne_of_none h hD)]; exact s2 b o h
      · rw [upd_same, List.replicate_succ', List.map_append]; rfl
    rintro H2 ⟨s2, a2⟩
    rw [List.length_map, marks_len] at a2
    refine ⟨D, _, rfl, SqL.of a2, _, rfl, ?_⟩
    rw [all_true]
    refine iteF ?_
    have b1 := s2 _ _ a1
    refine ⟨_, rfl, p, _, rfl, .inl (SqL.of b1), _, rfl, rfl, _, rfl, ?_⟩
    rw [List.length_map, marks_len]
    refine ifNF rfl ?_
    -- the loop
    refine ⟨_, rfl, p, _, rfl, SqL.of b1, for_enumL (K := K) (a := p) (xs := (marksOf l st n).map V.int) (fun i σ H' => ∃ v5 v6 v7, σ = [some (.int l), some (.int st), some (.int n), some (.int (2 ^ l)), some (.ref p), v5, v6, v7, none] ∧ Same H2 H')
      ⟨none, none, none, rfl, Same.refl _⟩ (fun i σ H' ⟨_, _, _, _, s3⟩ => s3.seq (SqL.of b1)) ?_ ?_⟩
    · rintro i x T0 σ H' hi ⟨v5, v6, v7, rfl, s3⟩ hT
      have hil : i < n := by
        have := (List.getElem?_eq_some_iff.mp hi).1
        rw [List.length_map, marks_len] at this; exact this
      have ex : x = V.int (st + (i : Int) * 2 ^ l / n) := by
        rw [List.getElem?_map, marks_at hil] at hi
        exact (Option.some.inj hi).symm
      subst ex
      have s4 : Same H2 (upd H' T0 (.tup [.int (i : Nat), .int (st + (i : Int) * 2 ^ l / n)])) := s3.trans (upd_new hT)
      refine ⟨T0, _, rfl, SqT.of upd_same, rfl, _, _, rfl, _, _, rfl, rfl, ?_⟩
      generalize upd H' T0 (.tup [.int (i : Nat), .int (st + (i : Int) * 2 ^ l / n)]) = H3 at s4
      have g1 := share (l := l) (st := st) hil
      have g2 := share_in (l := l) (st := st) hil
      refine ⟨_, rfl, _, rfl, _, _, rfl, rfl, .inl ⟨by omega, by omega⟩, ?_⟩
      refine ⟨_, rfl, _, rfl, _, _, rfl, rfl, .inr ⟨by omega, by omega⟩, _, rfl, _, rfl, _, _, rfl, rfl, .inr ⟨by omega, by omega⟩, _, _, rfl, rfl, _, rfl, _, _, rfl, rfl, _, rfl, ifT g1.1 ?_⟩
      refine ⟨_, rfl, _, _, rfl, rfl, _, rfl, _, _, rfl, rfl, _, rfl, _, _, rfl, rfl, .inr ⟨by omega, by omega⟩, _, _, rfl, rfl, _, rfl, ifNF g1.2 ?_⟩
      refine ⟨_, rfl, _, _, rfl, rfl, _, rfl, ?_⟩
      refine ite2 (fun c0 => ?_) (fun c0 => ?_)
      · have hi0 : 0 < i := by have := of_decide_eq_true c0; omega
        obtain ⟨j, rfl⟩ : ∃ j, i = j + 1 := ⟨i - 1, by omega⟩
        have g3 := share_up (l := l) (show j < n by omega) hn
        refine ⟨_, rfl, _, rfl, _, _, rfl, rfl, p, _, _, _, rfl, rfl, (s4.seq (SqL.of b1)), at_of (j := j) (by omega) (by rw [List.getElem?_map, marks_at (show j < n by omega)]; rfl), _, rfl, _, _, rfl, rfl, _, rfl, ifF (by omega) ?_⟩
        refine ⟨_, rfl, _, rfl, _, _, rfl, rfl, _, rfl, ifT g2.1 ?_⟩
        refine ⟨_, rfl, _, rfl, _, _, rfl, rfl, _, _, rfl, rfl, _, rfl, ifNF g2.2 ?_⟩
        exact ⟨_, _, _, rfl, s4⟩
      · refine iteF ?_
        refine ⟨_, rfl, _, rfl, _, _, rfl, rfl, _, rfl, ifT g2.1 ?_⟩
        refine ⟨_, rfl, _, rfl, _, _, rfl, rfl, _, _, rfl, rfl, _, rfl, ifNF g2.2 ?_⟩
        exact ⟨_, _, _, rfl, s4⟩
    · rintro σ H' ⟨v5, v6, v7, rfl, s3⟩
      have b3 := s3 _ _ b1
      refine ⟨_, rfl, p, _, rfl, .inl (SqL.of b3), fun kp hkp => ?_⟩
      have npk : p ≠ kp := ne_of_none b3 hkp
      have s4 : Same H2 (upd H' kp (.lst ((marksOf l st n).map V.int))) := s3.trans (upd_new hkp)
      have c3 : (upd H' kp (.lst ((marksOf l st n).map V.int))) p = some (.lst ((marksOf l st n).map V.int)) := by rw [upd_ne npk]; exact b3
      have c4 : (upd H' kp (.lst ((marksOf l st n).map V.int))) kp = some (.lst ((marksOf l st n).map V.int)) := upd_same
      generalize upd H' kp (.lst ((marksOf l st n).map V.int)) = H3 at s4 c3 c4
      refine ⟨_, rfl, .inl ⟨rfl, _, SqL.of c3⟩, p, _, _, rfl, rfl, c3, ?_, ?_⟩
      · rw [List.length_map, marks_len]
        exact Nat.lt_of_le_of_lt hn2 (by rw [sizeLine_eq]; decide)
      have d4 : (upd H3 p (.lst ((marksOf l st n).map V.int ++ [V.int 0]))) kp = some (.lst ((marksOf l st n).map V.int)) := by rw [upd_ne npk.symm]; exact c4
      have s5 : Same H (upd H3 p (.lst ((marksOf l st n).map V.int ++ [V.int 0]))) := fun b o h => by
        rw [upd_ne (ne_of_none h hp)]; exact s4 b o (s2 b o (s1 b o h))
      generalize upd H3 p (.lst ((marksOf l st n).map V.int ++ [V.int 0])) = H4 at d4 s5
      refine ⟨_, rfl, _, rfl, _, rfl, .inl ⟨l, n, st, rfl, hl, h0, h1, hn, hn2, fun p5 H5 hp5 s6 a5 => ?_⟩⟩
      refine ⟨_, rfl, _, _, dp_ints (SqL.of a5), dp_ints (SqL.of (s6 _ _ d4)), sh_ints _, sh_ints _, ?_⟩
      rw [eqv_ints, decide_eq_true rfl]
      exact q _ (s5.trans s6)
/-! ### the law -/
theorem start_law {l : Nat} {m : Int} (hm : 0 ≤ m) : startOf l m % 2 ^ l = 0 ∧ startOf l m ≤ m ∧ m < startOf l m + 2 ^ l ∧ 0 ≤ startOf l m := by
  have h0 := pow_pos2 l
  have h1 := div_lo (a := m) h0
  have h2 := div_hi (a := m) h0
  rw [Int.add_mul, Int.one_mul] at h2
  exact ⟨by unfold startOf; exact Int.mul_emod_left _ _, h1, h2, Int.mul_nonneg (Int.ediv_nonneg hm (by omega)) (by omega)⟩
theorem ok_law (F : Fun K "law" "law" s_law f fd) (T : Txt K mg CB CN CT CF CS) (d__law_next : Dfn P w K mg base 1 "_law_next" [] (spNext K)) (d__law_too_many : Dfn P w K mg base 1 "_law_too_many" [] spTooMany)
    (d__law_whole : Dfn P w K mg base 1 "_law_whole" [] spWhole) (d__law_spread_right : Dfn P w K mg base 4 "_law_spread_right" [] spRight) (d_spread : Dfn P w K mg base 3 "spread" [] (spSpread K CB))
    (d_is_too_full : Dfn P w K mg base 3 "is_too_full" [] (spFull K CB)) (d_stretch_at : Dfn P w K mg base 3 "stretch_at" [] (spAt K CB)) :
    FnOk P w K mg base CX0 10 f fd ["_law_script"] (spLaw K) := by
  refine F.ok sc_law (fun vs H Q E h => ?_) (fun cdv A outer s H vs Q E hr h => ?_)
  · obtain ⟨a, ns, rfl, _⟩ := h; rfl
  · obtain ⟨a, ns, rfl, hx, hlen, q⟩ := h
    refine ⟨_, (pss_cons (ps_set (i := 1) sc_law.nd rfl (by first | exact Or.inl rfl | exact Or.inr rfl) (pe_disp (pps_cons pe_str (pv 0) (pps_cons pe_str pe_int pps_nil)) (by rfl) (by rfl) (fun z => by cases z) (by decide)))
      (pss_cons (ps_for PassesOwn.never rfl (pi_list (pe_slice sl_list (pe_op PyProof.Rows.op_catR (pv 0) (pe_lst (pa_cons pe_int pa_nil))) po_none (po_some pe_int))) (pg_name (i := 2) sc_law.nd rfl (by first | exact Or.inl rfl | exact Or.inr rfl))
        (pss_cons (ps_set (i := 3) sc_law.nd rfl (by first | exact Or.inl rfl | exact Or.inr rfl) (Sm.pe_def d__law_next (hr.mono (by decide)) passL (pa_cons (pv 1) pa_nil)))
        (pss_cons (ps_set (i := 4) sc_law.nd rfl (by first | exact Or.inl rfl | exact Or.inr rfl) (pe_ix ix_list (pe_lst (pa_cons (pe_op op_mod (pe_op op_fdiv (pv 3) pe_int) pe_int) (pa_cons (pe_op op_mod (pe_op op_fdiv (pv 3) pe_int) pe_int) (pa_cons pe_int (pa_cons (pe_op op_mod (pe_op op_fdiv (pv 3) pe_int) pe_int) pa_nil))))) (pe_op op_mod (pv 3) pe_int) (fun _ _ => rfl)))
        (pss_cons (ps_set (i := 5) sc_law.nd rfl (by first | exact Or.inl rfl | exact Or.inr rfl) pe_int)
        (pss_cons (ps_while PassesOwn.never (PW.pt (pw_and (pt_cmpR op_lt (pv 5) pe_int (nomark _)) (pw_and1 (pt_not (pt_val (Sm.pe_def d__law_too_many (hr.mono (by decide)) passL (pa_cons (pv 4) (pa_cons (pe_op op_add (pv 5) pe_int) pa_nil))))))))
          (pss_one (ps_set (i := 5) sc_law.nd rfl (by first | exact Or.inl rfl | exact Or.inr rfl) (pe_op op_add (pv 5) pe_int))))
        (pss_cons (ps_set (i := 6) sc_law.nd rfl (by first | exact Or.inl rfl | exact Or.inr rfl) (pe_op op_mod (pe_op op_mul (pe_op op_add (pe_op op_mul (pe_op op_add (pe_op op_mod (pv 2) pe_int) (pv 3)) pe_int) (Sm.pe_def d__law_next (hr.mono (by decide)) passL (pa_cons (pv 1) pa_nil))) pe_int) (pe_op Sm.op_shl1 pe_int pe_int)))
        (pss_cons (ps_for PassesOwn.never rfl (pi_tup (pe_tup (pa_cons (pv 5) (pa_cons (pe_op op_add (pv 5) pe_int) (pa_cons (pe_op op_mod (pe_op op_fdiv (pv 3) pe_int) pe_int) (pa_cons (pv 6) (pa_cons pe_int pa_nil))))))) (pg_name (i := 7) sc_law.nd rfl (by first | exact Or.inl rfl | exact Or.inr rfl))
          (pss_cons (ps_set (i := 8) sc_law.nd rfl (by first | exact Or.inl rfl | exact Or.inr rfl) (Sm.pe_def d_is_too_full (hr.mono (by decide)) passL (pa_cons (pv 4) (pa_cons (pv 7) pa_nil))))
          (pss_one (ps_if (PW.pt (pw_or (pt_not (pt_val (pe_callB call_isi (by rfl) T.n_isinstance (by decide +kernel) (pa_cons (pv 8) (pa_cons (pe_bltn (v := .ty "bool") rfl T.n_bool (by decide +kernel) rfl) pa_nil))))) (pw_or1 (pt_cmpR op_ne (pv 8) (Sm.pe_def d__law_too_many (hr.mono (by decide)) passL (pa_cons (pv 4) (pa_cons (pv 7) pa_nil))) (nomark _)))))
            (pss_one (ps_ret pe_bl))
            pss_nil))))
        (pss_cons (ps_set (i := 9) sc_law.nd rfl (by first | exact Or.inl rfl | exact Or.inr rfl) (Sm.pe_def d_stretch_at (hr.mono (by decide)) passL (pa_cons (pv 4) (pa_cons (pv 6) pa_nil))))
        (pss_cons (ps_if (PW.pt (pw_or (pt_not (pt_val (Sm.pe_def d__law_whole (hr.mono (by decide)) passL (pa_cons (pv 9) pa_nil)))) (pw_or (pt_cmpR op_ne (pe_op op_mod (pv 9) (pe_op Sm.op_shl1 pe_int (pv 4))) pe_int (nomark _)) (pw_or1 (pt_not (pt_chain op_le op_lt (pv 9) (pv 6) (pe_op op_add (pv 9) (pe_op Sm.op_shl1 pe_int (pv 4)))))))))
          (pss_one (ps_ret pe_bl))
          pss_nil)
        (pss_one (ps_for PassesOwn.never rfl (pi_tup (pe_tup (pa_cons (pv 9) (pa_cons (pv 6) pa_nil)))) (pg_name (i := 10) sc_law.nd rfl (by first | exact Or.inl rfl | exact Or.inr rfl))
          (pss_one (ps_if (pt_not (pt_val (Sm.pe_def d__law_spread_right (hr.mono (by decide)) passL (pa_cons (pv 4) (pa_cons (pv 10) (pa_cons (pe_callB (call_min2 rfl) (by rfl) T.n_min (by decide +kernel) (pa_cons (pe_op Sm.op_shl1 pe_int (pe_callB (call_min2 rfl) (by rfl) T.n_min (by decide +kernel) (pa_cons (pv 4) (pa_cons pe_int pa_nil)))) (pa_cons (pe_op op_mod (pe_op op_fdiv (pv 3) pe_int) pe_int) pa_nil))) pa_nil))))))
            (pss_one (ps_ret pe_bl))
            pss_nil)))))))))))))
      (pss_cons (ps_if (PW.pt (pw_or (pt_cmpR op_ne (pe_callB call_len_seq (by rfl) T.n_len PySem.boot_len (pa_cons (Sm.pe_def d_spread (hr.mono (by decide)) passL (pa_cons pe_int (pa_cons pe_int (pa_cons pe_int pa_nil)))) pa_nil)) pe_int (nomark _)) (pw_or1 (pt_cmpR op_notBl (Sm.pe_def d_is_too_full (hr.mono (by decide)) passL (pa_cons pe_int (pa_cons (pe_op Sm.op_shl1 pe_int pe_int) pa_nil))) pe_bl (nomark _)))))
        (pss_one (ps_ret pe_bl))
        pss_nil)
      (pss_cons (ps_if (PW.pt (pw_or (pt_cmpR (op_neD hr.units) (Sm.pe_def d_spread (hr.mono (by decide)) passL (pa_cons pe_int (pa_cons pe_int (pa_cons pe_int pa_nil)))) (pe_lst (pa_cons pe_int (pa_cons pe_int pa_nil))) (nomark _)) (pw_or1 (pt_cmpR (op_neD hr.units) (Sm.pe_def d_spread (hr.mono (by decide)) passL (pa_cons pe_int (pa_cons pe_int (pa_cons pe_int pa_nil)))) (pe_lst (pa_cons pe_int (pa_cons pe_int pa_nil))) (nomark _)))))
        (pss_one (ps_ret pe_bl))
        pss_nil)
      (pss_one (ps_ret (pe_and (pe_cmpR op_isBl (Sm.pe_def d_is_too_full (hr.mono (by decide)) passL (pa_cons pe_int (pa_cons pe_int pa_nil))) pe_bl (nomark _)) (pe_one (pe_cmpR op_isBl (Sm.pe_def d_is_too_full (hr.mono (by decide)) passL (pa_cons pe_int (pa_cons pe_int pa_nil))) pe_bl (nomark _)))))))))), ?_⟩
    intro st hst
    refine ⟨_, rfl, upd_same, stK a 0, rfl, (show 2 ≤ 15 by decide), ?_⟩
    rw [merge_st, upd_upd]
    have hx1 : SqL K (upd H st (.dK (stK a 0))) a (ns.map V.int) := (upd_new hst).seq hx
    have hs1 : (upd H st (.dK (stK a 0))) st = some (.dK (stK a 0)) := upd_same
    generalize upd H st (.dK (stK a 0)) = H1 at hx1 hs1
    refine ⟨_, rfl, (by show 1 ≤ sizeLine; decide), fun l0 hl0 => ⟨a, l0, _, _, rfl, rfl, (upd_new hl0).seq hx1, SqL.of upd_same, ?_, fun l1 hl1 => ?_⟩⟩
    · rw [List.length_map]
      exact Nat.le_trans (by show ns.length + 1 ≤ 64; omega) (by rw [sizeLine_eq]; decide)
    refine ⟨_, rfl, l1, _, rfl, SqL.of upd_same, fun p hp => ?_⟩
    obtain ⟨ms, hms, _⟩ := cut_map (l := ns ++ [0]) (lo := none) (hi := some ((60 : Nat) : Int))
    have hml : ms.length ≤ 60 := by
      have := cut60 (l := (ns ++ [0]).map V.int) (k := 60)
      rw [hms, List.length_map] at this; exact this
    have sp1 : Same H1 (upd (upd (upd H1 l0 (.lst [V.int 0])) l1 (.lst (ns.map V.int ++ [V.int 0]))) p (.lst (cutV (ns.map V.int ++ [V.int 0]) none (some 60)))) := ((upd_new hl0).trans (upd_new hl1)).trans (upd_new hp)
    have hp1 : (upd (upd (upd H1 l0 (.lst [V.int 0])) l1 (.lst (ns.map V.int ++ [V.int 0]))) p (.lst (cutV (ns.map V.int ++ [V.int 0]) none (some 60)))) p = some (.lst (ms.map V.int)) := by
      rw [upd_same, ← hms, List.map_append]; rfl
    generalize upd (upd (upd H1 l0 (.lst [V.int 0])) l1 (.lst (ns.map V.int ++ [V.int 0]))) p (.lst (cutV (ns.map V.int ++ [V.int 0]) none (some 60))) = H2 at sp1 hp1
    have hx2 := sp1.seq hx1
    have hs2 := sp1 _ _ hs1
    refine ⟨p, rfl, ⟨_, SqL.of hp1⟩, for_list (K := K) (a := p) (xs := ms.map V.int) (fun i σ H' => ∃ (k : Int) (v2 v3 v4 v5 v6 v7 v8 v9 v10 : Option V), σ = [some (.ref a), some (.ref st), v2, v3, v4, v5, v6, v7, v8, v9, v10] ∧
        H' st = some (.dK (stK a k)) ∧ 0 ≤ k ∧ k ≤ 2 * (i : Int) ∧ Fr1 st H2 H')
      ⟨0, none, none, none, none, none, none, none, none, none, rfl, hs2, by omega, by omega, Fr1.refl⟩ (fun i σ H' _ ⟨_, _, _, _, _, _, _, _, _, _, _, _, _, _, f⟩ => sq_fr (SqL.of hp1) hs2 f) ?_ ?_⟩
    · rintro i y σ H3 hi ⟨k, v2, v3, v4, v5, v6, v7, v8, v9, v10, rfl, hs3, hk0, hk1, f3⟩
      have hil : i < 60 := by
        have := (List.getElem?_eq_some_iff.mp hi).1
        rw [List.length_map] at this; omega
      obtain ⟨c, rfl⟩ : ∃ z, y = V.int z := by
        rw [List.getElem?_map] at hi
        cases e : ms[i]? with
        | none => rw [e] at hi; cases hi
        | some z => rw [e] at hi; exact ⟨z, (Option.some.inj hi).symm⟩
      have hx3 := sq_fr hx2 hs2 f3
      -- _law_n
      refine ⟨_, rfl, st, a, ns, k, rfl, hs3, hx3, by omega, hk0, by omega, fun z H4 hz0 hz1 hs4 f4 => ?_⟩
      have f4' := f3.trans f4
      have hx4 := sq_fr hx2 hs2 f4'
      -- _law_level
      have hL : ∃ L : Nat, L ≤ 60 ∧ atI [V.int (z / 5 % 61), V.int (z / 5 % 12), V.int 60, V.int (z / 5 % 4)] (z % 4) = some (.int L) := by
        have h4 : z % 4 = ((0 : Nat) : Int) ∨ z % 4 = ((1 : Nat) : Int) ∨ z % 4 = ((2 : Nat) : Int) ∨ z % 4 = ((3 : Nat) : Int) := by omega
        have nn : ∀ m : Int, 0 ≤ m → m ≤ 60 → ∃ L : Nat, L ≤ 60 ∧ V.int m = .int L := fun m h0 h1 => ⟨m.toNat, by omega, congrArg V.int (by omega)⟩
        rcases h4 with e | e | e | e <;> rw [e]
        · obtain ⟨L, h1, h2⟩ := nn (z / 5 % 61) (by omega) (by omega); exact ⟨L, h1, by rw [← h2]; exact atI_nat rfl⟩
        · obtain ⟨L, h1, h2⟩ := nn (z / 5 % 12) (by omega) (by omega); exact ⟨L, h1, by rw [← h2]; exact atI_nat rfl⟩
        · exact ⟨60, by omega, atI_nat rfl⟩
        · obtain ⟨L, h1, h2⟩ := nn (z / 5 % 4) (by omega) (by omega); exact ⟨L, h1, by rw [← h2]; exact atI_nat rfl⟩
      obtain ⟨L, hL, hat⟩ := hL
      refine ⟨_, rfl, _, _, rfl, rfl, ⟨by decide, by decide⟩, _, _, rfl, rfl, (show (0 : Int) < 61 by decide), _, rfl, _, _, rfl, rfl, ⟨by decide, by decide⟩, _, _, rfl, rfl, (show (0 : Int) < 12 by decide),
        _, rfl, _, _, rfl, rfl, ⟨by decide, by decide⟩, _, _, rfl, rfl, (show (0 : Int) < 4 by decide), (by show 4 ≤ sizeLine; decide), fun l2 hl2 => ?_⟩
      refine ⟨_, rfl, _, _, rfl, rfl, (show (0 : Int) < 4 by decide), l2, _, _, _, rfl, rfl, SqL.of upd_same, hat, ?_⟩
      have s5 : Same H4 (upd H4 l2 (.lst [V.int (z / 5 % 61), V.int (z / 5 % 12), V.int 60, V.int (z / 5 % 4)])) := upd_new hl2
      have hs5 := s5 _ _ hs4
      have f5 := f4'.same s5
      generalize upd H4 l2 (.lst [V.int (z / 5 % 61), V.int (z / 5 % 12), V.int 60, V.int (z / 5 % 4)]) = H5 at hs5 f5
      have hx5 := sq_fr hx2 hs2 f5
      -- _law_most
      refine ⟨fun m σ' H' => ∃ mo : Int, m = (300 - mo).toNat ∧ 0 ≤ mo ∧ mo ≤ 300 ∧ σ' = [some (.ref a), some (.ref st), some (.int c), some (.int z), some (.int L), some (.int mo), v6, v7, v8, v9, v10] ∧ H' = H5, ⟨300, 0, rfl, by omega, by omega, rfl, rfl⟩, ?_⟩
      rintro m σ' H' ⟨mo, rfl, hmo0, hmo, rfl, rfl⟩
      refine join (fun b H'' => H'' = H' ∧ (b = true → mo < 300)) (fun Q' k => ?_) ?_
      · refine ⟨_, rfl, _, _, rfl, rfl, _, rfl, ?_⟩
        by_cases c0 : mo < 300
        · refine ifT c0 ?_
          refine ⟨_, rfl, _, rfl, _, _, rfl, rfl, L, _, rfl, hL, by omega, by omega, _, rfl, k _ _ ⟨rfl, fun _ => c0⟩⟩
        · exact ifF c0 (k _ _ ⟨rfl, fun z => by cases z⟩)
      rintro b H'' ⟨rfl, hb⟩
      refine ifB (fun e => ?_) (fun _ => ?_)
      · subst e
        have hb := hb rfl
        refine ⟨fun σ' H' => σ' = [some (.ref a), some (.ref st), some (.int c), some (.int z), some (.int L), some (.int (mo + 1)), v6, v7, v8, v9, v10] ∧ H' = H'', ?_, ?_⟩
        · rintro σ' H' ⟨rfl, rfl⟩
          exact ⟨(300 - (mo + 1)).toNat, by omega, mo + 1, rfl, by omega, by omega, rfl, rfl⟩
        · exact ⟨_, rfl, _, _, rfl, rfl, rfl, rfl⟩
      -- _law_any_one
      refine ⟨_, rfl, _, _, rfl, rfl, (show (0 : Int) < 2147483647 by decide), _, rfl, _, _, rfl, rfl, _, _, rfl, rfl, .inr ⟨by decide, by decide⟩, _, rfl, st, a, ns, k + 1, rfl, hs5, hx5, by omega, by omega, by omega, fun z2 H6 hz20 hz21 hs6 f6 => ?_⟩
      refine ⟨_, _, rfl, rfl, _, _, rfl, rfl, .inr ⟨by decide, by decide⟩, 60, rfl, rfl, by decide, _, _, rfl, rfl, (show (0 : Int) < 2 ^ 60 by decide), ?_⟩
      have f6' := f5.trans f6
      obtain ⟨A, hA⟩ : ∃ A : Int, A = ((c % 2147483647 + z) * 268435399 + z2) * 268435399 % 2 ^ 60 := ⟨_, rfl⟩
      have hA0 : 0 ≤ A := by rw [hA]; exact Int.emod_nonneg _ (by decide)
      have hA1 : A < 2 ^ 60 := by rw [hA]; exact Int.emod_lt_of_pos _ (by decide)
      -- the tuple of counts
      refine ⟨_, rfl, _, rfl, _, _, rfl, rfl, _, rfl, _, _, rfl, rfl, ⟨by decide, by decide⟩, _, _, rfl, rfl, (show (0 : Int) < 40 by decide), _, rfl, (by show 5 ≤ sizeLine; decide), fun l3 hl3 => ?_⟩
      refine ⟨l3, rfl, ⟨_, SqT.of upd_same⟩, for_tup (K := K) (a := l3) (xs := [.int mo, .int (mo + 1), .int (z / 500 % 40), .int A, .int 0])
        (fun i σ H' => ∃ v7 v8, σ = [some (.ref a), some (.ref st), some (.int c), some (.int z), some (.int L), some (.int mo), some (.int A), v7, v8, v9, v10] ∧ H' = upd H6 l3 (.tup [.int mo, .int (mo + 1), .int (z / 500 % 40), .int A, .int 0]))
        ⟨v7, v8, by rw [hA] <;> rfl, by rw [hA] <;> rfl⟩ (fun i σ H' _ ⟨_, _, _, e⟩ => by rw [e]; exact SqT.of upd_same) ?_ ?_⟩
      · rintro j x σ H' hj ⟨v7, v8, rfl, rfl⟩
        obtain ⟨m, rfl, hm0, hm1⟩ : ∃ m : Int, x = .int m ∧ 0 ≤ m ∧ m ≤ 2 ^ 60 := by
          have hm := List.mem_of_getElem? hj
          simp only [List.mem_cons, List.not_mem_nil, or_false] at hm
          rcases hm with e | e | e | e | e <;> exact ⟨_, e, by omega, by omega⟩
        refine ⟨_, rfl, _, rfl, .inl ⟨L, m, rfl, hL, hm0, hm1, ?_⟩⟩
        refine ⟨_, rfl, _, _, _, _, true, rfl, .ty "bool", .base (.bl _), kit_ty (by decide +kernel), _, rfl, iteF ?_⟩
        refine ⟨_, rfl, _, rfl, _, rfl, L, m, rfl, hL, hm0, hm1, rfl, _, rfl, ifNF rfl ?_⟩
        exact ⟨_, _, rfl, rfl⟩
      rintro σ H' ⟨v7, v8, rfl, rfl⟩
      have s7 : Same H6 (upd H6 l3 (.tup [.int mo, .int (mo + 1), .int (z / 500 % 40), .int A, .int 0])) := upd_new hl3
      have hs7 := s7 _ _ hs6
      have f7 := f6'.same s7
      generalize upd H6 l3 (.tup [.int mo, .int (mo + 1), .int (z / 500 % 40), .int A, .int 0]) = H7 at hs7 f7
      -- _law_start
      obtain ⟨w1, w2, w3, w4⟩ := start_law (l := L) hA0
      refine ⟨_, rfl, _, rfl, .inl ⟨L, A, rfl, hL, hA0, hA1, ?_⟩⟩
      refine ⟨_, rfl, _, rfl, _, rfl, iteF ?_⟩
      refine ⟨_, rfl, _, rfl, L, rfl, rfl, by omega, _, _, rfl, rfl, pow_pos2 L, rfl, _, rfl, ifNF (congrArg V.int w1) ?_⟩
      refine ⟨_, rfl, _, rfl, _, _, rfl, rfl, _, rfl, ifT w2 ?_⟩
      refine ⟨_, rfl, _, rfl, L, rfl, rfl, by omega, _, _, rfl, rfl, _, _, rfl, rfl, _, rfl, ifNF w3 ?_⟩
      -- the tuple of firsts
      refine ⟨_, rfl, _, rfl, (by show 2 ≤ sizeLine; decide), fun l4 hl4 => ?_⟩
      have s8 : Same H7 (upd H7 l4 (.tup [.int (startOf L A), .int A])) := upd_new hl4
      have hs8 := s8 _ _ hs7
      have f8 := f7.same s8
      have t8 : (upd H7 l4 (.tup [.int (startOf L A), .int A])) l4 = some (.tup [.int (startOf L A), .int A]) := upd_same
      refine ⟨l4, rfl, ⟨_, SqT.of upd_same⟩, ?_⟩
      generalize upd H7 l4 (.tup [.int (startOf L A), .int A]) = H8 at hs8 f8 t8
      refine for_tup (K := K) (a := l4) (xs := [.int (startOf L A), .int A])
        (fun i σ H' => ∃ v10, σ = [some (.ref a), some (.ref st), some (.int c), some (.int z), some (.int L), some (.int mo), some (.int A), v7, v8, some (.int (startOf L A)), v10] ∧ Same H8 H')
        ⟨v10, rfl, Same.refl _⟩ (fun i σ H' _ ⟨_, _, s⟩ => SqT.of (s _ _ t8)) ?_ ?_
      · rintro j x σ H' hj ⟨v10, rfl, s9⟩
        obtain ⟨m, rfl, hm0, hm1⟩ : ∃ m : Int, x = .int m ∧ 0 ≤ m ∧ m < 2 ^ 60 := by
          have hm := List.mem_of_getElem? hj
          simp only [List.mem_cons, List.not_mem_nil, or_false] at hm
          rcases hm with e | e <;> exact ⟨_, e, by omega, by omega⟩
        have hq : ∃ n' : Nat, n' ≤ 2 ^ L ∧ n' ≤ 1024 ∧ (if z / 700 % 300 < (2 : Int) ^ min L 10 then z / 700 % 300 else (2 : Int) ^ min L 10) = (n' : Int) := by
          have p1 : (2 : Nat) ^ min L 10 ≤ 2 ^ L := Nat.pow_le_pow_right (by decide) (Nat.min_le_left _ _)
          have p2 : (2 : Nat) ^ min L 10 ≤ 1024 := Nat.pow_le_pow_right (n := 2) (by decide) (Nat.min_le_right L 10)
          have p3 : (2 : Int) ^ min L 10 = ((2 ^ min L 10 : Nat) : Int) := by norm_cast
          rw [p3]
          split
          · exact ⟨(z / 700 % 300).toNat, by omega, by omega, by omega⟩
          · exact ⟨2 ^ min L 10, p1, p2, rfl⟩
        obtain ⟨n', hn1, hn2, hn3⟩ := hq
        refine ⟨_, rfl, _, rfl, _, rfl, _, _, rfl, min L 10, rfl, congrArg V.int (min10 L), by omega, _, rfl, _, _, rfl, rfl, ⟨by decide, by decide⟩, _, _, rfl, rfl, (show (0 : Int) < 300 by decide), _, _, rfl, ?_⟩
        refine ⟨L, n', m, congrArg (fun t => [V.int L, V.int m, V.int t]) hn3, hL, hm0, hm1, hn1, hn2, fun H9 s10 => ⟨_, rfl, iteF ?_⟩⟩
        exact ⟨_, rfl, s9.trans s10⟩
      · rintro σ H' ⟨v10, rfl, s9⟩
        exact ⟨k + 1 + 1, _, _, _, _, _, _, _, _, _, rfl, s9 _ _ hs8, by omega, by omega, f8.same s9⟩
    · rintro σ H3 ⟨k, v2, v3, v4, v5, v6, v7, v8, v9, v10, rfl, hs3, hk0, hk1, f3⟩
      -- len(spread(11, 0, 1024)) != 1024
      refine .inl ⟨11, 1024, 0, rfl, by decide, by decide, by decide, by decide, by decide, fun q1 H4 hq1 s4 a4 => ⟨q1, _, rfl, .inl (SqL.of a4), rfl, _, rfl, ifNF ?_ ?_⟩⟩
      · rw [List.length_map, marks_len]; rfl
      refine ⟨60, rfl, rfl, by decide, .inl ⟨60, 2 ^ 60, rfl, by decide, by decide, by decide, _, _, rfl, rfl, _, rfl, ifNF (by decide) ?_⟩⟩
      refine .inl ⟨3, 2, 5, rfl, by decide, by decide, by decide, by decide, by decide, fun q2 H5 hq2 s5 a5 => ⟨by show 2 ≤ sizeLine; decide, fun q3 hq3 => ?_⟩⟩
      refine ⟨_, _, dp_ints (SqL.of (upd_new hq3 _ _ a5)), dp_ints (ns := [5, 9]) (SqL.of upd_same), sh_ints _, sh_ints _, _, rfl, ?_⟩
      rw [eqv_ints]
      refine ifNF (by decide) ?_
      refine .inl ⟨3, 2, 8, rfl, by decide, by decide, by decide, by decide, by decide, fun q4 H6 hq4 s6 a6 => ⟨by show 2 ≤ sizeLine; decide, fun q5 hq5 => ?_⟩⟩
      refine ⟨_, _, dp_ints (SqL.of (upd_new hq5 _ _ a6)), dp_ints (ns := [8, 12]) (SqL.of upd_same), sh_ints _, sh_ints _, _, rfl, ?_⟩
      rw [eqv_ints]
      refine ifNF (by decide) ?_
      refine .inl ⟨0, 1, rfl, by decide, by decide, by decide, _, _, rfl, rfl, _, rfl, ifT (by decide) ?_⟩
      refine .inl ⟨0, 2, rfl, by decide, by decide, by decide, _, _, rfl, rfl, ?_⟩
      exact q _
end
end Sm

namespace Sm
open PySem L2
theorem all_mk {l : PySem.W.OpenLaw} {w : World} {K : PySem.W.Frag} {h : Heap} {mg : Str → Option Value} {fa CB CS f_is_among f_need_among f_is_too_full f_stretch_at f_spread f__law_next f__law_too_many f__law_whole f__law_spread_right f_law : Addr} (X : K.In h) (G : h.Ns mainGlobals mg) (hfa : mg "law" = some (.ref fa))
    {od_is_among an_is_among od_need_among an_need_among od_is_too_full an_is_too_full od_stretch_at an_stretch_at od_spread an_spread od__law_next an__law_next od__law_too_many an__law_too_many od__law_whole an__law_whole od__law_spread_right an__law_spread_right od_law an_law : Option Addr} {sl_is_among sl_need_among sl_is_too_full sl_stretch_at sl_spread sl__law_next sl__law_too_many sl__law_whole sl__law_spread_right sl_law : Array (Option Value)} {oc_is_among kV_is_among dc_is_among pm_is_among cd_is_among ct_is_among oc_need_among kV_need_among dc_need_among pm_need_among cd_need_among ct_need_among oc_is_too_full kV_is_too_full dc_is_too_full pm_is_too_full cd_is_too_full ct_is_too_full oc_stretch_at kV_stretch_at dc_stretch_at pm_stretch_at cd_stretch_at ct_stretch_at oc_spread kV_spread dc_spread pm_spread cd_spread ct_spread oc__law_next kV__law_next dc__law_next pm__law_next cd__law_next ct__law_next oc__law_too_many kV__law_too_many dc__law_too_many pm__law_too_many cd__law_too_many ct__law_too_many oc__law_whole kV__law_whole dc__law_whole pm__law_whole cd__law_whole ct__law_whole oc__law_spread_right kV__law_spread_right dc__law_spread_right pm__law_spread_right cd__law_spread_right ct__law_spread_right oc_law kV_law dc_law pm_law cd_law ct_law : Value} {tk_MOST_WIDE : Tok}
    (g_BadWide : PySem.W.nsIn K mainGlobals "BadWide" = some (some (.ref CB)))
    (x_BadWide : PySem.W.excIn K CB [.type "ValueError", .type "Exception", .type "BaseException", .type "object"] "ValueError.__new__" = true)
    (k_BadWide : PySem.W.keepIn K (.ref CB) = true)
    (b_BadWide : PySem.W.subIn K (.ref CB) (.type "BaseException") = some true)
    (t_BadWide : PySem.W.typeIn K (.ref CB) = some (.type "type"))
    (i_BadWide : PySem.W.isClsIn K CB = true)
    (g_SeatError : PySem.W.nsIn K mainGlobals "SeatError" = some (some (.ref CS)))
    (x_SeatError : PySem.W.excIn K CS [.type "ValueError", .type "Exception", .type "BaseException", .type "object"] "ValueError.__new__" = true)
    (k_SeatError : PySem.W.keepIn K (.ref CS) = true)
    (b_SeatError : PySem.W.subIn K (.ref CS) (.type "BaseException") = some true)
    (t_SeatError : PySem.W.typeIn K (.ref CS) = some (.type "type"))
    (i_SeatError : PySem.W.isClsIn K CS = true)
    (n_len : PySem.W.nsIn K mainGlobals "len" = some none)
    (n_isinstance : PySem.W.nsIn K mainGlobals "isinstance" = some none)
    (n_range : PySem.W.nsIn K mainGlobals "range" = some none)
    (n_min : PySem.W.nsIn K mainGlobals "min" = some none)
    (n_list : PySem.W.nsIn K mainGlobals "list" = some none)
    (n_all : PySem.W.nsIn K mainGlobals "all" = some none)
    (n_enumerate : PySem.W.nsIn K mainGlobals "enumerate" = some none)
    (n_int : PySem.W.nsIn K mainGlobals "int" = some none)
    (n_bool : PySem.W.nsIn K mainGlobals "bool" = some none)
    (c_MOST_WIDE : PySem.W.nsIn K mainGlobals "MOST_WIDE" = some (some (.int 60 tk_MOST_WIDE)))
    (a_is_among : PySem.W.nsIn K mainGlobals "is_among" = some (some (.ref f_is_among)))
    (l_is_among : K.lookup f_is_among = some ⟨oc_is_among, od_is_among, .func (PySem.W.fnOf "is_among" "is_among" (defArgs s_is_among) (defBody s_is_among) (defScope s_is_among) .none kV_is_among dc_is_among pm_is_among an_is_among cd_is_among ct_is_among), sl_is_among⟩)
    (co_is_among : PySem.W.codeIn K cd_is_among "is_among" = true)
    (kp_is_among : PySem.W.keepIn K (.ref f_is_among) = true)
    (a_need_among : PySem.W.nsIn K mainGlobals "need_among" = some (some (.ref f_need_among)))
    (l_need_among : K.lookup f_need_among = some ⟨oc_need_among, od_need_among, .func (PySem.W.fnOf "need_among" "need_among" (defArgs s_need_among) (defBody s_need_among) (defScope s_need_among) .none kV_need_among dc_need_among pm_need_among an_need_among cd_need_among ct_need_among), sl_need_among⟩)
    (co_need_among : PySem.W.codeIn K cd_need_among "need_among" = true)
    (kp_need_among : PySem.W.keepIn K (.ref f_need_among) = true)
    (a_is_too_full : PySem.W.nsIn K mainGlobals "is_too_full" = some (some (.ref f_is_too_full)))
    (l_is_too_full : K.lookup f_is_too_full = some ⟨oc_is_too_full, od_is_too_full, .func (PySem.W.fnOf "is_too_full" "is_too_full" (defArgs s_is_too_full) (defBody s_is_too_full) (defScope s_is_too_full) .none kV_is_too_full dc_is_too_full pm_is_too_full an_is_too_full cd_is_too_full ct_is_too_full), sl_is_too_full⟩)
    (co_is_too_full : PySem.W.codeIn K cd_is_too_full "is_too_full" = true)
    (kp_is_too_full : PySem.W.keepIn K (.ref f_is_too_full) = true)
    (a_stretch_at : PySem.W.nsIn K mainGlobals "stretch_at" = some (some (.ref f_stretch_at)))
    (l_stretch_at : K.lookup f_stretch_at = some ⟨oc_stretch_at, od_stretch_at, .func (PySem.W.fnOf "stretch_at" "stretch_at" (defArgs s_stretch_at) (defBody s_stretch_at) (defScope s_stretch_at) .none kV_stretch_at dc_stretch_at pm_stretch_at an_stretch_at cd_stretch_at ct_stretch_at), sl_stretch_at⟩)
    (co_stretch_at : PySem.W.codeIn K cd_stretch_at "stretch_at" = true)
    (kp_stretch_at : PySem.W.keepIn K (.ref f_stretch_at) = true)
    (a_spread : PySem.W.nsIn K mainGlobals "spread" = some (some (.ref f_spread)))
    (l_spread : K.lookup f_spread = some ⟨oc_spread, od_spread, .func (PySem.W.fnOf "spread" "spread" (defArgs s_spread) (defBody s_spread) (defScope s_spread) .none kV_spread dc_spread pm_spread an_spread cd_spread ct_spread), sl_spread⟩)
    (co_spread : PySem.W.codeIn K cd_spread "spread" = true)
    (kp_spread : PySem.W.keepIn K (.ref f_spread) = true)
    (a__law_next : PySem.W.nsIn K mainGlobals "_law_next" = some (some (.ref f__law_next)))
    (l__law_next : K.lookup f__law_next = some ⟨oc__law_next, od__law_next, .func (PySem.W.fnOf "_law_next" "_law_next" (defArgs s_l_next) (defBody s_l_next) (defScope s_l_next) .none kV__law_next dc__law_next pm__law_next an__law_next cd__law_next ct__law_next), sl__law_next⟩)
    (co__law_next : PySem.W.codeIn K cd__law_next "_law_next" = true)
    (kp__law_next : PySem.W.keepIn K (.ref f__law_next) = true)
    (a__law_too_many : PySem.W.nsIn K mainGlobals "_law_too_many" = some (some (.ref f__law_too_many)))
    (l__law_too_many : K.lookup f__law_too_many = some ⟨oc__law_too_many, od__law_too_many, .func (PySem.W.fnOf "_law_too_many" "_law_too_many" (defArgs s_l_too_many) (defBody s_l_too_many) (defScope s_l_too_many) .none kV__law_too_many dc__law_too_many pm__law_too_many an__law_too_many cd__law_too_many ct__law_too_many), sl__law_too_many⟩)
    (co__law_too_many : PySem.W.codeIn K cd__law_too_many "_law_too_many" = true)
    (kp__law_too_many : PySem.W.keepIn K (.ref f__law_too_many) = true)
    (a__law_whole : PySem.W.nsIn K mainGlobals "_law_whole" = some (some (.ref f__law_whole)))
    (l__law_whole : K.lookup f__law_whole = some ⟨oc__law_whole, od__law_whole, .func (PySem.W.fnOf "_law_whole" "_law_whole" (defArgs s_l_whole) (defBody s_l_whole) (defScope s_l_whole) .none kV__law_whole dc__law_whole pm__law_whole an__law_whole cd__law_whole ct__law_whole), sl__law_whole⟩)
    (co__law_whole : PySem.W.codeIn K cd__law_whole "_law_whole" = true)
    (kp__law_whole : PySem.W.keepIn K (.ref f__law_whole) = true)
    (a__law_spread_right : PySem.W.nsIn K mainGlobals "_law_spread_right" = some (some (.ref f__law_spread_right)))
    (l__law_spread_right : K.lookup f__law_spread_right = some ⟨oc__law_spread_right, od__law_spread_right, .func (PySem.W.fnOf "_law_spread_right" "_law_spread_right" (defArgs s_l_spread_right) (defBody s_l_spread_right) (defScope s_l_spread_right) .none kV__law_spread_right dc__law_spread_right pm__law_spread_right an__law_spread_right cd__law_spread_right ct__law_spread_right), sl__law_spread_right⟩)
    (co__law_spread_right : PySem.W.codeIn K cd__law_spread_right "_law_spread_right" = true)
    (kp__law_spread_right : PySem.W.keepIn K (.ref f__law_spread_right) = true)
    (a_law : PySem.W.nsIn K mainGlobals "law" = some (some (.ref f_law)))
    (l_law : K.lookup f_law = some ⟨oc_law, od_law, .func (PySem.W.fnOf "law" "law" (defArgs s_law) (defBody s_law) (defScope s_law) .none kV_law dc_law pm_law an_law cd_law ct_law), sl_law⟩)
    (co_law : PySem.W.codeIn K cd_law "law" = true)
    (kp_law : PySem.W.keepIn K (.ref f_law) = true) :
    ∃ fd : FuncData, (∀ (s : Shared) (v : Value), BindsTo s fd ⟨[v], []⟩ [("_law_script", v)]) ∧ ∀ base : Heap, K.In base → base.Ns mainGlobals mg → FnOk l.prog w K mg base CX0 10 fa fd ["_law_script"] (spLaw K) := by
  have e := hfa.symm.trans (PySem.W.mg_of X G a_law)
  cases e
  have T : Txt K mg CB 0 0 0 CS := { n_len := PySem.W.mg_none_of X G n_len, n_isinstance := PySem.W.mg_none_of X G n_isinstance, n_range := PySem.W.mg_none_of X G n_range, n_min := PySem.W.mg_none_of X G n_min, n_list := PySem.W.mg_none_of X G n_list, n_all := PySem.W.mg_none_of X G n_all, n_enumerate := PySem.W.mg_none_of X G n_enumerate, n_int := PySem.W.mg_none_of X G n_int, n_bool := PySem.W.mg_none_of X G n_bool, g_MOST_WIDE := ⟨_, PySem.W.mg_of X G c_MOST_WIDE⟩, x_BadWide := ⟨PySem.W.mg_of X G g_BadWide, x_BadWide, k_BadWide, b_BadWide, t_BadWide, i_BadWide⟩, x_SeatError := ⟨PySem.W.mg_of X G g_SeatError, x_SeatError, k_SeatError, b_SeatError, t_SeatError, i_SeatError⟩ }
  have F_is_among := fun_mk (st := s_is_among) l_is_among co_is_among kp_is_among
  have b_is_among := F_is_among.binds (ps := ["thing", "least", "most"]) fun _ _ _ _ _ _ us hl => match us, hl with | [_, _, _], _ => rfl
  have F_need_among := fun_mk (st := s_need_among) l_need_among co_need_among kp_need_among
  have b_need_among := F_need_among.binds (ps := ["thing", "least", "most"]) fun _ _ _ _ _ _ us hl => match us, hl with | [_, _, _], _ => rfl
  have F_is_too_full := fun_mk (st := s_is_too_full) l_is_too_full co_is_too_full kp_is_too_full
  have b_is_too_full := F_is_too_full.binds (ps := ["level", "many"]) fun _ _ _ _ _ _ us hl => match us, hl with | [_, _], _ => rfl
  have F_stretch_at := fun_mk (st := s_stretch_at) l_stretch_at co_stretch_at kp_stretch_at
  have b_stretch_at := F_stretch_at.binds (ps := ["level", "mark"]) fun _ _ _ _ _ _ us hl => match us, hl with | [_, _], _ => rfl
  have F_spread := fun_mk (st := s_spread) l_spread co_spread kp_spread
  have b_spread := F_spread.binds (ps := ["level", "start", "many"]) fun _ _ _ _ _ _ us hl => match us, hl with | [_, _, _], _ => rfl
  have F__law_next := fun_mk (st := s_l_next) l__law_next co__law_next kp__law_next
  have b__law_next := F__law_next.binds (ps := ["_law_state"]) fun _ _ _ _ _ _ us hl => match us, hl with | [_], _ => rfl
  have F__law_too_many := fun_mk (st := s_l_too_many) l__law_too_many co__law_too_many kp__law_too_many
  have b__law_too_many := F__law_too_many.binds (ps := ["_law_level", "_law_many"]) fun _ _ _ _ _ _ us hl => match us, hl with | [_, _], _ => rfl
  have F__law_whole := fun_mk (st := s_l_whole) l__law_whole co__law_whole kp__law_whole
  have b__law_whole := F__law_whole.binds (ps := ["_law_thing"]) fun _ _ _ _ _ _ us hl => match us, hl with | [_], _ => rfl
  have F__law_spread_right := fun_mk (st := s_l_spread_right) l__law_spread_right co__law_spread_right kp__law_spread_right
  have b__law_spread_right := F__law_spread_right.binds (ps := ["_law_level", "_law_start", "_law_many"]) fun _ _ _ _ _ _ us hl => match us, hl with | [_, _, _], _ => rfl
  have F_law := fun_mk (st := s_law) l_law co_law kp_law
  refine ⟨PySem.W.fnOf "law" "law" (defArgs s_law) (defBody s_law) (defScope s_law) .none kV_law dc_law pm_law an_law cd_law ct_law, fun s v => .of_eq rfl, fun base _ _ => ?_⟩
  have d_is_among : Dfn l.prog w K mg base 1 "is_among" [] (spAmong K) := ⟨_, _, _, [], ok_is_among F_is_among T , PySem.W.mg_of X G a_is_among, kp_is_among, b_is_among, .nil⟩
  have d_need_among : Dfn l.prog w K mg base 2 "need_among" [] (spNeed K CB) := ⟨_, _, _, [], ok_need_among F_need_among T d_is_among, PySem.W.mg_of X G a_need_among, kp_need_among, b_need_among, .nil⟩
  have d_is_too_full : Dfn l.prog w K mg base 3 "is_too_full" [] (spFull K CB) := ⟨_, _, _, [], ok_is_too_full F_is_too_full T d_need_among, PySem.W.mg_of X G a_is_too_full, kp_is_too_full, b_is_too_full, .nil⟩
  have d_stretch_at : Dfn l.prog w K mg base 3 "stretch_at" [] (spAt K CB) := ⟨_, _, _, [], ok_stretch_at F_stretch_at T d_need_among, PySem.W.mg_of X G a_stretch_at, kp_stretch_at, b_stretch_at, .nil⟩
  have d_spread : Dfn l.prog w K mg base 3 "spread" [] (spSpread K CB) := ⟨_, _, _, [], ok_spread F_spread T d_need_among, PySem.W.mg_of X G a_spread, kp_spread, b_spread, .nil⟩
  have d__law_next : Dfn l.prog w K mg base 1 "_law_next" [] (spNext K) := ⟨_, _, _, [], ok_l_next F__law_next T , PySem.W.mg_of X G a__law_next, kp__law_next, b__law_next, .nil⟩
  have d__law_too_many : Dfn l.prog w K mg base 1 "_law_too_many" [] (spTooMany) := ⟨_, _, _, [], ok_l_too_many F__law_too_many T , PySem.W.mg_of X G a__law_too_many, kp__law_too_many, b__law_too_many, .nil⟩
  have d__law_whole : Dfn l.prog w K mg base 1 "_law_whole" [] (spWhole) := ⟨_, _, _, [], ok_l_whole F__law_whole T , PySem.W.mg_of X G a__law_whole, kp__law_whole, b__law_whole, .nil⟩
  have d__law_spread_right : Dfn l.prog w K mg base 4 "_law_spread_right" [] (spRight) := ⟨_, _, _, [], ok_l_right F__law_spread_right T d__law_whole d_spread, PySem.W.mg_of X G a__law_spread_right, kp__law_spread_right, b__law_spread_right, .nil⟩
  exact ok_law F_law T d__law_next d__law_too_many d__law_whole d__law_spread_right d_spread d_is_too_full d_stretch_at
end Sm
namespace Sm
open PySem L2
theorem walk {l : PySem.W.OpenLaw} {q : Program} {loose : List Str} {XP : (Str → Option Value) → Heap → Prop} {YP : World → Heap → Prop} {d : DefRec} {K : Params → PySem.W.Frag} (hn : l.most = some 63) (hdf : d.params.defaults = [])
    (hY : ∀ (w : World) (h : Heap), YP w h → (K w.params).In h)
    (F : ∀ (w : World) (mg : Str → Option Value) (fa : Addr) (h : Heap), (K w.params).In h → h.Ns mainGlobals mg → mg d.name = some (.ref fa) →
      ∃ fd : FuncData, (∀ (s : Shared) (u : Value), BindsTo s fd ⟨[u], []⟩ [("_law_script", u)]) ∧ ∀ base : Heap, (K w.params).In base → base.Ns mainGlobals mg → FnOk l.prog w (K w.params) mg base CX0 10 fa fd ["_law_script"] (spLaw (K w.params))) :
    PySem.W.WalkO q loose XP YP l.row.toRowW d [] (fun f vs => PySem.call f vs) :=
  L2.walk_of (n := 63) (k := 10) (x := "_law_script") (CX := fun _ => CX0) (sp := fun w => spLaw (K w.params)) hn (by decide) hdf ⟨rfl, by decide, by decide⟩ hY F (fun _ _ a ns hl _ hS => ⟨a, ns, rfl, hS, hl, fun _ => rfl⟩) fun _ _ _ _ _ z => z
end Sm
open PySem PySem.W PyProof.Rows
set_option maxRecDepth 100000 in
set_option maxHeartbeats 0 in
theorem PySem.Challenge.cw_seatmarks_k01_stretches_holds : PySem.Challenge.rw_seatmarks_k01_stretches.Holds := by
  w_on; o_law; k_head; (case hw => w_witness2)
  k_fill
  refine Sm.walk (l := PySem.Challenge.rw_seatmarks_k01_stretches) rfl rfl (fun w h Y => PySem.W.kIn_of Y) ?F
  case F =>
    intro w mg fa h KX G hmg
    refine' Sm.all_mk KX G hmg ?g_BadWide ?x_BadWide ?k_BadWide ?b_BadWide ?t_BadWide ?i_BadWide ?g_SeatError ?x_SeatError ?k_SeatError ?b_SeatError ?t_SeatError ?i_SeatError ?n_len ?n_isinstance ?n_range ?n_min ?n_list ?n_all ?n_enumerate ?n_int ?n_bool ?c_MOST_WIDE ?a_is_among ?l_is_among ?co_is_among ?kp_is_among ?a_need_among ?l_need_among ?co_need_among ?kp_need_among ?a_is_too_full ?l_is_too_full ?co_is_too_full ?kp_is_too_full ?a_stretch_at ?l_stretch_at ?co_stretch_at ?kp_stretch_at ?a_spread ?l_spread ?co_spread ?kp_spread ?a__law_next ?l__law_next ?co__law_next ?kp__law_next ?a__law_too_many ?l__law_too_many ?co__law_too_many ?kp__law_too_many ?a__law_whole ?l__law_whole ?co__law_whole ?kp__law_whole ?a__law_spread_right ?l__law_spread_right ?co__law_spread_right ?kp__law_spread_right ?a_law ?l_law ?co_law ?kp_law
    (case g_BadWide => k_is)
    (case x_BadWide => k_exc)
    (case k_BadWide => k_is)
    (case b_BadWide => k_is)
    (case t_BadWide => k_is)
    (case i_BadWide => k_is)
    (case g_SeatError => k_is)
    (case x_SeatError => k_exc)
    (case k_SeatError => k_is)
    (case b_SeatError => k_is)
    (case t_SeatError => k_is)
    (case i_SeatError => k_is)
    (case n_len => k_is)
    (case n_isinstance => k_is)
    (case n_range => k_is)
    (case n_min => k_is)
    (case n_list => k_is)
    (case n_all => k_is)
    (case n_enumerate => k_is)
    (case n_int => k_is)
    (case n_bool => k_is)
    (case c_MOST_WIDE => k_is)
    (case a_is_among => k_is)
    (case l_is_among => k_is)
    (case co_is_among => k_is)
    (case kp_is_among => k_is)
    (case a_need_among => k_is)
    (case l_need_among => k_is)
    (case co_need_among => k_is)
    (case kp_need_among => k_is)
    (case a_is_too_full => k_is)
    (case l_is_too_full => k_is)
    (case co_is_too_full => k_is)
    (case kp_is_too_full => k_is)
    (case a_stretch_at => k_is)
    (case l_stretch_at => k_is)
    (case co_stretch_at => k_is)
    (case kp_stretch_at => k_is)
    (case a_spread => k_is)
    (case l_spread => k_is)
    (case co_spread => k_is)
    (case kp_spread => k_is)
    (case a__law_next => k_is)
    (case l__law_next => k_is)
    (case co__law_next => k_is)
    (case kp__law_next => k_is)
    (case a__law_too_many => k_is)
    (case l__law_too_many => k_is)
    (case co__law_too_many => k_is)
    (case kp__law_too_many => k_is)
    (case a__law_whole => k_is)
    (case l__law_whole => k_is)
    (case co__law_whole => k_is)
    (case kp__law_whole => k_is)
    (case a__law_spread_right => k_is)
    (case l__law_spread_right => k_is)
    (case co__law_spread_right => k_is)
    (case kp__law_spread_right => k_is)
    (case a_law => k_is)
    (case l_law => k_is)
    (case co_law => k_is)
    (case kp_law => k_is)
#print axioms PySem.Challenge.cw_seatmarks_k01_stretches_holds

