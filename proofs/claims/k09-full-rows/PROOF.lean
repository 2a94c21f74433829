import PyProof.Rows.All
import Wide.All
import OpenK.AllK
import Wide.FinOn
import HandS.ForMost
import HandS.ForExc
import HandS.More
import HandS.IsInst
import HandS.Style
import HandS.Wide
import HandS.SetFor
import HandS.Defaults
import HandS.CallSlots
import HandS.TryMany
import HandS.Evl
import KE.KEqDeep
import KE.KEqSeq
import HandS.Zip
import HandS.TryOnly
import HandS.ExcCtx
import HandS.ExcOwn
import HandS.WordsExc
import HandS.ExcIs
import PySem.Challenge.RW_seatmarks_k09_full_rows
set_option Elab.async false
set_option linter.all false
set_option maxRecDepth 100000
set_option maxHeartbeats 4000000
/-! ### own rules: defs and methods by one hypothesis each, exceptions, small tactics -/
namespace Sm
open PySem PySem.Spec L2 PyProof.Rows
section
variable (P : Program) (w : World) (K : PySem.W.Frag) (mg : Str → Option Value) (base : Heap)
/-- a def of the module, called by its name -/
structure Dfn (k : Nat) (x : Str) (dvs : List V) (sp : Sp) : Prop where
  ex : ∃ (f : Addr) (fd : FuncData) (ps : List Str) (ds : List Value), FnOk P w K mg base (L2.CX P w) k f fd ps sp ∧ mg x = some (.ref f) ∧ PySem.W.keepIn K (.ref f) = true ∧ Binds K fd ps ds ∧ Vals dvs ds
/-- a method -/
structure Mth (k : Nat) (C : Addr) (m : Str) (dvs : List V) (sp : Sp) : Prop where
  ex : ∃ (f : Addr) (fd : FuncData) (ps : List Str) (ds : List Value), FnOk P w K mg base (L2.CX P w) k f fd ps sp ∧ Meth K C m f ∧ Binds K fd ps ds ∧ Vals dvs ds
  cl : Cls K C
/-- a class that is made by its __init__ -/
structure Mke (k : Nat) (C : Addr) (x : Str) (sp : Sp) : Prop where
  ex : ∃ (f : Addr) (fd : FuncData) (ps : List Str), FnOk P w K mg base (L2.CX P w) k f fd ps sp ∧ Mk K C f ∧ mg x = some (.ref C) ∧ Binds K fd ps []
/-- an own exception class without __init__, over ValueError at any depth -/
structure Xc (x : Str) (C : Addr) : Prop where
  gC : mg x = some (.ref C)
  xC : PySem.W.excIn K C [.type "ValueError", .type "Exception", .type "BaseException", .type "object"] "ValueError.__new__" = true
  kC : PySem.W.keepIn K (.ref C) = true
  bC : PySem.W.subIn K (.ref C) (.type "BaseException") = some true
  tC : PySem.W.typeIn K (.ref C) = some (.type "type")
  iC : PySem.W.isClsIn K C = true
end
section
variable {X : Cx} {k j : Nat} {C : Addr} {x m : Str} {sp : Sp} {dvs : List V} {E : XK} {ES : L2.St → XK} {p pos apos : Pos} {e o : Expr} {es : List Expr} {ta : TE} {t : TA}
theorem pe_def (D : Dfn X.prog X.w X.K X.mg X.base k x dvs sp) (hr : Room k X.A) (hx : Passes (L2.CX X.prog X.w) X E) (ha : PA X (e :: es) t) (hg : Gl X x := by rfl)
    (hdb : (x == ("__debug__" : Str)) = false := by decide) (he : starEach (e :: es) X.env = (false, eval e X.env) :: starEach es X.env := by rfl) (hpl : (backTo pos (starEach es X.env)).any (·.1) = false := by rfl) :
    PE X (.Call (.Name x p) (e :: es) [] pos) (tCall sp dvs E t) := by
  obtain ⟨f, fd, ps, ds, F, hm, hk, hb, hd⟩ := D.ex
  exact pe_call F hr hg hm hk hb hd hx ha hdb he hpl
theorem pe_mth {pl : Sem Bool} (D : Mth X.prog X.w X.K X.mg X.base k C m dvs sp) (hr : Room k X.A) (hx : Passes (L2.CX X.prog X.w) X E) (he : PE X o ta) (ha : PA X (e :: es) t)
    (hst : starEach (e :: es) X.env = (false, eval e X.env) :: starEach es X.env := by rfl) (hpl : (backTo pos (starEach es X.env)).any (·.1) = false := by rfl)
    (ht : eval (.Call (.Attribute o m apos) (e :: es) [] pos) X.env = (do
      let ov ← eval o X.env
      standAt apos.atName
      let (f, first) ← holding [ov] (getMethod ov m pl)
      callWith pos f first (backTo pos (starEach (e :: es) X.env)) (backToKw pos (keywordEach [] X.env))) := by rfl) :
    PE X (.Call (.Attribute o m apos) (e :: es) [] pos) (tMeth C m sp dvs E ta t) := by
  obtain ⟨f, fd, ps, ds, F, hm, hb, hd⟩ := D.ex
  exact pe_meth he D.cl hm F hr hb hd hx ha hst hpl ht
theorem pe_mth0 {pl : Sem Bool} (D : Mth X.prog X.w X.K X.mg X.base k C m dvs sp) (hr : Room k X.A) (hx : Passes (L2.CX X.prog X.w) X E) (he : PE X o ta)
    (ht : eval (.Call (.Attribute o m apos) [] [] pos) X.env = (do
      let ov ← eval o X.env
      standAt apos.atName
      let (f, first) ← holding [ov] (getMethod ov m pl)
      callWith pos f first (backTo pos (starEach [] X.env)) (backToKw pos (keywordEach [] X.env))) := by rfl) :
    PE X (.Call (.Attribute o m apos) [] [] pos) (tMeth C m sp dvs E ta tNil) := by
  obtain ⟨f, fd, ps, ds, F, hm, hb, hd⟩ := D.ex
  exact pe_meth0 he D.cl hm F hr hb hd hx ht
theorem pe_mk (D : Mke X.prog X.w X.K X.mg X.base k C x sp) (hr : Room (k + 1) X.A) (hx : Passes (L2.CX X.prog X.w) X E) (ha : PA X (e :: es) t) (hg : Gl X x := by rfl)
    (hdb : (x == ("__debug__" : Str)) = false := by decide) (he : starEach (e :: es) X.env = (false, eval e X.env) :: starEach es X.env := by rfl) (hpl : (backTo pos (starEach es X.env)).any (·.1) = false := by rfl) :
    PE X (.Call (.Name x p) (e :: es) [] pos) (tMake C sp [] E t) := by
  obtain ⟨f, fd, ps, F, M, hm, hb⟩ := D.ex
  exact pe_make M F hr hg hm hb .nil hx ha hdb he hpl
theorem pmk {n : Nat} {p2 : Pos} {z : Str} (D : Xc X.K X.mg x C) (hg : Gl X x := by rfl) (hdb : (x == ("__debug__" : Str)) = false := by decide) :
    PMk X (.Call (.Name x p) [.Constant (.str z) n p2] [] pos) (fun _ H Q => Q (.ref C) none H) :=
  pmk_own PySem.F.excBase_ValueError D.xC D.gC D.kC (raises_own D.bC D.tC) hg hdb
/-- a field within a comprehension: the reading must not hang on the block -/
theorem pe_fldC {K : PySem.W.Frag} {fl : Str} (hk : K = X.K) (he : PE X e ta) (hb : attributeBase e fl X.env (eval e X.env) = eval e X.env) : PE X (.Attribute e fl pos) (tFld K ta fl) := by
  subst hk
  exact pe_fld he hb
def rLenQ (K : PySem.W.Frag) : List V → Hp → VK → Prop := fun xs H Q => ∃ p ys, xs = [.ref p] ∧ (SqL K H p ys ∨ SqT K H p ys) ∧ Q (.int ys.length) H
theorem call_lenC {K : PySem.W.Frag} (hk : K = X.K) : CallR X (.builtin "len") (rLenQ K) := by
  subst hk
  exact call_len_seq
theorem ix_tupC {K : PySem.W.Frag} (hk : K = X.K) : IxR X (rIxT K) := by
  subst hk
  exact ix_tup
theorem ix_listC {K : PySem.W.Frag} (hk : K = X.K) : IxR X (rIxL K) := by
  subst hk
  exact ix_list
theorem pe_const {i : Int} (h : ∃ t, X.mg x = some (.int i t)) (hg : Gl X x := by rfl) (hd : (x == ("__debug__" : Str)) = false := by decide) : PE X (.Name x pos) (tC (.int i)) := by
  obtain ⟨t, h⟩ := h
  exact pe_glob hg h ⟨t, rfl⟩ hd
end
/-- 1 << l -/
def rShl1 : R2 := fun x y H Q => ∃ l : Nat, x = .int 1 ∧ y = .int l ∧ l ≤ 1000 ∧ Q (.int (2 ^ l)) H
theorem op_shl1 {X : Cx} : OpR X (binaryOp .LShift) rShl1 := by
  intro pins s σ H x y v u Q I rx ry h
  obtain ⟨l, rfl, rfl, hl, q⟩ := h
  refine op_shl pins s σ H _ _ v u Q I rx ry ⟨_, _, rfl, rfl, ⟨by omega, by omega, by decide⟩, ?_⟩
  show Q (.int ((1 : Int) * 2 ^ ((l : Int)).toNat)) H
  rw [Int.one_mul, Int.toNat_natCast]; exact q
/-- what is asked of a thing that may be no number: its type is known, ints alone pass -/
def KdV (K : PySem.W.Frag) (H : Hp) (x : V) : Prop := ∃ (T : String) (b1 b2 : Bool), TyX K H x (.type T) ∧ kitB T "int" = some b1 ∧ kitB T "bool" = some b2 ∧ ((b1 && !b2) = true → ∃ i, x = .int i) ∧ ((b1 && !b2) = false → ∀ i, x ≠ .int i)
def amongV (x : V) (lo hi : Int) : Bool := match x with
  | .int i => decide (lo ≤ i) && decide (i ≤ hi)
  | _ => false
theorem KdV.int {K : PySem.W.Frag} {H : Hp} {i : Int} : KdV K H (.int i) := ⟨"int", true, false, .base (.int i), by decide +kernel, by decide +kernel, fun _ => ⟨i, rfl⟩, fun z => by cases z⟩
theorem KdV.non {K : PySem.W.Frag} {H : Hp} : KdV K H .non := ⟨"NoneType", false, false, .base .non, by decide +kernel, by decide +kernel, (fun z => by cases z), fun _ i z => by cases z⟩
theorem ifT {c A B : Prop} [Decidable c] (hc : c) (h : A) : if decide c = true then A else B := by rw [if_pos (decide_eq_true hc)]; exact h
theorem ifF {c A B : Prop} [Decidable c] (hc : ¬ c) (h : B) : if decide c = true then A else B := by rw [decide_eq_false hc]; exact iteF h
theorem ifNT {c A B : Prop} [Decidable c] (hc : ¬ c) (h : A) : if (!decide c) = true then A else B := by rw [decide_eq_false hc]; exact iteT h
theorem ifNF {c A B : Prop} [Decidable c] (hc : c) (h : B) : if (!decide c) = true then A else B := by rw [decide_eq_true hc]; exact iteF h
theorem ifB {b : Bool} {A B : Prop} (h1 : b = true → A) (h2 : b = false → B) : if b = true then A else B := by
  cases b with
  | true => exact iteT (h1 rfl)
  | false => exact iteF (h2 rfl)
/-- a test of which only so much is said: its ways are taken up behind it -/
theorem join {c : TT} {σ : L2.St} {H : Hp} {Q : Bool → Hp → Prop} (R : Bool → Hp → Prop) (h1 : ∀ Q' : Bool → Hp → Prop, (∀ b H', R b H' → Q' b H') → c σ H Q') (h2 : ∀ b H', R b H' → Q b H') : c σ H Q := h1 Q h2
theorem tcI {v : V} {σ : L2.St} {H : Hp} {Q : VK} (h : Q v H) : tC v σ H Q := h
theorem tnil {σ : L2.St} {H : Hp} {Q : List V → Hp → Prop} (h : Q [] H) : tNil σ H Q := h
theorem ifs_join {c : TT} {t u : TS} {D : Ends} {σ : L2.St} {H : Hp} (R : Bool → Hp → Prop) (h1 : ∀ Q' : Bool → Hp → Prop, (∀ b H', R b H' → Q' b H') → c σ H Q') (h2 : ∀ H', R true H' → t D σ H') (h3 : ∀ H', R false H' → u D σ H') : tIfS c t u D σ H :=
  h1 _ fun b H' r => by
    cases b with
    | true => exact iteT (h2 H' r)
    | false => exact iteF (h3 H' r)
/-- for i, x in enumerate(xs) -/
theorem for_enumL {K : PySem.W.Frag} {a : Addr} {xs : List V} {g : TG} {tb : TS} {D : Ends} {σ : L2.St} {H : Hp} (Pv : Nat → L2.St → Hp → Prop) (h0 : Pv 0 σ H) (hq : ∀ i σ H, Pv i σ H → SqL K H a xs)
    (hs : ∀ (i : Nat) (x : V) (T : Addr) (σ : L2.St) (H : Hp), xs[i]? = some x → Pv i σ H → H T = none → g (.ref T) σ (upd H T (.tup [.int (i : Nat), x])) fun σ2 H2 => tb { D with nx := Pv (i + 1), ct := Pv (i + 1), bk := D.nx } σ2 H2) (hd : ∀ σ H, Pv xs.length σ H → D.nx σ H) :
    ∃ W : Nat → Nat → L2.St → Hp → Prop, (∃ m, W 0 m σ H) ∧ ∀ i m σ H, W i m σ H →
      ((Ite K a).stop i H ∧ D.nx σ H) ∨ ((Ite K a).go i H ∧ ∃ N : L2.St → Hp → Prop, (∀ σ' H', N σ' H' → ∃ m', m' < m ∧ W (i + 1) m' σ' H') ∧ ∀ v H', (Ite K a).yld i H v H' → g v σ H' fun σ2 H2 => tb { D with nx := N, ct := N, bk := D.nx } σ2 H2) := by
  refine ⟨fun i m σ H => m = xs.length - i ∧ i ≤ xs.length ∧ Pv i σ H, ⟨xs.length, rfl, Nat.zero_le _, h0⟩, ?_⟩
  rintro i m σ H ⟨rfl, hi, p⟩
  have qx := hq i σ H p
  by_cases hlt : i < xs.length
  · have hx : xs[i]? = some xs[i] := List.getElem?_eq_getElem hlt
    refine .inr ⟨⟨xs, _, qx, hx⟩, Pv (i + 1), fun σ' H' p' => ⟨xs.length - (i + 1), by omega, rfl, hlt, p'⟩, fun v H' y => ?_⟩
    obtain ⟨T, x', rfl, hT, rfl, f1⟩ := y
    exact hs i x' T σ H (f1 xs qx) p hT
  · have e : i = xs.length := by omega
    subst e
    exact .inl ⟨⟨xs, qx, Nat.le_refl _⟩, hd σ H p⟩
theorem tyes {σ : L2.St} {H : Hp} {Q : Bool → Hp → Prop} (h : Q true H) : tYes σ H Q := h
end Sm

namespace Sm
open PySem PySem.Spec L2 PyProof.Rows
def top (i : Nat) : Stmt := PySem.Challenge.pw_seatmarks_k09_full_rows.main.body.getD i (.Pass ⟨0, 0, 0, 0⟩)
abbrev s_is_among : Stmt := top 10
abbrev s_need_among : Stmt := top 11
abbrev s_is_too_full : Stmt := top 12
abbrev s_stretch_at : Stmt := top 13
abbrev s_spread : Stmt := top 14
abbrev s_Row_init : Stmt := inClass (top 18) 0
abbrev s_Row_need_thing : Stmt := inClass (top 18) 1
abbrev s_Row_things : Stmt := inClass (top 18) 2
abbrev s_Row_mark : Stmt := inClass (top 18) 3
abbrev s_Row_is_ahead : Stmt := inClass (top 18) 4
abbrev s_Row_purse : Stmt := inClass (top 18) 5
abbrev s_Row_room_at : Stmt := inClass (top 18) 6
abbrev s_Row_stretch_for : Stmt := inClass (top 18) 7
abbrev s_Row_put : Stmt := inClass (top 18) 8
abbrev s_Row_spread_on : Stmt := inClass (top 18) 9
abbrev s_Row_take : Stmt := inClass (top 18) 10
abbrev s_l_next : Stmt := top 20
abbrev s_l_too_many : Stmt := top 21
abbrev s_l_place : Stmt := top 22
abbrev s_l_refused : Stmt := top 23
abbrev s_l_is_full : Stmt := top 24
abbrev s_l_room : Stmt := top 25
abbrev s_law : Stmt := top 26
theorem sc_is_among : FnScope ["thing", "least", "most"] ["thing", "least", "most"] (defScope s_is_among) := ⟨rfl, rfl, rfl, by decide +kernel, rfl, by decide +kernel, by decide +kernel⟩
theorem sc_need_among : FnScope ["thing", "least", "most"] ["thing", "least", "most"] (defScope s_need_among) := ⟨rfl, rfl, rfl, by decide +kernel, rfl, by decide +kernel, by decide +kernel⟩
theorem sc_is_too_full : FnScope ["level", "many", "turn"] ["level", "many"] (defScope s_is_too_full) := ⟨rfl, rfl, rfl, by decide +kernel, rfl, by decide +kernel, by decide +kernel⟩
theorem sc_stretch_at : FnScope ["level", "mark"] ["level", "mark"] (defScope s_stretch_at) := ⟨rfl, rfl, rfl, by decide +kernel, rfl, by decide +kernel, by decide +kernel⟩
theorem sc_spread : FnScope ["level", "start", "many", "turn"] ["level", "start", "many"] (defScope s_spread) := ⟨rfl, rfl, rfl, by decide +kernel, rfl, by decide +kernel, by decide +kernel⟩
theorem sc_Row_init : FnScope ["self", "wide"] ["self", "wide"] (defScope s_Row_init) := ⟨rfl, rfl, rfl, by decide +kernel, rfl, by decide +kernel, by decide +kernel⟩
theorem sc_Row_need_thing : FnScope ["self", "one"] ["self", "one"] (defScope s_Row_need_thing) := ⟨rfl, rfl, rfl, by decide +kernel, rfl, by decide +kernel, by decide +kernel⟩
theorem sc_Row_things : FnScope ["self"] ["self"] (defScope s_Row_things) := ⟨rfl, rfl, rfl, by decide +kernel, rfl, by decide +kernel, by decide +kernel⟩
theorem sc_Row_mark : FnScope ["self", "one"] ["self", "one"] (defScope s_Row_mark) := ⟨rfl, rfl, rfl, by decide +kernel, rfl, by decide +kernel, by decide +kernel⟩
theorem sc_Row_is_ahead : FnScope ["self", "one", "other"] ["self", "one", "other"] (defScope s_Row_is_ahead) := ⟨rfl, rfl, rfl, by decide +kernel, rfl, by decide +kernel, by decide +kernel⟩
theorem sc_Row_purse : FnScope ["self"] ["self"] (defScope s_Row_purse) := ⟨rfl, rfl, rfl, by decide +kernel, rfl, by decide +kernel, by decide +kernel⟩
theorem sc_Row_room_at : FnScope ["self", "at", "low", "high"] ["self", "at"] (defScope s_Row_room_at) := ⟨rfl, rfl, rfl, by decide +kernel, rfl, by decide +kernel, by decide +kernel⟩
theorem sc_Row_stretch_for : FnScope ["self", "mark", "level", "start", "many", "one"] ["self", "mark"] (defScope s_Row_stretch_for) := ⟨rfl, rfl, rfl, by decide +kernel, rfl, by decide +kernel, by decide +kernel⟩
theorem sc_Row_put : FnScope ["self", "one", "at", "low", "high", "stretch", "changed", "number"] ["self", "one"] (defScope s_Row_put) := ⟨rfl, rfl, rfl, by decide +kernel, rfl, by decide +kernel, by decide +kernel⟩
theorem sc_Row_spread_on : FnScope ["self", "stretch", "number", "level", "start", "behind", "some", "one", "changed", "mark"] ["self", "stretch", "number"] (defScope s_Row_spread_on) := ⟨rfl, rfl, rfl, by decide +kernel, rfl, by decide +kernel, by decide +kernel⟩
theorem sc_Row_take : FnScope ["self", "one"] ["self", "one"] (defScope s_Row_take) := ⟨rfl, rfl, rfl, by decide +kernel, rfl, by decide +kernel, by decide +kernel⟩
theorem sc_l_next : FnScope ["_law_state", "_law_k", "_law_cells", "_law_base"] ["_law_state"] (defScope s_l_next) := ⟨rfl, rfl, rfl, by decide +kernel, rfl, by decide +kernel, by decide +kernel⟩
theorem sc_l_too_many : FnScope ["_law_level", "_law_many", "_law_room_here", "_law_turn"] ["_law_level", "_law_many"] (defScope s_l_too_many) := ⟨rfl, rfl, rfl, by decide +kernel, rfl, by decide +kernel, by decide +kernel⟩
theorem sc_l_place : FnScope ["_law_state", "_law_m", "_law_n", "_law_line"] ["_law_state", "_law_m"] (defScope s_l_place) := ⟨rfl, rfl, rfl, by decide +kernel, rfl, by decide +kernel, by decide +kernel⟩
theorem sc_l_refused : FnScope ["_law_row", "_law_one", "_law_caught", "e"] ["_law_row", "_law_one"] (defScope s_l_refused) := ⟨rfl, rfl, rfl, by decide +kernel, rfl, by decide +kernel, by decide +kernel⟩
theorem sc_l_is_full : FnScope ["_law_caught", "_law_others"] ["_law_caught"] (defScope s_l_is_full) := ⟨rfl, rfl, rfl, by decide +kernel, rfl, by decide +kernel, by decide +kernel⟩
theorem sc_l_room : FnScope ["_law_row", "_law_line", "_law_wide", "_law_one", "_law_at", "_law_low", "_law_high"] ["_law_row", "_law_line", "_law_wide", "_law_one"] (defScope s_l_room) := ⟨rfl, rfl, rfl, by decide +kernel, rfl, by decide +kernel, by decide +kernel⟩
theorem sc_law : FnScope ["_law_script", "_law_state", "_law_wide", "_law_row", "_law_m", "_law_cell", "_law_n", "_law_line", "_law_one", "_law_kept", "_law_thing", "_law_room_here", "_law_caught"] ["_law_script"] (defScope s_law) := ⟨rfl, rfl, rfl, by decide +kernel, rfl, by decide +kernel, by decide +kernel⟩
structure Txt (K : PySem.W.Frag) (mg : Str → Option Value) (CB CN CT CF CS : Addr) : Prop where
  n_len : mg "len" = none
  n_isinstance : mg "isinstance" = none
  n_range : mg "range" = none
  n_min : mg "min" = none
  n_max : mg "max" = none
  n_list : mg "list" = none
  n_zip : mg "zip" = none
  n_int : mg "int" = none
  n_bool : mg "bool" = none
  n_ValueError : mg "ValueError" = none
  g_LEAST_WIDE : ∃ t, mg "LEAST_WIDE" = some (.int 4 t)
  g_MOST_WIDE : ∃ t, mg "MOST_WIDE" = some (.int 60 t)
  g_MOST_THINGS : ∃ t, mg "MOST_THINGS" = some (.int 200 t)
  g_PAID : ∃ t, mg "PAID" = some (.int 8 t)
  x_BadWide : Xc K mg "BadWide" CB
  x_NoThing : Xc K mg "NoThing" CN
  x_TooMany : Xc K mg "TooMany" CT
  x_Full : Xc K mg "Full" CF
  x_SeatError : Xc K mg "SeatError" CS
/-! ### the promises of stretches.py -/
def spAmong (K : PySem.W.Frag) : Sp := fun vs H Q _ => ∃ (x : V) (lo hi : Int), vs = [x, .int lo, .int hi] ∧ KdV K H x ∧ Q (.bl (amongV x lo hi)) H
def spNeed (K : PySem.W.Frag) (CB : Addr) : Sp := fun vs H Q E => ∃ (x : V) (lo hi : Int), vs = [x, .int lo, .int hi] ∧ KdV K H x ∧ (amongV x lo hi = true → Q .non H) ∧ (amongV x lo hi = false → E (.ref CB) none H)
/-- too many things for a stretch of a level -/
def tooMany (l : Nat) (n : Int) : Bool := decide ((4 : Int) ^ l < n * 3 ^ l)
/-- the first mark of the stretch of a level that a mark lies in -/
def startOf (l : Nat) (m : Int) : Int := m / 2 ^ l * 2 ^ l
def okL (x : V) : Bool := amongV x 0 60
def okN (x : V) : Bool := amongV x 0 (2 ^ 60)
def okM (x : V) : Bool := amongV x 0 (2 ^ 60 - 1)
def spFullG (K : PySem.W.Frag) (CB : Addr) : Sp := fun vs H Q E => ∃ (x y : V), vs = [x, y] ∧ KdV K H x ∧ KdV K H y ∧
  (∀ (l : Nat) (n : Int), x = .int l → y = .int n → l ≤ 60 → 0 ≤ n → n ≤ 2 ^ 60 → Q (.bl (tooMany l n)) H) ∧ ((okL x && okN y) = false → E (.ref CB) none H)
def spAtG (K : PySem.W.Frag) (CB : Addr) : Sp := fun vs H Q E => ∃ (x y : V), vs = [x, y] ∧ KdV K H x ∧ KdV K H y ∧
  (∀ (l : Nat) (n : Int), x = .int l → y = .int n → l ≤ 60 → 0 ≤ n → n < 2 ^ 60 → Q (.int (startOf l n)) H) ∧ ((okL x && okM y) = false → E (.ref CB) none H)
/-- the marks of n things, spread on a stretch -/
def marksOf (l : Nat) (st : Int) (n : Nat) : List Int := (List.range n).map fun i : Nat => st + (i : Int) * 2 ^ l / (n : Int)
def okC (x y : V) : Bool := match x with
  | .int l => amongV y 0 (2 ^ (min l.toNat 10))
  | _ => false
def spSpreadG (K : PySem.W.Frag) (CB : Addr) : Sp := fun vs H Q E => ∃ (x y z : V), vs = [x, y, z] ∧ KdV K H x ∧ KdV K H y ∧ KdV K H z ∧
  (∀ (l n : Nat) (st : Int), x = .int l → y = .int st → z = .int n → l ≤ 60 → 0 ≤ st → st < 2 ^ 60 → n ≤ 2 ^ l → n ≤ 1024 →
    ∀ p H', H p = none → Same H H' → H' p = some (.lst ((marksOf l st n).map V.int)) → Q (.ref p) H') ∧ ((okL x && okM y && okC x z) = false → E (.ref CB) none H)
def spFull (K : PySem.W.Frag) (CB : Addr) : Sp := fun vs H Q E => (∃ (l : Nat) (n : Int), vs = [.int l, .int n] ∧ l ≤ 60 ∧ 0 ≤ n ∧ n ≤ 2 ^ 60 ∧ Q (.bl (tooMany l n)) H) ∨
  ∃ x y : V, vs = [x, y] ∧ KdV K H x ∧ KdV K H y ∧ (okL x && okN y) = false ∧ E (.ref CB) none H
def spAt (K : PySem.W.Frag) (CB : Addr) : Sp := fun vs H Q E => (∃ (l : Nat) (n : Int), vs = [.int l, .int n] ∧ l ≤ 60 ∧ 0 ≤ n ∧ n < 2 ^ 60 ∧ Q (.int (startOf l n)) H) ∨
  ∃ x y : V, vs = [x, y] ∧ KdV K H x ∧ KdV K H y ∧ (okL x && okM y) = false ∧ E (.ref CB) none H
def spSpread (K : PySem.W.Frag) (CB : Addr) : Sp := fun vs H Q E => (∃ (l n : Nat) (st : Int), vs = [.int l, .int st, .int n] ∧ l ≤ 60 ∧ 0 ≤ st ∧ st < 2 ^ 60 ∧ n ≤ 2 ^ l ∧ n ≤ 1024 ∧
    ∀ p H', H p = none → Same H H' → H' p = some (.lst ((marksOf l st n).map V.int)) → Q (.ref p) H') ∨
  ∃ x y z : V, vs = [x, y, z] ∧ KdV K H x ∧ KdV K H y ∧ KdV K H z ∧ (okL x && okM y && okC x z) = false ∧ E (.ref CB) none H
section
variable {P : Program} {w : World} {K : PySem.W.Frag} {mg : Str → Option Value} {base : Heap} {CB CN CT CF CS : Addr} {f : Addr} {fd : FuncData}
theorem ok_is_among (F : Fun K "is_among" "is_among" s_is_among f fd) (T : Txt K mg CB CN CT CF CS) : FnOk P w K mg base (L2.CX P w) 1 f fd ["thing", "least", "most"] (spAmong K) := by
  refine F.okX sc_is_among (fun vs H Q E h => ?_) (fun cdv A outer s H vs Q E hr h => ?_)
  · obtain ⟨x, lo, hi, rfl, _⟩ := h; rfl
  · obtain ⟨x, lo, hi, rfl, ⟨Ty, b1, b2, ht, k1, k2, h1, h2⟩, q⟩ := h
    refine ⟨_, (pss_one (ps_ret (pe_and (pe_callB call_isi (by rfl) T.n_isinstance (by decide +kernel) (pa_cons (pv 0) (pa_cons (pe_bltn (v := .ty "int") rfl T.n_int (by decide +kernel) rfl) pa_nil))) (pe_and (pe_not (pe_callB call_isi (by rfl) T.n_isinstance (by decide +kernel) (pa_cons (pv 0) (pa_cons (pe_bltn (v := .ty "bool") rfl T.n_bool (by decide +kernel) rfl) pa_nil)))) (pe_one (pe_chain op_le op_le (pv 1) (pv 0) (pv 2))))))), ?_⟩
    refine ⟨_, rfl, _, _, _, _, b1, rfl, .ty "int", ht, kit_ty k1, b1, rfl, ?_⟩
    cases b1 with
    | false =>
      refine iteF ?_
      have e : amongV x lo hi = false := by
        cases x <;> first | rfl | exact absurd rfl (h2 rfl _)
      show Q (.bl false) H
      rw [← e]; exact q
    | true =>
      refine iteT ?_
      refine ⟨_, rfl, _, _, _, _, b2, rfl, .ty "bool", ht, kit_ty k2, b2, rfl, !b2, rfl, ?_⟩
      cases b2 with
      | true =>
        refine iteF ?_
        have e : amongV x lo hi = false := by
          cases x <;> first | rfl | exact absurd rfl (h2 rfl _)
        show Q (.bl false) H
        rw [← e]; exact q
      | false =>
        refine iteT ?_
        obtain ⟨i, rfl⟩ := h1 rfl
        refine ⟨_, rfl, _, rfl, _, _, rfl, rfl, _, rfl, ?_⟩
        by_cases c : lo ≤ i
        · rw [if_pos (decide_eq_true c)]
          refine ⟨_, rfl, _, _, rfl, rfl, ?_⟩
          have e : amongV (.int i) lo hi = decide (i ≤ hi) := by
            show (decide (lo ≤ i) && decide (i ≤ hi)) = _
            rw [decide_eq_true c]; rfl
          show Q (.bl (decide (i ≤ hi))) H
          rw [← e]; exact q
        · rw [if_neg (by simpa using c)]
          have e : amongV (.int i) lo hi = false := by
            show (decide (lo ≤ i) && decide (i ≤ hi)) = _
            rw [decide_eq_false c]; rfl
          show Q (.bl false) H
          rw [← e]; exact q
theorem ok_need_among (F : Fun K "need_among" "need_among" s_need_among f fd) (T : Txt K mg CB CN CT CF CS) (d_is_among : Dfn P w K mg base 1 "is_among" [] (spAmong K)) : FnOk P w K mg base (L2.CX P w) 2 f fd ["thing", "least", "most"] (spNeed K CB) := by
  refine F.okX sc_need_among (fun vs H Q E h => ?_) (fun cdv A outer s H vs Q E hr h => ?_)
  · obtain ⟨x, lo, hi, rfl, _⟩ := h; rfl
  · obtain ⟨x, lo, hi, rfl, hk, q, e⟩ := h
    refine ⟨_, (pss_one (ps_if (pt_not (pt_val (Sm.pe_def d_is_among (hr.mono (by decide)) (passes_call (takes_of rfl rfl rfl rfl) (fun _ _ _ _ z => z)) (pa_cons (pv 0) (pa_cons (pv 1) (pa_cons (pv 2) pa_nil))))))
        (pss_one (ps_raise rfl (takes_of rfl rfl rfl rfl) (Sm.pmk T.x_BadWide)))
        pss_nil)), ?_⟩
    refine ⟨_, rfl, _, rfl, _, rfl, x, lo, hi, rfl, hk, _, rfl, ?_⟩
    cases c : amongV x lo hi with
    | true => exact iteF (q c)
    | false => exact iteT (e c)
theorem among_int {i lo hi : Int} : amongV (.int i) lo hi = true ↔ lo ≤ i ∧ i ≤ hi := by
  show (decide (lo ≤ i) && decide (i ≤ hi)) = true ↔ _
  rw [Bool.and_eq_true, decide_eq_true_eq, decide_eq_true_eq]
theorem among_nat {x : V} {hi : Int} (h : amongV x 0 hi = true) : ∃ n : Nat, x = .int n ∧ (n : Int) ≤ hi := by
  cases x with
  | int i =>
    obtain ⟨h1, h2⟩ := among_int.mp h
    exact ⟨i.toNat, by rw [Int.toNat_of_nonneg h1], by rw [Int.toNat_of_nonneg h1]; exact h2⟩
  | _ => exact absurd h (by simp [amongV])
theorem full_end {CB : Addr} {l : Nat} {n : Int} {H : Hp} {Q : VK} {E : XK} (hl : l ≤ 60) (h0 : 0 ≤ n) (h1 : n ≤ 2 ^ 60) (q : Q (.bl (tooMany l n)) H) :
    (∀ (l' : Nat) (n' : Int), V.int l = .int l' → V.int n = .int n' → l' ≤ 60 → 0 ≤ n' → n' ≤ 2 ^ 60 → Q (.bl (tooMany l' n')) H) ∧ ((okL (.int l) && okN (.int n)) = false → E (.ref CB) none H) := by
  refine ⟨fun l' n' e1 e2 _ _ _ => ?_, fun e => ?_⟩
  · have e1' : (l : Int) = l' := V.int.inj e1
    have e2' : n = n' := V.int.inj e2
    have : l = l' := by omega
    subst this e2'; exact q
  · have h : (okL (.int l) && okN (.int n)) = true := Bool.and_eq_true_iff.mpr ⟨among_int.mpr (by omega), among_int.mpr (by omega)⟩
    rw [e] at h; cases h
theorem at_end {CB : Addr} {l : Nat} {n : Int} {H : Hp} {Q : VK} {E : XK} (hl : l ≤ 60) (h0 : 0 ≤ n) (h1 : n < 2 ^ 60) (q : Q (.int (startOf l n)) H) :
    (∀ (l' : Nat) (n' : Int), V.int l = .int l' → V.int n = .int n' → l' ≤ 60 → 0 ≤ n' → n' < 2 ^ 60 → Q (.int (startOf l' n')) H) ∧ ((okL (.int l) && okM (.int n)) = false → E (.ref CB) none H) := by
  refine ⟨fun l' n' e1 e2 _ _ _ => ?_, fun e => ?_⟩
  · have e1' : (l : Int) = l' := V.int.inj e1
    have e2' : n = n' := V.int.inj e2
    have : l = l' := by omega
    subst this e2'; exact q
  · have h : (okL (.int l) && okM (.int n)) = true := Bool.and_eq_true_iff.mpr ⟨among_int.mpr (by omega), among_int.mpr (by omega)⟩
    rw [e] at h; cases h
theorem spread_end {CB : Addr} {l n : Nat} {st : Int} {H : Hp} {Q : VK} {E : XK} (hl : l ≤ 60) (h0 : 0 ≤ st) (h1 : st < 2 ^ 60) (hn : n ≤ 2 ^ l) (hn2 : n ≤ 1024)
    (q : ∀ p H', H p = none → Same H H' → H' p = some (.lst ((marksOf l st n).map V.int)) → Q (.ref p) H') :
    (∀ (l' n' : Nat) (st' : Int), V.int l = .int l' → V.int st = .int st' → V.int n = .int n' → l' ≤ 60 → 0 ≤ st' → st' < 2 ^ 60 → n' ≤ 2 ^ l' → n' ≤ 1024 →
      ∀ p H', H p = none → Same H H' → H' p = some (.lst ((marksOf l' st' n').map V.int)) → Q (.ref p) H') ∧ ((okL (.int l) && okM (.int st) && okC (.int l) (.int n)) = false → E (.ref CB) none H) := by
  refine ⟨fun l' n' st' e1 e2 e3 _ _ _ _ _ => ?_, fun e => ?_⟩
  · have e1' : (l : Int) = l' := V.int.inj e1
    have e2' : st = st' := V.int.inj e2
    have e3' : (n : Int) = n' := V.int.inj e3
    have : l = l' := by omega
    have : n = n' := by omega
    subst l' n' st'; exact q
  · have h : (okL (.int l) && okM (.int st) && okC (.int l) (.int n)) = true := Bool.and_eq_true_iff.mpr ⟨Bool.and_eq_true_iff.mpr ⟨among_int.mpr (by omega), among_int.mpr (by omega)⟩, by
      show amongV (.int n) 0 (2 ^ (min (l : Int).toNat 10)) = true
      rw [Int.toNat_natCast]
      refine among_int.mpr ⟨by omega, ?_⟩
      rcases Nat.le_total l 10 with c | c
      · rw [Nat.min_eq_left c]; exact_mod_cast hn
      · rw [Nat.min_eq_right c]; exact_mod_cast hn2⟩
    rw [e] at h; cases h
theorem full_of {K : PySem.W.Frag} {CB : Addr} {vs : List V} {H : Hp} {Q : VK} {E : XK} (h : spFull K CB vs H Q E) : spFullG K CB vs H Q E := by
  rcases h with ⟨l, n, rfl, hl, h0, h1, q⟩ | ⟨x, y, rfl, hx, hy, b, e⟩
  · exact ⟨_, _, rfl, .int, .int, full_end hl h0 h1 q⟩
  · refine ⟨x, y, rfl, hx, hy, fun l n e1 e2 hl h0 h1 => ?_, fun _ => e⟩
    subst e1 e2
    have h : (okL (.int l) && okN (.int n)) = true := Bool.and_eq_true_iff.mpr ⟨among_int.mpr (by omega), among_int.mpr (by omega)⟩
    rw [b] at h; cases h
theorem at_of' {K : PySem.W.Frag} {CB : Addr} {vs : List V} {H : Hp} {Q : VK} {E : XK} (h : spAt K CB vs H Q E) : spAtG K CB vs H Q E := by
  rcases h with ⟨l, n, rfl, hl, h0, h1, q⟩ | ⟨x, y, rfl, hx, hy, b, e⟩
  · exact ⟨_, _, rfl, .int, .int, at_end hl h0 h1 q⟩
  · refine ⟨x, y, rfl, hx, hy, fun l n e1 e2 hl h0 h1 => ?_, fun _ => e⟩
    subst e1 e2
    have h : (okL (.int l) && okM (.int n)) = true := Bool.and_eq_true_iff.mpr ⟨among_int.mpr (by omega), among_int.mpr (by omega)⟩
    rw [b] at h; cases h
theorem okC_of {l n : Nat} (hn : n ≤ 2 ^ l) (hn2 : n ≤ 1024) : okC (.int l) (.int n) = true := by
  show amongV (.int n) 0 (2 ^ (min (l : Int).toNat 10)) = true
  rw [Int.toNat_natCast]
  refine among_int.mpr ⟨by omega, ?_⟩
  rcases Nat.le_total l 10 with c | c
  · rw [Nat.min_eq_left c]; exact_mod_cast hn
  · rw [Nat.min_eq_right c]; exact_mod_cast hn2
theorem spread_of {K : PySem.W.Frag} {CB : Addr} {vs : List V} {H : Hp} {Q : VK} {E : XK} (h : spSpread K CB vs H Q E) : spSpreadG K CB vs H Q E := by
  rcases h with ⟨l, n, st, rfl, hl, h0, h1, hn, hn2, q⟩ | ⟨x, y, z, rfl, hx, hy, hz, b, e⟩
  · exact ⟨_, _, _, rfl, .int, .int, .int, spread_end hl h0 h1 hn hn2 q⟩
  · refine ⟨x, y, z, rfl, hx, hy, hz, fun l n st e1 e2 e3 hl h0 h1 hn hn2 => ?_, fun _ => e⟩
    subst e1 e2 e3
    have h : (okL (.int l) && okM (.int st) && okC (.int l) (.int n)) = true := Bool.and_eq_true_iff.mpr ⟨Bool.and_eq_true_iff.mpr ⟨among_int.mpr (by omega), among_int.mpr (by omega)⟩, okC_of hn hn2⟩
    rw [b] at h; cases h
theorem pow3 (l : Nat) (h : l ≤ 60) : (3 : Int) ^ l ≤ 3 ^ 60 := by
  exact_mod_cast Nat.pow_le_pow_right (by decide : 0 < 3) h
theorem small3 {n : Int} {i : Nat} (h0 : 0 ≤ n) (h1 : n ≤ 2 ^ 60) (hi : i ≤ 60) : (n * 3 ^ i).natAbs < 2 ^ 160 := by
  rw [Int.natAbs_mul, Int.natAbs_pow]
  have a : n.natAbs ≤ 2 ^ 60 := by omega
  have b : ((3 : Int).natAbs) ^ i ≤ 3 ^ 60 := Nat.pow_le_pow_right (by decide) hi
  exact Nat.lt_of_le_of_lt (Nat.mul_le_mul a b) (by decide)
theorem ok_is_too_full (F : Fun K "is_too_full" "is_too_full" s_is_too_full f fd) (T : Txt K mg CB CN CT CF CS) (d_need_among : Dfn P w K mg base 2 "need_among" [] (spNeed K CB)) : FnOk P w K mg base (L2.CX P w) 3 f fd ["level", "many"] (spFull K CB) := by
  refine F.okX sc_is_too_full (fun vs H Q E h => ?_) (fun cdv A outer s H vs Q E hr h => ?_)
  · rcases h with ⟨l, n, rfl, _⟩ | ⟨x, y, rfl, _⟩ <;> rfl
  · obtain ⟨x, y, rfl, hx, hy, q, e⟩ := full_of h
    refine ⟨_, (pss_cons (ps_expr (Sm.pe_def d_need_among (hr.mono (by decide)) (passes_call (takes_of rfl rfl rfl rfl) (fun _ _ _ _ z => z)) (pa_cons (pv 0) (pa_cons pe_int (pa_cons (Sm.pe_const T.g_MOST_WIDE) pa_nil)))))
      (pss_cons (ps_expr (Sm.pe_def d_need_among (hr.mono (by decide)) (passes_call (takes_of rfl rfl rfl rfl) (fun _ _ _ _ z => z)) (pa_cons (pv 1) (pa_cons pe_int (pa_cons (pe_op Sm.op_shl1 pe_int (Sm.pe_const T.g_MOST_WIDE)) pa_nil)))))
      (pss_cons (ps_for (passes_of rfl) rfl (pi_range1 rfl T.n_range (pa_cons (pv 0) pa_nil)) (pg_name (i := 2) sc_is_too_full.nd rfl (by first | exact Or.inl rfl | exact Or.inr rfl))
        (pss_one (ps_set (i := 1) sc_is_too_full.nd rfl (by first | exact Or.inl rfl | exact Or.inr rfl) (pe_op op_mulW (pv 1) pe_int))))
      (pss_one (ps_ret (pe_cmpR op_gt (pv 1) (pe_op Sm.op_shl1 pe_int (pe_op op_mulW pe_int (pv 0))) (nomark _))))))), ?_⟩
    refine ⟨_, rfl, x, 0, 60, rfl, hx, fun c1 => ?_, fun c1 => e (by show (amongV x 0 60 && _) = false; rw [c1]; rfl)⟩
    refine ⟨_, rfl, 60, rfl, rfl, by decide, y, 0, 2 ^ 60, rfl, hy, fun c2 => ?_, fun c2 => e (by show (_ && amongV y 0 (2 ^ 60)) = false; rw [c2, Bool.and_false])⟩
    obtain ⟨l, rfl, hl⟩ := among_nat c1
    obtain ⟨n, rfl, hn⟩ := among_nat c2
    have hl : l ≤ 60 := by omega
    refine ⟨_, rfl, (l : Int), rfl, by omega, by omega, for_range (lo := 0) (n := l) (fun i σ H' => H' = H ∧ ∃ v, σ = [some (.int l), some (.int (n * 3 ^ i)), v]) ⟨rfl, none, by rw [Int.pow_zero, Int.mul_one]; rfl⟩ ?_ ?_⟩
    · rintro i σ H' hi ⟨rfl, v, rfl⟩
      refine ⟨_, rfl, _, _, rfl, rfl, wide_mul (small3 (Int.natCast_nonneg _) hn (by omega)) (show (3 : Int).natAbs < 2 ^ 2 by decide) (by decide) (by decide) (by decide), ?_⟩
      refine ⟨rfl, some (.int (0 + (i : Int))), ?_⟩
      show [some (V.int l), some (V.int (n * 3 ^ i * 3)), some (V.int (0 + (i : Int)))] = _
      rw [Int.pow_succ, ← Int.mul_assoc]
    · rintro σ H' ⟨rfl, v, rfl⟩
      refine ⟨_, rfl, _, rfl, _, _, rfl, rfl, wide_mul (show (2 : Int).natAbs < 2 ^ 2 by decide) (show (l : Int).natAbs < 2 ^ 7 by omega) (by decide) (by decide) (by decide), 2 * l, rfl, (by show V.int ((2 : Int) * (l : Int)) = _; exact congrArg V.int (by omega)), by omega, _, _, rfl, rfl, ?_⟩
      have k := q l n rfl rfl hl (Int.natCast_nonneg _) hn
      have e2 : (2 : Int) ^ (2 * l) = 4 ^ l := by
        rw [Int.pow_mul]; rfl
      show Q (.bl (decide ((2 : Int) ^ (2 * l) < n * 3 ^ l))) H'
      rw [e2]
      exact k
theorem ok_stretch_at (F : Fun K "stretch_at" "stretch_at" s_stretch_at f fd) (T : Txt K mg CB CN CT CF CS) (d_need_among : Dfn P w K mg base 2 "need_among" [] (spNeed K CB)) : FnOk P w K mg base (L2.CX P w) 3 f fd ["level", "mark"] (spAt K CB) := by
  refine F.okX sc_stretch_at (fun vs H Q E h => ?_) (fun cdv A outer s H vs Q E hr h => ?_)
  · rcases h with ⟨l, n, rfl, _⟩ | ⟨x, y, rfl, _⟩ <;> rfl
  · obtain ⟨x, y, rfl, hx, hy, q, e⟩ := at_of' h
    refine ⟨_, (pss_cons (ps_expr (Sm.pe_def d_need_among (hr.mono (by decide)) (passes_call (takes_of rfl rfl rfl rfl) (fun _ _ _ _ z => z)) (pa_cons (pv 0) (pa_cons pe_int (pa_cons (Sm.pe_const T.g_MOST_WIDE) pa_nil)))))
      (pss_cons (ps_expr (Sm.pe_def d_need_among (hr.mono (by decide)) (passes_call (takes_of rfl rfl rfl rfl) (fun _ _ _ _ z => z)) (pa_cons (pv 1) (pa_cons pe_int (pa_cons (pe_op op_sub (pe_op Sm.op_shl1 pe_int (Sm.pe_const T.g_MOST_WIDE)) pe_int) pa_nil)))))
      (pss_one (ps_ret (pe_op op_shl (pe_op op_shr (pv 1) (pv 0)) (pv 0)))))), ?_⟩
    refine ⟨_, rfl, x, 0, 60, rfl, hx, fun c1 => ?_, fun c1 => e (by show (amongV x 0 60 && _) = false; rw [c1]; rfl)⟩
    refine ⟨_, rfl, 60, rfl, rfl, by decide, _, _, rfl, rfl, y, 0, 2 ^ 60 - 1, rfl, hy, fun c2 => ?_, fun c2 => e (by show (_ && amongV y 0 (2 ^ 60 - 1)) = false; rw [c2, Bool.and_false])⟩
    obtain ⟨l, rfl, hl⟩ := among_nat c1
    obtain ⟨n, rfl, hn⟩ := among_nat c2
    have hl : l ≤ 60 := by omega
    have k := q l n rfl rfl hl (Int.natCast_nonneg _) (by omega)
    have hd : (n : Int) / 2 ^ l ≤ n := Int.ediv_le_self _ (Int.natCast_nonneg _)
    have hd0 : 0 ≤ (n : Int) / 2 ^ l := Int.ediv_nonneg (Int.natCast_nonneg _) (by exact_mod_cast Nat.zero_le (2 ^ l))
    refine ⟨_, rfl, _, rfl, _, _, rfl, rfl, (by show (0 : Int) ≤ l; omega), _, rfl, _, _, rfl, rfl, ⟨by omega, by omega, ?_⟩, k⟩
    show ((n : Int) / 2 ^ l).natAbs < 2 ^ 64
    omega
/-- some of the marks -/
def marksTo (l : Nat) (st : Int) (n i : Nat) : List Int := (List.range i).map fun k : Nat => st + (k : Int) * 2 ^ l / (n : Int)
theorem marksTo_succ {l n i : Nat} {st : Int} : marksTo l st n (i + 1) = marksTo l st n i ++ [st + (i : Int) * 2 ^ l / (n : Int)] := by
  unfold marksTo
  rw [List.range_succ, List.map_append]; rfl
theorem marksTo_len {l n i : Nat} {st : Int} : (marksTo l st n i).length = i := by
  unfold marksTo
  rw [List.length_map, List.length_range]
theorem min10 (l : Nat) : (if (10 : Int) < (l : Int) then (10 : Int) else (l : Int)) = ((min l 10 : Nat) : Int) := by
  split <;> omega
theorem ok_spread (F : Fun K "spread" "spread" s_spread f fd) (T : Txt K mg CB CN CT CF CS) (d_need_among : Dfn P w K mg base 2 "need_among" [] (spNeed K CB)) : FnOk P w K mg base (L2.CX P w) 3 f fd ["level", "start", "many"] (spSpread K CB) := by
  refine F.okX sc_spread (fun vs H Q E h => ?_) (fun cdv A outer s H vs Q E hr h => ?_)
  · rcases h with ⟨l, n, st, rfl, _⟩ | ⟨x, y, z, rfl, _⟩ <;> rfl
  · obtain ⟨x, y, z, rfl, hx, hy, hz, q, e⟩ := spread_of h
    refine ⟨_, (pss_cons (ps_expr (Sm.pe_def d_need_among (hr.mono (by decide)) (passes_call (takes_of rfl rfl rfl rfl) (fun _ _ _ _ z => z)) (pa_cons (pv 0) (pa_cons pe_int (pa_cons (Sm.pe_const T.g_MOST_WIDE) pa_nil)))))
      (pss_cons (ps_expr (Sm.pe_def d_need_among (hr.mono (by decide)) (passes_call (takes_of rfl rfl rfl rfl) (fun _ _ _ _ z => z)) (pa_cons (pv 1) (pa_cons pe_int (pa_cons (pe_op op_sub (pe_op Sm.op_shl1 pe_int (Sm.pe_const T.g_MOST_WIDE)) pe_int) pa_nil)))))
      (pss_cons (ps_expr (Sm.pe_def d_need_among (hr.mono (by decide)) (passes_call (takes_of rfl rfl rfl rfl) (fun _ _ _ _ z => z)) (pa_cons (pv 2) (pa_cons pe_int (pa_cons (pe_op Sm.op_shl1 pe_int (pe_callB (call_min2 rfl) (by rfl) T.n_min (by decide +kernel) (pa_cons (pv 0) (pa_cons pe_int pa_nil)))) pa_nil)))))
      (pss_one (ps_ret (pe_lc (own := [("turn", 3)]) (g := gName 3) rfl sc_spread.nd (pi_range1 rfl T.n_range (pa_cons (pv 2) pa_nil)) (blkOk_by (N := ["level", "start", "many", "turn"]) (sc := defScope s_spread) (by decide +kernel)) (fun _ _ _ _ _ => pg_name (i := 3) sc_spread.nd rfl (Or.inl rfl)) (fun _ _ _ _ _ => pts_nil) (fun _ _ _ _ _ => by exact (pe_op op_add (pv 1) (pe_op op_fdiv (pe_op op_shl (pv 3) (pv 0)) (pv 2)))))))))), ?_⟩
    refine ⟨_, rfl, x, 0, 60, rfl, hx, fun c1 => ?_, fun c1 => e (by show (amongV x 0 60 && _ && _) = false; rw [c1]; rfl)⟩
    refine ⟨_, rfl, 60, rfl, rfl, by decide, _, _, rfl, rfl, y, 0, 2 ^ 60 - 1, rfl, hy, fun c2 => ?_, fun c2 => e (by show (_ && amongV y 0 (2 ^ 60 - 1) && _) = false; rw [c2, Bool.and_false]; rfl)⟩
    obtain ⟨l, rfl, hl⟩ := among_nat c1
    obtain ⟨m, rfl, hm⟩ := among_nat c2
    have hl : l ≤ 60 := by omega
    refine ⟨_, rfl, _, rfl, _, _, rfl, min l 10, rfl, congrArg V.int (min10 l), by omega, z, 0, _, rfl, hz, fun c3 => ?_, fun c3 => e ?_⟩
    rotate_left
    · show (_ && _ && amongV z 0 (2 ^ (min (l : Int).toNat 10))) = false
      rw [Int.toNat_natCast, c3, Bool.and_false]
    obtain ⟨n, rfl, hn⟩ := among_nat c3
    have hn1 : n ≤ 2 ^ (min l 10) := by exact_mod_cast hn
    have hn2 : n ≤ 2 ^ l := Nat.le_trans hn1 (Nat.pow_le_pow_right (by decide) (Nat.min_le_left _ _))
    have hn3 : n ≤ 1024 := Nat.le_trans hn1 (Nat.pow_le_pow_right (by decide) (Nat.min_le_right _ _))
    have k := q l n m rfl rfl rfl hl (Int.natCast_nonneg _) (by omega) hn2 hn3
    refine ⟨_, rfl, (n : Int), rfl, by omega, by omega, fun Dl hD => lc_range (lo := 0) (n := n) (fun i H' => Same H H' ∧ H' Dl = some (.lst ((marksTo l m n i).map V.int))) ⟨fun b o h => by rw [upd_ne (ne_of_none h hD)]; exact h, upd_same⟩ ?_ ?_⟩
    · rintro i H' hi ⟨s1, a1⟩
      refine ⟨rfl, tyes (iteT ?_)⟩
      refine ⟨_, rfl, _, rfl, _, rfl, _, _, rfl, rfl, ⟨by omega, by omega, by omega⟩, _, rfl, _, _, rfl, rfl, ⟨by omega, by omega⟩, _, _, rfl, rfl, _, a1, ?_, fun b o h => ?_, ?_⟩
      · rw [List.length_map, marksTo_len]
        exact Nat.lt_of_lt_of_le (by omega : i < 1024) (by rw [sizeLine_eq]; decide)
      · rw [upd_ne (ne_of_none h hD)]; exact s1 b o h
      · rw [upd_same, marksTo_succ, List.map_append]
        show some (HO.lst (_ ++ [V.int (m + ((0 : Int) + (i : Int)) * 2 ^ ((l : Int)).toNat / (n : Int))])) = _
        rw [Int.zero_add, Int.toNat_natCast]; rfl
    · rintro H' ⟨s1, a1⟩
      exact k Dl H' hD s1 a1
end
end Sm

namespace Sm
open PySem PySem.Spec L2 PyProof.Rows
/-! ### data compared -/
section
variable {K : PySem.W.Frag} {H H' : Hp} {a st : Addr}
theorem dpAll_ints : ∀ ns : List Int, DpAll K H (ns.map V.int) (ns.map PyData.int)
  | [] => .nil
  | n :: r => .cons (.int n) (dpAll_ints r)
theorem dp_ints {ns : List Int} (h : SqL K H a (ns.map V.int)) : Dp K H (.ref a) (.list (ns.map PyData.int)) := .lst h (dpAll_ints ns)
theorem eqv_ints (ns ms : List Int) : PyData.eqv (.list (ns.map PyData.int)) (.list (ms.map PyData.int)) = decide (ns = ms) := by
  rw [PyData.eqv]; exact PySem.W.ked_eqvAll ns ms
theorem sh_ints (ns : List Int) : SeqAt.shaped (.list (ns.map PyData.int)) = true := PySem.W.ke_shaped_ints ns
/-- all but the object at st is as it was -/
def Fr1 (st : Addr) (H H' : Hp) : Prop := ∀ b o, H b = some o → b ≠ st → H' b = some o
theorem Fr1.refl : Fr1 st H H := fun _ _ h _ => h
theorem Fr1.upd {o : HO} : Fr1 st H (upd H st o) := fun b u h n => by rw [upd_ne n]; exact h
theorem Fr1.same {H2 : Hp} (f : Fr1 st H H') (s : Same H' H2) : Fr1 st H H2 := fun b u h n => s b u (f b u h n)
theorem Fr1.trans {H2 : Hp} (f : Fr1 st H H') (s : Fr1 st H' H2) : Fr1 st H H2 := fun b u h n => s b u (f b u h n) n
theorem sq_fr {xs : List V} {kv : List (Key × V)} (h : SqL K H a xs) (hs : H st = some (.dK kv)) (f : Fr1 st H H') : SqL K H' a xs := by
  rcases h with (h | ⟨o, h⟩) | h
  · exact .inl (.inl (f _ _ h (ne_of h hs (by intro z; cases z))))
  · exact .inl (.inr ⟨o, f _ _ h (ne_of h hs (by intro z; cases z))⟩)
  · exact .inr h
end
theorem upd_new {H : Hp} {p : Addr} {o : HO} (h : H p = none) : Same H (upd H p o) := fun b u e => by rw [upd_ne (ne_of_none e h)]; exact e
/-! ### dicts of two or more text keys -/
section
variable {k1 k2 : Str} {v1 v2 v : V}
theorem val1 {r : List (Key × V)} : valV ((.inr k1, v1) :: r : List (Key × V)) (.inr k1) = some v1 := valV_pos rfl
theorem val2 {r : List (Key × V)} (h : ¬ k1 = k2) : valV ((.inr k1, v1) :: r : List (Key × V)) (.inr k2) = valV r (.inr k2) := valV_neg (fun z => h (Sum.inr.inj z))
theorem put_pos {k : Key} {r : List (Key × V)} : putK ((k, v1) :: r) k v = (k, v) :: r.map (fun kv => if kv.1 = k then (kv.1, v) else kv) := by
  unfold putK
  rw [if_pos (by simp)]
  simp
theorem put_neg {k j : Key} {r : List (Key × V)} (h : ¬ k = j) : putK ((k, v1) :: r) j v = (k, v1) :: putK r j v := by
  unfold putK
  have e : ((((k, v1) :: r : List (Key × V)).any fun kv => decide (kv.1 = j)) = true) ↔ ((r.any fun kv => decide (kv.1 = j)) = true) := by
    simp [h]
  by_cases c : (r.any fun kv => decide (kv.1 = j)) = true
  · rw [if_pos (e.mpr c), if_pos c]; simp [h]
  · rw [if_neg (fun z => c (e.mp z)), if_neg c]; rfl
end
theorem key_ca : ¬ (("cells" : Str) = "at") := by decide +kernel
/-- the state of the law's numbers -/
def stK (a : Addr) (k : Int) : List (Key × V) := [(.inr "cells", .ref a), (.inr "at", .int k)]
theorem stK_at {a : Addr} {k : Int} : valV (stK a k) (.inr "at") = some (.int k) := (val2 key_ca).trans val1
theorem stK_cells {a : Addr} {k : Int} : valV (stK a k) (.inr "cells") = some (.ref a) := val1
theorem stK_put {a : Addr} {k j : Int} : putK (stK a k) (.inr "at") (.int j) = stK a j := by
  unfold stK
  rw [put_neg (fun z => key_ca (Sum.inr.inj z)), put_pos]; rfl
theorem dget_of {H : Hp} {d : Addr} {kv : List (Key × V)} {k : Key} {v : V} (h : H d = some (.dK kv)) (e : valV kv k = some v) : DGet H d (kV k) (some v) := by
  rw [← e]; exact DGet.k h
theorem dput_of {H : Hp} {d : Addr} {kv kv' : List (Key × V)} {k : Key} {v : V} (h : H d = some (.dK kv)) (hl : kv.length ≤ 1000) (e : putK kv k v = kv') : DPut H d (kV k) v (upd H d (.dK kv')) := by
  rw [← e]; exact DPut.k h (small1000 hl)
/-- a number of the law's row: nothing is said of which -/
def spNext (K : PySem.W.Frag) : Sp := fun vs H Q _ => ∃ (st a : Addr) (ns : List Int) (k : Int), vs = [.ref st] ∧ H st = some (.dK (stK a k)) ∧ SqL K H a (ns.map V.int) ∧ ns.length ≤ 100 ∧ 0 ≤ k ∧ k ≤ 1000000 ∧
  ∀ (z : Int) (H' : Hp), 0 ≤ z → z < 2 ^ 29 → H' st = some (.dK (stK a (k + 1))) → Fr1 st H H' → Q (.int z) H'
def spTooMany : Sp := fun vs H Q _ => ∃ (l : Nat) (n : Int), vs = [.int l, .int n] ∧ l ≤ 60 ∧ 0 ≤ n ∧ n ≤ 2 ^ 60 ∧ Q (.bl (tooMany l n)) H
section
variable {P : Program} {w : World} {K : PySem.W.Frag} {mg : Str → Option Value} {base : Heap} {CB CN CT CF CS : Addr} {f : Addr} {fd : FuncData}
theorem ok_l_next (F : Fun K "_law_next" "_law_next" s_l_next f fd) (T : Txt K mg CB CN CT CF CS) : FnOk P w K mg base (L2.CX P w) 1 f fd ["_law_state"] (spNext K) := by
  refine F.okX sc_l_next (fun vs H Q E h => ?_) (fun cdv A outer s H vs Q E hr h => ?_)
  · obtain ⟨st, a, ns, k, rfl, _⟩ := h; rfl
  · obtain ⟨st, a, ns, k, rfl, hs, hx, hl, hk0, hk1, q⟩ := h
    refine ⟨_, (pss_cons (ps_dput (hu_of hr) (pv 0) pe_str (pe_op op_add (pe_dget (hu_of hr) (pv 0) pe_str (fun _ _ => rfl)) pe_int) rfl)
      (pss_cons (ps_set (i := 1) sc_l_next.nd rfl (by first | exact Or.inl rfl | exact Or.inr rfl) (pe_dget (hu_of hr) (pv 0) pe_str (fun _ _ => rfl)))
      (pss_cons (ps_set (i := 2) sc_l_next.nd rfl (by first | exact Or.inl rfl | exact Or.inr rfl) (pe_dget (hu_of hr) (pv 0) pe_str (fun _ _ => rfl)))
      (pss_cons (ps_set (i := 3) sc_l_next.nd rfl (by first | exact Or.inl rfl | exact Or.inr rfl) (pe_op op_add (pe_op op_mul (pe_op op_mul pe_int (pv 1)) (pv 1)) (pe_op op_mul pe_int (pv 1))))
      (pss_cons (ps_if (pt_cmpR (op_neD hr.units) (pv 2) (pe_lst pa_nil) (nomark _))
        (pss_one (ps_set (i := 3) sc_l_next.nd rfl (by first | exact Or.inl rfl | exact Or.inr rfl) (pe_op op_add (pv 3) (pe_op op_mul (pe_op op_mod (pe_ix ix_list (pv 2) (pe_op op_mod (pv 1) (pe_callB call_len_seq (by rfl) T.n_len PySem.boot_len (pa_cons (pv 2) pa_nil))) (fun _ _ => rfl)) pe_int) (pe_op op_add pe_int (pe_op op_fdiv (pv 1) (pe_callB call_len_seq (by rfl) T.n_len PySem.boot_len (pa_cons (pv 2) pa_nil))))))))
        pss_nil)
      (pss_one (ps_ret (pe_op op_fdiv (pe_op op_mod (pe_op op_mul (pv 3) pe_int) pe_int) pe_int)))))))), ?_⟩
    -- _law_state['at'] = _law_state['at'] + 1
    refine ⟨_, rfl, st, _, rfl, dget_of (k := .inr "at") hs stK_at, _, _, rfl, rfl, _, rfl, st, _, rfl, dput_of (k := .inr "at") hs (show 2 ≤ 1000 by decide) stK_put, ?_⟩
    have f1 : Fr1 st H (upd H st (.dK (stK a (k + 1)))) := Fr1.upd
    have h1 : (upd H st (.dK (stK a (k + 1)))) st = some (.dK (stK a (k + 1))) := upd_same
    generalize upd H st (.dK (stK a (k + 1))) = H1 at f1 h1
    have x1 := sq_fr hx hs f1
    -- _law_k, _law_cells, _law_base
    refine ⟨_, rfl, st, _, rfl, dget_of (k := .inr "at") h1 stK_at, _, rfl, st, _, rfl, dget_of (k := .inr "cells") h1 stK_cells, ?_⟩
    refine ⟨_, rfl, _, _, rfl, rfl, .inl ⟨by decide, by decide⟩, _, rfl, _, _, rfl, rfl, .inr ⟨by omega, by omega⟩, _, rfl, _, _, rfl, rfl, .inl ⟨by decide, by decide⟩, _, _, rfl, rfl, ?_⟩
    have fin : ∀ (b : Int) (H2 : Hp), Same H1 H2 → Q (.int (b * 48271 % 2147483647 / 7)) H2 := fun b H2 s2 =>
      q _ H2 (by omega) (by omega) (s2 _ _ h1) (f1.same s2)
    refine ⟨_, rfl, by decide, fun p hp => ⟨_, _, dp_ints ((upd_new hp).seq x1), dp_ints (ns := []) (SqL.of upd_same), sh_ints _, sh_ints _, _, rfl, ?_⟩⟩
    rw [eqv_ints]
    by_cases c : ns = []
    · rw [decide_eq_true c]
      refine iteF ?_
      refine ⟨_, rfl, _, _, rfl, rfl, .inr ⟨by decide, by decide⟩, _, _, rfl, rfl, (show (0 : Int) < 2147483647 by decide), _, _, rfl, rfl, ⟨by decide, by decide⟩, ?_⟩
      exact fin _ _ (upd_new hp)
    · rw [decide_eq_false c]
      refine iteT ?_
      have hpos : 0 < ns.length := List.length_pos_iff.mpr c
      have x2 := (upd_new (o := .lst []) hp).seq x1
      have hlen : ((ns.map V.int).length : Int) = ns.length := by rw [List.length_map]
      have hm0 : 0 ≤ (k + 1) % (ns.length : Int) := Int.emod_nonneg _ (by omega)
      have hm1 : (k + 1) % (ns.length : Int) < ns.length := Int.emod_lt_of_pos _ (by omega)
      obtain ⟨j, hj⟩ : ∃ j : Nat, (k + 1) % (ns.length : Int) = j := ⟨_, (Int.toNat_of_nonneg hm0).symm⟩
      have hjl : j < ns.length := by omega
      refine ⟨_, rfl, _, rfl, _, rfl, _, rfl, _, _, rfl, .inl x2, _, _, rfl, rfl, (by show (0 : Int) < ((ns.map V.int).length : Int); omega), a, ns.map V.int, _, .int ns[j], rfl, rfl, x2, ?_, ?_⟩
      · rw [hlen, hj]
        exact atI_nat (by rw [List.getElem?_map, List.getElem?_eq_getElem hjl]; rfl)
      refine ⟨_, _, rfl, rfl, (show (0 : Int) < 2147483647 by decide), _, rfl, _, rfl, _, _, rfl, .inl x2, _, _, rfl, rfl, ⟨by omega, by omega⟩, _, _, rfl, rfl, _, _, rfl, rfl, .inl ⟨by omega, by omega⟩, _, _, rfl, rfl, ?_⟩
      refine ⟨_, rfl, _, _, rfl, rfl, .inr ⟨by decide, by decide⟩, _, _, rfl, rfl, (show (0 : Int) < 2147483647 by decide), _, _, rfl, rfl, ⟨by decide, by decide⟩, ?_⟩
      exact fin _ _ (upd_new hp)
theorem small34 {n c : Int} {i : Nat} (h0 : 0 ≤ n) (h1 : n ≤ 2 ^ 60) (hi : i ≤ 60) (hc : c.natAbs ≤ 4) : (n * c ^ i).natAbs < 2 ^ 190 := by
  rw [Int.natAbs_mul, Int.natAbs_pow]
  have a : n.natAbs ≤ 2 ^ 60 := by omega
  have b : c.natAbs ^ i ≤ 4 ^ 60 := Nat.le_trans (Nat.pow_le_pow_left hc _) (Nat.pow_le_pow_right (by decide) hi)
  exact Nat.lt_of_le_of_lt (Nat.mul_le_mul a b) (by decide)
theorem ok_l_too_many (F : Fun K "_law_too_many" "_law_too_many" s_l_too_many f fd) (T : Txt K mg CB CN CT CF CS) : FnOk P w K mg base (L2.CX P w) 1 f fd ["_law_level", "_law_many"] spTooMany := by
  refine F.okX sc_l_too_many (fun vs H Q E h => ?_) (fun cdv A outer s H vs Q E hr h => ?_)
  · obtain ⟨l, n, rfl, _⟩ := h; rfl
  · obtain ⟨l, n, rfl, hl, h0, h1, q⟩ := h
    refine ⟨_, (pss_cons (ps_set (i := 2) sc_l_too_many.nd rfl (by first | exact Or.inl rfl | exact Or.inr rfl) pe_int)
      (pss_cons (ps_for (passes_of rfl) rfl (pi_range1 rfl T.n_range (pa_cons (pv 0) pa_nil)) (pg_name (i := 3) sc_l_too_many.nd rfl (by first | exact Or.inl rfl | exact Or.inr rfl))
        (pss_cons (ps_set (i := 1) sc_l_too_many.nd rfl (by first | exact Or.inl rfl | exact Or.inr rfl) (pe_op op_mulW (pv 1) pe_int))
        (pss_one (ps_set (i := 2) sc_l_too_many.nd rfl (by first | exact Or.inl rfl | exact Or.inr rfl) (pe_op op_mulW (pv 2) pe_int)))))
      (pss_one (ps_ret (pe_cmpR op_gt (pv 1) (pv 2) (nomark _)))))), ?_⟩
    refine ⟨_, rfl, (l : Int), rfl, by omega, by omega, for_range (lo := 0) (n := l) (fun i σ H' => H' = H ∧ ∃ v, σ = [some (.int l), some (.int (n * 3 ^ i)), some (.int (1 * 4 ^ i)), v])
      ⟨rfl, none, by rw [Int.pow_zero, Int.mul_one]; rfl⟩ ?_ ?_⟩
    · rintro i σ H' hi ⟨rfl, v, rfl⟩
      refine ⟨_, rfl, _, _, rfl, rfl, wide_mul (small34 h0 h1 (by omega) (by decide)) (show (3 : Int).natAbs < 2 ^ 2 by decide) (by decide) (by decide) (by decide), ?_⟩
      refine ⟨_, rfl, _, _, rfl, rfl, wide_mul (small34 (n := 1) (by decide) (by decide) (i := i) (by omega) (by decide)) (show (4 : Int).natAbs < 2 ^ 3 by decide) (by decide) (by decide) (by decide), ?_⟩
      refine ⟨rfl, some (.int (0 + (i : Int))), ?_⟩
      show [some (V.int l), some (V.int (n * 3 ^ i * 3)), some (V.int (1 * 4 ^ i * 4)), some (V.int (0 + (i : Int)))] = _
      rw [Int.pow_succ, Int.pow_succ, ← Int.mul_assoc, ← Int.mul_assoc]
    · rintro σ H' ⟨rfl, v, rfl⟩
      refine ⟨_, rfl, _, rfl, _, _, rfl, rfl, ?_⟩
      show Q (.bl (decide ((1 : Int) * 4 ^ l < n * 3 ^ l))) H'
      rw [Int.one_mul]
      exact q
end
/-! ### the law's frame -/
def spLaw (K : PySem.W.Frag) : Sp := fun vs H Q _ => ∃ (a : Addr) (ns : List Int), vs = [.ref a] ∧ SqL K H a (ns.map V.int) ∧ ns.length ≤ 63 ∧ ∀ H', Q (.bl true) H'
theorem merge_st {a : Addr} {k : Int} : mergeK [] (stK a k) = stK a k := by
  show putK (putK ([] : List (Key × V)) (Sum.inr "cells" : Key) (.ref a)) (Sum.inr "at" : Key) (.int k) = _
  rw [putK_new _ valV_nil, List.nil_append, put_neg (fun z => key_ca (Sum.inr.inj z)), putK_new _ valV_nil]; rfl
theorem cut_map {l : List Int} {lo hi : Option Int} : ∃ ms : List Int, cutV (l.map V.int) lo hi = ms.map V.int ∧ ∀ z ∈ ms, z ∈ l := by
  unfold cutV
  rw [← List.map_drop, ← List.map_take]
  exact ⟨_, rfl, fun z h => List.mem_of_mem_drop (List.mem_of_mem_take h)⟩
theorem cut60 {l : List V} {k : Nat} : (cutV l none (some (k : Int))).length ≤ k := by
  unfold cutV
  rw [List.length_take, HT.sIx_nat, HT.sIx_none]
  omega
end Sm

namespace Sm
open PySem PySem.Spec L2
/-! ### the plain laws of spread -/
theorem pow_pos2 (l : Nat) : (0 : Int) < 2 ^ l := by exact_mod_cast Nat.pow_pos (n := l) (by decide : 0 < 2)
theorem div_lo {a n : Int} (hn : 0 < n) : a / n * n ≤ a := by
  have := Int.ediv_mul_le a (by omega : n ≠ 0)
  exact this
theorem div_hi {a n : Int} (hn : 0 < n) : a < (a / n + 1) * n := Int.lt_ediv_add_one_mul_self a hn
/-- what the law asks of a mark -/
theorem share {l n i : Nat} {st : Int} (hi : i < n) :
    (st + (i : Int) * 2 ^ l / n) * n - st * n ≤ i * 2 ^ l ∧ (i : Int) * 2 ^ l < (st + (i : Int) * 2 ^ l / n + 1 - st) * n := by
  have hn : (0 : Int) < n := by omega
  have h1 := div_lo (a := (i : Int) * 2 ^ l) hn
  have h2 := div_hi (a := (i : Int) * 2 ^ l) hn
  constructor
  · rw [Int.add_mul]; omega
  · rw [show st + (i : Int) * 2 ^ l / n + 1 - st = (i : Int) * 2 ^ l / n + 1 by omega]; exact h2
theorem share_in {l n i : Nat} {st : Int} (hi : i < n) : st ≤ st + (i : Int) * 2 ^ l / n ∧ st + (i : Int) * 2 ^ l / n < st + 2 ^ l := by
  have hn : (0 : Int) < n := by omega
  have h0 : 0 ≤ (i : Int) * 2 ^ l / n := Int.ediv_nonneg (Int.mul_nonneg (by omega) (Int.le_of_lt (pow_pos2 l))) (by omega)
  have h1 : (i : Int) * 2 ^ l / n < 2 ^ l := by
    refine Int.ediv_lt_of_lt_mul hn ?_
    rw [Int.mul_comm]
    exact Int.mul_lt_mul_of_pos_left (by omega) (pow_pos2 l)
  omega
theorem share_up {l n i : Nat} (hi : i < n) (hn2 : n ≤ 2 ^ l) : (i : Int) * 2 ^ l / n < ((i + 1 : Nat) : Int) * 2 ^ l / n := by
  have hn : (0 : Int) < n := by omega
  have h2 : (n : Int) ≤ 2 ^ l := by exact_mod_cast hn2
  have h3 : (i : Int) * 2 ^ l + 1 * n ≤ ((i + 1 : Nat) : Int) * 2 ^ l := by
    rw [show ((i + 1 : Nat) : Int) = (i : Int) + 1 by omega, Int.add_mul]
    omega
  have h4 := Int.ediv_le_ediv hn h3
  rw [Int.add_mul_ediv_right _ _ (by omega)] at h4
  omega
theorem marks_at {l n i : Nat} {st : Int} (hi : i < n) : (marksOf l st n)[i]? = some (st + (i : Int) * 2 ^ l / n) := by
  unfold marksOf
  rw [List.getElem?_map, List.getElem?_range hi]; rfl
theorem marks_len {l n : Nat} {st : Int} : (marksOf l st n).length = n := by
  unfold marksOf
  rw [List.length_map, List.length_range]
end Sm

namespace Sm
open PySem PySem.Spec L2 PyProof.Rows
/-! ### loops and comprehensions over lists of ints, by what they keep -/
theorem getI {line : List Int} {i : Nat} {x : V} (h : (line.map V.int)[i]? = some x) : ∃ z, x = V.int z ∧ line[i]? = some z ∧ z ∈ line ∧ i < line.length := by
  rw [List.getElem?_map] at h
  cases e : line[i]? with
  | none => rw [e] at h; cases h
  | some z =>
    rw [e] at h
    exact ⟨z, (Option.some.inj h).symm, rfl, List.mem_of_getElem? e, (List.getElem?_eq_some_iff.mp e).1⟩
theorem take_more {α : Type} : ∀ {l : List α} {i : Nat} {x : α}, l[i]? = some x → l.take (i + 1) = l.take i ++ [x]
  | [], i, x, h => by simp at h
  | a :: l, 0, x, h => by
    have e : a = x := Option.some.inj h
    subst e
    rfl
  | a :: l, i + 1, x, h => by
    have ih := take_more (l := l) (i := i) (x := x) h
    show a :: l.take (i + 1) = a :: l.take i ++ [x]
    rw [ih]
    rfl
theorem for_range0 {n : Nat} {g : TG} {tb : TS} {D : Ends} {σ : L2.St} {H : Hp} (Pv : Nat → L2.St → Hp → Prop) (h0 : Pv 0 σ H)
    (hs : ∀ i σ H, i < n → Pv i σ H → g (.int (i : Int)) σ H fun σ2 H2 => tb { D with nx := Pv (i + 1), ct := Pv (i + 1), bk := D.nx } σ2 H2) (hd : ∀ σ H, Pv n σ H → D.nx σ H) :
    ∃ W : Nat → Nat → L2.St → Hp → Prop, (∃ m, W 0 m σ H) ∧ ∀ i m σ H, W i m σ H →
      ((Itr 0 n).stop i H ∧ D.nx σ H) ∨ ((Itr 0 n).go i H ∧ ∃ N : L2.St → Hp → Prop, (∀ σ' H', N σ' H' → ∃ m', m' < m ∧ W (i + 1) m' σ' H') ∧ ∀ x H', (Itr 0 n).yld i H x H' → g x σ H' fun σ2 H2 => tb { D with nx := N, ct := N, bk := D.nx } σ2 H2) :=
  for_range (lo := 0) (n := n) Pv h0 (fun i σ H hi p => by rw [Int.zero_add]; exact hs i σ H hi p) hd
/-- [e for x in line if t]: f says which are kept, v what is made of them -/
theorem lc_fm {K : PySem.W.Frag} {a : Addr} {line : List Int} {j : Nat} {tt : TT} {te : TE} {vs : List Nat} {σ : L2.St} {H1 : Hp} {D : Addr} {Qd : Hp → Prop} (f : Int → Bool) (v : Int → V) (hD : H1 D = none) (ha : SqL K H1 a (line.map V.int)) (hlen : line.length ≤ 1000)
    (hw : ∀ x, wipe ((wipe σ vs).set j (some x)) vs = wipe σ vs)
    (ht : ∀ x ∈ line, ∀ H', Same H1 H' → ∀ Q' : Bool → Hp → Prop, (∀ H'', Same H' H'' → Q' (f x) H'') → tt ((wipe σ vs).set j (some (.int x))) H' Q')
    (he : ∀ x ∈ line, f x = true → ∀ H', Same H1 H' → ∀ Q' : VK, (∀ H'', Same H' H'' → Q' (v x) H'') → te ((wipe σ vs).set j (some (.int x))) H' Q')
    (hd : ∀ H', Same H1 H' → H' D = some (.lst ((line.filter f).map v)) → Qd H') :
    ∃ W : Nat → Nat → Hp → Prop, (∃ m, W 0 m (upd H1 D (.lst []))) ∧ ∀ i m H, W i m H →
      ((Itl K a).stop i H ∧ Qd H) ∨ ((Itl K a).go i H ∧ ∃ Nx : Hp → Prop, (∀ H', Nx H' → ∃ m', m' < m ∧ W (i + 1) m' H') ∧ ∀ x H', (Itl K a).yld i H x H' → gName j x (wipe σ vs) H' fun σ2 H2 => wipe σ2 vs = wipe σ vs ∧ tt σ2 H2 fun b H3 =>
        if b = true then te σ2 H3 fun y H4 => ∃ acc, H4 D = some (.lst acc) ∧ acc.length < sizeLine ∧ Nx (upd H4 D (.lst (acc ++ [y]))) else Nx H3) := by
  refine lc_list (K := K) (a := a) (xs := line.map V.int) (fun i H' => Same H1 H' ∧ H' D = some (.lst (((line.take i).filter f).map v))) ⟨upd_new hD, upd_same⟩ (fun i H' _ ⟨s, _⟩ => s.seq ha) ?_ ?_
  · rintro i x H' hi ⟨s1, a1⟩
    obtain ⟨z, rfl, hz, hm, hil⟩ := getI hi
    refine ⟨hw _, ht z hm H' s1 _ fun H2 s2 => ?_⟩
    have s12 := s1.trans s2
    cases hf : f z with
    | true =>
      refine iteT (he z hm hf H2 s12 _ fun H3 s3 => ⟨_, s3 _ _ (s2 _ _ a1), ?_, fun b o h => ?_, ?_⟩)
      · rw [List.length_map]
        refine Nat.lt_of_le_of_lt (Nat.le_trans (List.length_filter_le _ _) (by rw [List.length_take]; exact Nat.le_trans (Nat.min_le_right _ _) hlen)) (by rw [sizeLine_eq]; decide)
      · rw [upd_ne (ne_of_none h hD)]; exact s3 b o (s12 b o h)
      · rw [upd_same, take_more hz, List.filter_append, List.map_append, List.filter_cons, if_pos hf]; rfl
    | false =>
      refine iteF ⟨s12, ?_⟩
      rw [s2 _ _ a1, take_more hz, List.filter_append, List.filter_cons, if_neg (by rw [hf]; decide)]
      simp
  · rintro H' ⟨s1, a1⟩
    rw [List.length_map, List.take_length] at a1
    exact hd H' s1 a1
end Sm

namespace Sm
open PySem PySem.Spec L2 PyProof.Rows
/-! ### the class as the top has made it; a row as it stands -/
structure ClsT (K : PySem.W.Frag) (CR : Addr) : Prop where
  cl : Cls K CR
  na_wide : NoAttr K CR "wide"
  na_line : NoAttr K CR "line"
  na_marks : NoAttr K CR "marks"
  na_told : NoAttr K CR "told"
  na_coins : NoAttr K CR "coins"
def flds (w : Nat) (l d : Addr) (t c : Int) : List (Str × V) := [("wide", .int w), ("line", .ref l), ("marks", .ref d), ("told", .int t), ("coins", .int c)]
theorem lk_eq {f : Str} {v : V} {r : List (Str × V)} : List.lookup f ((f, v) :: r) = some v := by simp [List.lookup]
theorem lk_ne {f k : Str} {v : V} {r : List (Str × V)} (h : (f == k) = false) : List.lookup f ((k, v) :: r) = List.lookup f r := by simp [List.lookup, h]
section
variable {w : Nat} {l d : Addr} {t c : Int}
theorem fl_wide : (flds w l d t c).lookup ("wide" : Str) = some (.int w) := lk_eq
theorem fl_line : (flds w l d t c).lookup ("line" : Str) = some (.ref l) := (lk_ne (by decide +kernel)).trans lk_eq
theorem fl_marks : (flds w l d t c).lookup ("marks" : Str) = some (.ref d) := (lk_ne (by decide +kernel)).trans ((lk_ne (by decide +kernel)).trans lk_eq)
theorem fl_told : (flds w l d t c).lookup ("told" : Str) = some (.int t) := (lk_ne (by decide +kernel)).trans ((lk_ne (by decide +kernel)).trans ((lk_ne (by decide +kernel)).trans lk_eq))
theorem fl_coins : (flds w l d t c).lookup ("coins" : Str) = some (.int c) := (lk_ne (by decide +kernel)).trans ((lk_ne (by decide +kernel)).trans ((lk_ne (by decide +kernel)).trans ((lk_ne (by decide +kernel)).trans lk_eq)))
theorem fl_no {m : Str} (h1 : (m == ("wide" : Str)) = false) (h2 : (m == ("line" : Str)) = false) (h3 : (m == ("marks" : Str)) = false) (h4 : (m == ("told" : Str)) = false) (h5 : (m == ("coins" : Str)) = false) : (flds w l d t c).lookup m = none :=
  (lk_ne h1).trans ((lk_ne h2).trans ((lk_ne h3).trans ((lk_ne h4).trans ((lk_ne h5).trans rfl))))
theorem pf_eq {f : Str} {v x : V} {r : List (Str × V)} : putF f v ((f, x) :: r) = (f, v) :: r := if_pos rfl
theorem pf_ne {f k : Str} {v x : V} {r : List (Str × V)} (h : ¬ k = f) : putF f v ((k, x) :: r) = (k, x) :: putF f v r := if_neg h
theorem pf_told {z : Int} : putF ("told" : Str) (.int z) (flds w l d t c) = flds w l d z c :=
  (pf_ne (by decide +kernel)).trans (congrArg _ ((pf_ne (by decide +kernel)).trans (congrArg _ ((pf_ne (by decide +kernel)).trans (congrArg _ pf_eq)))))
theorem pf_coins {z : Int} : putF ("coins" : Str) (.int z) (flds w l d t c) = flds w l d t z :=
  (pf_ne (by decide +kernel)).trans (congrArg _ ((pf_ne (by decide +kernel)).trans (congrArg _ ((pf_ne (by decide +kernel)).trans (congrArg _ ((pf_ne (by decide +kernel)).trans (congrArg _ pf_eq)))))))
end
/-- a row: its width, the things in their order, their marks, how many were put, the purse -/
structure RS where
  w : Nat
  line : List Int
  m : Int → Int
  told : Int
  coins : Int
/-- the dict of the marks -/
structure Marks (kvs : List (Key × V)) (line : List Int) (m : Int → Int) : Prop where
  nd : (kvs.map (·.1)).Nodup
  len : kvs.length = line.length
  val : ∀ x : Int, valV kvs (.inl x) = if x ∈ line then some (.int (m x)) else none
structure RowAt (CR : Addr) (S : RS) (p l d : Addr) (H : Hp) : Prop where
  ob : ∃ dx, H p = some (.ins CR dx (flds S.w l d S.told S.coins))
  ln : H l = some (.lst (S.line.map V.int))
  dc : ∃ kvs, H d = some (.dK kvs) ∧ Marks kvs S.line S.m
structure Ok (S : RS) : Prop where
  w4 : 4 ≤ S.w
  w60 : S.w ≤ 60
  nd : S.line.Nodup
  len : S.line.length ≤ 200
  num : ∀ x ∈ S.line, 0 ≤ x ∧ x < S.told
  told : 0 ≤ S.told
  mks : ∀ x ∈ S.line, 0 ≤ S.m x ∧ S.m x < 2 ^ S.w
/-- all but the row's three objects is as it was -/
def RFr (p l d : Addr) (H H' : Hp) : Prop := ∀ b o, H b = some o → b ≠ p → b ≠ l → b ≠ d → H' b = some o
def inLine (x : V) (line : List Int) : Bool := match x with
  | .int i => decide (i ∈ line)
  | _ => false
section
variable {CR : Addr} {S : RS} {p l d : Addr} {H H' : Hp}
theorem RowAt.same (R : RowAt CR S p l d H) (s : Same H H') : RowAt CR S p l d H' := by
  obtain ⟨⟨dx, h1⟩, hl, kvs, hd, hm⟩ := R
  exact ⟨⟨dx, s _ _ h1⟩, s _ _ hl, kvs, s _ _ hd, hm⟩
theorem RowAt.pl (R : RowAt CR S p l d H) : p ≠ l := by
  obtain ⟨⟨dx, h1⟩, hl, kvs, hd, hm⟩ := R
  exact ne_of h1 hl (by intro z; cases z)
theorem RowAt.pd (R : RowAt CR S p l d H) : p ≠ d := by
  obtain ⟨⟨dx, h1⟩, hl, kvs, hd, hm⟩ := R
  exact ne_of h1 hd (by intro z; cases z)
theorem RowAt.ld (R : RowAt CR S p l d H) : l ≠ d := by
  obtain ⟨⟨dx, h1⟩, hl, kvs, hd, hm⟩ := R
  exact ne_of hl hd (by intro z; cases z)
theorem RFr.refl : RFr p l d H H := fun _ _ h _ _ _ => h
theorem RFr.same {H2 : Hp} (f : RFr p l d H H') (s : Same H' H2) : RFr p l d H H2 := fun b o h h1 h2 h3 => s b o (f b o h h1 h2 h3)
theorem RFr.of (s : Same H H') : RFr p l d H H' := fun b o h _ _ _ => s b o h
theorem RFr.trans {H2 : Hp} (f : RFr p l d H H') (s : RFr p l d H' H2) : RFr p l d H H2 := fun b o h h1 h2 h3 => s b o (f b o h h1 h2 h3) h1 h2 h3
theorem Marks.get {kvs : List (Key × V)} {line : List Int} {m : Int → Int} {x : Int} (M : Marks kvs line m) (h : x ∈ line) : valV kvs (.inl x) = some (.int (m x)) := by
  rw [M.val, if_pos h]
theorem Marks.no {kvs : List (Key × V)} {line : List Int} {m : Int → Int} {x : Int} (M : Marks kvs line m) (h : ¬ x ∈ line) : valV kvs (.inl x) = none := by
  rw [M.val, if_neg h]
end
/-! ### the promises of the small methods -/
def spInit (K : PySem.W.Frag) (CR CB : Addr) : Sp := fun vs H Q E => ∃ (p dx : Addr) (x : V), vs = [.ref p, x] ∧ H p = some (.ins CR dx []) ∧ KdV K H x ∧
  (∀ w : Nat, x = .int w → 4 ≤ w → w ≤ 60 → ∀ (l d : Addr) (H' : Hp), H l = none → H d = none → RowAt CR ⟨w, [], fun _ => 0, 0, 0⟩ p l d H' → (∀ b o, H b = some o → b ≠ p → H' b = some o) → Q .non H') ∧
  (amongV x 4 60 = false → E (.ref CB) none H)
def spThing (K : PySem.W.Frag) (CR CN : Addr) : Sp := fun vs H Q E => ∃ (S : RS) (p l d : Addr) (x : V), vs = [.ref p, x] ∧ RowAt CR S p l d H ∧ Ok S ∧ KdV K H x ∧ (inLine x S.line = true → Q .non H) ∧ (inLine x S.line = false → E (.ref CN) none H)
def spThings (CR : Addr) : Sp := fun vs H Q _ => ∃ (S : RS) (p l d : Addr), vs = [.ref p] ∧ RowAt CR S p l d H ∧ ∀ q H', H q = none → Same H H' → H' q = some (.lst (S.line.map V.int)) → Q (.ref q) H'
def spMark (K : PySem.W.Frag) (CR CN : Addr) : Sp := fun vs H Q E => ∃ (S : RS) (p l d : Addr) (x : V), vs = [.ref p, x] ∧ RowAt CR S p l d H ∧ Ok S ∧ KdV K H x ∧ (∀ i, x = .int i → i ∈ S.line → Q (.int (S.m i)) H) ∧ (inLine x S.line = false → E (.ref CN) none H)
def spAhead (K : PySem.W.Frag) (CR CN : Addr) : Sp := fun vs H Q E => ∃ (S : RS) (p l d : Addr) (x y : V), vs = [.ref p, x, y] ∧ RowAt CR S p l d H ∧ Ok S ∧ KdV K H x ∧ KdV K H y ∧
  (∀ i j, x = .int i → y = .int j → i ∈ S.line → j ∈ S.line → Q (.bl (decide (S.m i < S.m j))) H) ∧ ((inLine x S.line && inLine y S.line) = false → E (.ref CN) none H)
def spPurse (CR : Addr) : Sp := fun vs H Q _ => ∃ (S : RS) (p l d : Addr), vs = [.ref p] ∧ RowAt CR S p l d H ∧ Q (.int S.coins) H
def lowAt (S : RS) (a : Nat) : Int := if 0 < a then S.m (S.line.getD (a - 1) 0) else -1
def highAt (S : RS) (a : Nat) : Int := if a < S.line.length then S.m (S.line.getD a 0) else 2 ^ S.w
def spRoom (CR : Addr) : Sp := fun vs H Q _ => ∃ (S : RS) (p l d : Addr) (a : Nat), vs = [.ref p, .int a] ∧ RowAt CR S p l d H ∧ Ok S ∧ a ≤ S.line.length ∧ ∀ t H', H t = none → Same H H' → H' t = some (.tup [.int (lowAt S a), .int (highAt S a)]) → Q (.ref t) H'
section
variable {P : Program} {w : World} {K : PySem.W.Frag} {mg : Str → Option Value} {base : Heap} {CB CN CT CF CS CR : Addr} {f : Addr} {fd : FuncData}
theorem ok_init (F : Fun K "__init__" "Row.__init__" s_Row_init f fd) (T : Txt K mg CB CN CT CF CS) (TC : ClsT K CR) (d_need_among : Dfn P w K mg base 2 "need_among" [] (spNeed K CB)) : FnOk P w K mg base (L2.CX P w) 3 f fd ["self", "wide"] (spInit K CR CB) := by
  refine F.okX sc_Row_init (fun vs H Q E h => ?_) (fun cdv A outer s H vs Q E hr h => ?_)
  · obtain ⟨p, dx, x, rfl, _⟩ := h; rfl
  · obtain ⟨p, dx, x, rfl, hp, hx, q, e⟩ := h
    refine ⟨_, (pss_cons (ps_expr (Sm.pe_def d_need_among (hr.mono (by decide)) (passes_call (takes_of rfl rfl rfl rfl) (fun _ _ _ _ z => z)) (pa_cons (pv 1) (pa_cons (Sm.pe_const T.g_LEAST_WIDE) (pa_cons (Sm.pe_const T.g_MOST_WIDE) pa_nil)))))
      (pss_cons (ps_fld (pv 0) (pv 1) rfl)
      (pss_cons (ps_fld (pv 0) (pe_lst pa_nil) rfl)
      (pss_cons (ps_fld (pv 0) pe_dnewK rfl)
      (pss_cons (ps_fld (pv 0) pe_int rfl)
      (pss_one (ps_fld (pv 0) pe_int rfl))))))), ?_⟩
    refine ⟨_, rfl, x, 4, 60, rfl, hx, fun c => ?_, e⟩
    obtain ⟨n, rfl, hn⟩ : ∃ n : Nat, x = .int n ∧ 4 ≤ n ∧ n ≤ 60 := by
      cases x with
      | int i =>
        obtain ⟨h1, h2⟩ := among_int.mp c
        exact ⟨i.toNat, congrArg V.int (by omega), by omega, by omega⟩
      | _ => exact absurd c (by simp [amongV])
    refine ⟨_, rfl, _, rfl, p, CR, dx, _, rfl, hp, TC.cl, TC.na_wide, (by show 0 < 1000; decide), (by show 0 ≤ sizeLine; decide), fun l hl => ?_⟩
    have npl : p ≠ l := ne_of_none (o := .ins CR dx (putF ("wide" : Str) (.int n) [])) upd_same hl
    refine ⟨_, rfl, p, CR, dx, _, rfl, (by rw [upd_ne npl]; exact upd_same), TC.cl, TC.na_line, (by show 1 < 1000; decide), fun d hd => ?_⟩
    have npd : p ≠ d := ne_of_none (o := .ins CR dx (putF ("line" : Str) (.ref l) (putF ("wide" : Str) (.int n) []))) upd_same hd
    have nld : l ≠ d := ne_of_none (o := .lst []) (by rw [upd_ne npl.symm]; exact upd_same) hd
    refine ⟨_, rfl, p, CR, dx, _, rfl, (by rw [upd_ne npd]; exact upd_same), TC.cl, TC.na_marks, (by show 2 < 1000; decide), ?_⟩
    refine ⟨_, rfl, p, CR, dx, _, rfl, upd_same, TC.cl, TC.na_told, (by show 3 < 1000; decide), ?_⟩
    refine ⟨_, rfl, p, CR, dx, _, rfl, upd_same, TC.cl, TC.na_coins, (by show 4 < 1000; decide), ?_⟩
    have hl0 : H l = none := by
      have z := hl; rw [upd_ne npl.symm] at z; exact z
    have hd0 : H d = none := by
      have z := hd; rw [upd_ne npd.symm, upd_ne nld.symm, upd_ne npd.symm] at z; exact z
    refine q n rfl hn.1 hn.2 l d _ hl0 hd0 ⟨⟨dx, ?_⟩, ?_, [], ?_, List.nodup_nil, rfl, fun x => rfl⟩ fun b o hb hbp => ?_
    · rw [upd_same]
      have e1 : ∀ v : V, putF ("line" : Str) v [(("wide" : Str), V.int n)] = [(("wide" : Str), V.int n), ("line", v)] := fun v => (pf_ne (by decide +kernel)).trans rfl
      have e2 : ∀ v u : V, putF ("marks" : Str) v [(("wide" : Str), V.int n), ("line", u)] = [(("wide" : Str), V.int n), ("line", u), ("marks", v)] := fun v u => (pf_ne (by decide +kernel)).trans (congrArg _ ((pf_ne (by decide +kernel)).trans rfl))
      have e3 : ∀ v u t : V, putF ("told" : Str) v [(("wide" : Str), V.int n), ("line", u), ("marks", t)] = [(("wide" : Str), V.int n), ("line", u), ("marks", t), ("told", v)] := fun v u t =>
        (pf_ne (by decide +kernel)).trans (congrArg _ ((pf_ne (by decide +kernel)).trans (congrArg _ ((pf_ne (by decide +kernel)).trans rfl))))
      have e4 : ∀ v u t r : V, putF ("coins" : Str) v [(("wide" : Str), V.int n), ("line", u), ("marks", t), ("told", r)] = [(("wide" : Str), V.int n), ("line", u), ("marks", t), ("told", r), ("coins", v)] := fun v u t r =>
        (pf_ne (by decide +kernel)).trans (congrArg _ ((pf_ne (by decide +kernel)).trans (congrArg _ ((pf_ne (by decide +kernel)).trans (congrArg _ ((pf_ne (by decide +kernel)).trans rfl))))))
      rw [show putF ("wide" : Str) (V.int n) [] = [(("wide" : Str), V.int n)] from rfl, e1, e2, e3, e4]; rfl
    · rw [upd_ne npl.symm, upd_ne npl.symm, upd_ne npl.symm, upd_ne nld, upd_ne npl.symm, upd_same]; rfl
    · rw [upd_ne npd.symm, upd_ne npd.symm, upd_ne npd.symm, upd_same]
    · rw [upd_ne hbp, upd_ne hbp, upd_ne hbp, upd_ne (ne_of_none hb hd0), upd_ne hbp, upd_ne (ne_of_none hb hl0), upd_ne hbp]; exact hb
theorem ok_thing (F : Fun K "need_thing" "Row.need_thing" s_Row_need_thing f fd) (T : Txt K mg CB CN CT CF CS) (TC : ClsT K CR) (d_is_among : Dfn P w K mg base 1 "is_among" [] (spAmong K)) : FnOk P w K mg base (L2.CX P w) 2 f fd ["self", "one"] (spThing K CR CN) := by
  refine F.okX sc_Row_need_thing (fun vs H Q E h => ?_) (fun cdv A outer s H vs Q E hr h => ?_)
  · obtain ⟨S, p, l, d, x, rfl, _⟩ := h; rfl
  · obtain ⟨S, p, l, d, x, rfl, R, hS, hx, q, e⟩ := h
    obtain ⟨⟨dx, h1⟩, hl, kvs, hd, hm⟩ := id R
    refine ⟨_, (pss_one (ps_if (PW.pt (pw_or (pt_not (pt_val (Sm.pe_def d_is_among (hr.mono (by decide)) (passes_call (takes_of rfl rfl rfl rfl) (fun _ _ _ _ z => z)) (pa_cons (pv 1) (pa_cons pe_int (pa_cons (pe_op op_sub (pe_fld (pv 0) rfl) pe_int) pa_nil)))))) (pw_or1 (pt_cmp (pc_dnotin (hu_of hr) (pv 1) (pe_fld (pv 0) rfl))))))
        (pss_one (ps_raise rfl (takes_of rfl rfl rfl rfl) (Sm.pmk T.x_NoThing)))
        pss_nil)), ?_⟩
    refine ⟨_, rfl, _, rfl, p, CR, dx, _, _, rfl, h1, TC.cl, TC.na_told, fl_told, _, _, rfl, rfl, x, 0, _, rfl, hx, _, rfl, ?_⟩
    cases c : amongV x 0 (S.told - 1) with
    | false =>
      refine iteT (iteT (e ?_))
      cases x with
      | int i =>
        refine decide_eq_false fun hi => ?_
        have := hS.num i hi
        have c' : amongV (.int i) 0 (S.told - 1) = true := among_int.mpr (by omega)
        rw [c] at c'; cases c'
      | _ => rfl
    | true =>
      refine iteF ?_
      cases x with
      | int i =>
        refine ⟨_, rfl, _, rfl, p, CR, dx, _, _, rfl, h1, TC.cl, TC.na_marks, fl_marks, d, _, rfl, DGet.k (k := Sum.inl i) hd, _, rfl, ?_⟩
        by_cases hi : i ∈ S.line
        · rw [hm.get hi]
          exact iteF (q (decide_eq_true hi))
        · rw [hm.no hi]
          exact iteT (e (decide_eq_false hi))
      | _ => exact absurd c (by simp [amongV])
theorem ok_things (F : Fun K "things" "Row.things" s_Row_things f fd) (T : Txt K mg CB CN CT CF CS) (TC : ClsT K CR) : FnOk P w K mg base (L2.CX P w) 1 f fd ["self"] (spThings CR) := by
  refine F.okX sc_Row_things (fun vs H Q E h => ?_) (fun cdv A outer s H vs Q E hr h => ?_)
  · obtain ⟨S, p, l, d, rfl, _⟩ := h; rfl
  · obtain ⟨S, p, l, d, rfl, R, q⟩ := h
    obtain ⟨⟨dx, h1⟩, hl, kvs, hd, hm⟩ := id R
    refine ⟨_, (pss_one (ps_ret (pe_callTy call_list_of (by rfl) T.n_list (by decide +kernel) (pa_cons (pe_fld (pv 0) rfl) pa_nil)))), ?_⟩
    exact ⟨_, rfl, p, CR, dx, _, _, rfl, h1, TC.cl, TC.na_line, fl_line, l, _, rfl, .inl (SqL.of hl), fun z hz => q z _ hz (upd_new hz) upd_same⟩
theorem ok_mark (F : Fun K "mark" "Row.mark" s_Row_mark f fd) (T : Txt K mg CB CN CT CF CS) (TC : ClsT K CR) (m_need_thing : Mth P w K mg base 2 CR "need_thing" [] (spThing K CR CN)) : FnOk P w K mg base (L2.CX P w) 3 f fd ["self", "one"] (spMark K CR CN) := by
  refine F.okX sc_Row_mark (fun vs H Q E h => ?_) (fun cdv A outer s H vs Q E hr h => ?_)
  · obtain ⟨S, p, l, d, x, rfl, _⟩ := h; rfl
  · obtain ⟨S, p, l, d, x, rfl, R, hS, hx, q, e⟩ := h
    obtain ⟨⟨dx, h1⟩, hl, kvs, hd, hm⟩ := id R
    refine ⟨_, (pss_cons (ps_expr (Sm.pe_mth m_need_thing (hr.mono (by decide)) (passes_call (takes_of rfl rfl rfl rfl) (fun _ _ _ _ z => z)) (pv 0) (pa_cons (pv 1) pa_nil)))
      (pss_one (ps_ret (pe_dget (hu_of hr) (pe_fld (pv 0) rfl) (pv 1) (fun _ _ => rfl))))), ?_⟩
    refine ⟨_, rfl, p, dx, _, rfl, h1, fl_no (by decide +kernel) (by decide +kernel) (by decide +kernel) (by decide +kernel) (by decide +kernel), _, rfl, S, p, l, d, x, rfl, R, hS, hx, fun c => ?_, e⟩
    cases x with
    | int i =>
      have hi : i ∈ S.line := of_decide_eq_true c
      exact ⟨_, rfl, p, CR, dx, _, _, rfl, h1, TC.cl, TC.na_marks, fl_marks, _, rfl, d, _, rfl, dget_of (k := .inl i) hd (hm.get hi), q i rfl hi⟩
    | _ => exact absurd c (by simp [inLine])
theorem ok_purse (F : Fun K "purse" "Row.purse" s_Row_purse f fd) (T : Txt K mg CB CN CT CF CS) (TC : ClsT K CR) : FnOk P w K mg base (L2.CX P w) 1 f fd ["self"] (spPurse CR) := by
  refine F.okX sc_Row_purse (fun vs H Q E h => ?_) (fun cdv A outer s H vs Q E hr h => ?_)
  · obtain ⟨S, p, l, d, rfl, _⟩ := h; rfl
  · obtain ⟨S, p, l, d, rfl, R, q⟩ := h
    obtain ⟨⟨dx, h1⟩, hl, kvs, hd, hm⟩ := id R
    refine ⟨_, (pss_one (ps_ret (pe_fld (pv 0) rfl))), ?_⟩
    exact ⟨_, rfl, p, CR, dx, _, _, rfl, h1, TC.cl, TC.na_coins, fl_coins, q⟩
theorem getD_mem {line : List Int} {a : Nat} (h : a < line.length) : line.getD a 0 ∈ line := by
  rw [List.getD_eq_getElem?_getD, List.getElem?_eq_getElem h]
  exact List.getElem_mem h
theorem getD_at {line : List Int} {a : Nat} (h : a < line.length) : (line.map V.int)[a]? = some (.int (line.getD a 0)) := by
  rw [List.getElem?_map, List.getD_eq_getElem?_getD, List.getElem?_eq_getElem h]; rfl
theorem ok_room (F : Fun K "room_at" "Row.room_at" s_Row_room_at f fd) (T : Txt K mg CB CN CT CF CS) (TC : ClsT K CR) : FnOk P w K mg base (L2.CX P w) 1 f fd ["self", "at"] (spRoom CR) := by
  refine F.okX sc_Row_room_at (fun vs H Q E h => ?_) (fun cdv A outer s H vs Q E hr h => ?_)
  · obtain ⟨S, p, l, d, a, rfl, _⟩ := h; rfl
  · obtain ⟨S, p, l, d, a, rfl, R, hS, ha, q⟩ := h
    obtain ⟨⟨dx, h1⟩, hl, kvs, hd, hm⟩ := id R
    refine ⟨_, (pss_cons (ps_set (i := 2) sc_Row_room_at.nd rfl (by first | exact Or.inl rfl | exact Or.inr rfl) (pe_un un_neg pe_int))
      (pss_cons (ps_set (i := 3) sc_Row_room_at.nd rfl (by first | exact Or.inl rfl | exact Or.inr rfl) (pe_op Sm.op_shl1 pe_int (pe_fld (pv 0) rfl)))
      (pss_cons (ps_if (pt_cmpR op_gt (pv 1) pe_int (nomark _))
        (pss_one (ps_set (i := 2) sc_Row_room_at.nd rfl (by first | exact Or.inl rfl | exact Or.inr rfl) (pe_dget (hu_of hr) (pe_fld (pv 0) rfl) (pe_ix ix_list (pe_fld (pv 0) rfl) (pe_op op_sub (pv 1) pe_int) (fun _ _ => rfl)) (fun _ _ => rfl))))
        pss_nil)
      (pss_cons (ps_if (pt_cmpR op_lt (pv 1) (pe_callB call_len_seq (by rfl) T.n_len PySem.boot_len (pa_cons (pe_fld (pv 0) rfl) pa_nil)) (nomark _))
        (pss_one (ps_set (i := 3) sc_Row_room_at.nd rfl (by first | exact Or.inl rfl | exact Or.inr rfl) (pe_dget (hu_of hr) (pe_fld (pv 0) rfl) (pe_ix ix_list (pe_fld (pv 0) rfl) (pv 1) (fun _ _ => rfl)) (fun _ _ => rfl))))
        pss_nil)
      (pss_one (ps_ret (pe_tup (pa_cons (pv 2) (pa_cons (pv 3) pa_nil))))))))), ?_⟩
    refine ⟨_, rfl, _, rfl, p, CR, dx, _, _, rfl, h1, TC.cl, TC.na_wide, fl_wide, S.w, rfl, rfl, by have := hS.w60; omega, _, rfl, _, _, rfl, rfl, _, rfl, ?_⟩
    have fin : ∀ lo hi : Int, lo = lowAt S a → hi = highAt S a → ∀ t, H t = none → Q (.ref t) (upd H t (.tup [.int lo, .int hi])) := fun lo hi e1 e2 t ht => by
      subst e1 e2
      exact q t _ ht (upd_new ht) upd_same
    refine ite2 (fun c0 => ?_) (fun c0 => ?_)
    · have h0 : 0 < a := by have := of_decide_eq_true c0; omega
      have hi1 : a - 1 < S.line.length := by omega
      refine ⟨_, rfl, p, CR, dx, _, _, rfl, h1, TC.cl, TC.na_marks, fl_marks, _, rfl, p, CR, dx, _, _, rfl, h1, TC.cl, TC.na_line, fl_line, _, rfl, _, _, rfl, rfl, l, _, _, _, rfl, rfl, SqL.of hl, at_of (j := a - 1) (by omega) (getD_at hi1), d, _, rfl, dget_of (k := .inl _) hd (hm.get (getD_mem hi1)), ?_⟩
      have el : S.m (S.line.getD (a - 1) 0) = lowAt S a := by unfold lowAt; rw [if_pos h0]
      refine ⟨_, rfl, _, rfl, p, CR, dx, _, _, rfl, h1, TC.cl, TC.na_line, fl_line, l, _, rfl, .inl (SqL.of hl), _, _, rfl, rfl, _, rfl, ?_⟩
      rw [List.length_map]
      refine ite2 (fun c1 => ?_) (fun c1 => ?_)
      · have h2 : a < S.line.length := by have := of_decide_eq_true c1; omega
        refine ⟨_, rfl, p, CR, dx, _, _, rfl, h1, TC.cl, TC.na_marks, fl_marks, _, rfl, p, CR, dx, _, _, rfl, h1, TC.cl, TC.na_line, fl_line, _, rfl, l, _, _, _, rfl, rfl, SqL.of hl, atI_nat (getD_at h2), d, _, rfl, dget_of (k := .inl _) hd (hm.get (getD_mem h2)), ?_⟩
        exact ⟨_, rfl, _, rfl, by show 2 ≤ sizeLine; decide, fun t ht => fin _ _ el (by unfold highAt; rw [if_pos h2]) t ht⟩
      · have h2 : ¬ a < S.line.length := fun z => c1 (decide_eq_true (by omega))
        exact ⟨_, rfl, _, rfl, by show 2 ≤ sizeLine; decide, fun t ht => fin _ _ el (by unfold highAt; rw [if_neg h2]) t ht⟩
    · have h0 : ¬ 0 < a := fun z => c0 (decide_eq_true (by omega))
      have el : (-1 : Int) = lowAt S a := by unfold lowAt; rw [if_neg h0]
      refine ⟨_, rfl, _, rfl, p, CR, dx, _, _, rfl, h1, TC.cl, TC.na_line, fl_line, l, _, rfl, .inl (SqL.of hl), _, _, rfl, rfl, _, rfl, ?_⟩
      rw [List.length_map]
      refine ite2 (fun c1 => ?_) (fun c1 => ?_)
      · have h2 : a < S.line.length := by have := of_decide_eq_true c1; omega
        refine ⟨_, rfl, p, CR, dx, _, _, rfl, h1, TC.cl, TC.na_marks, fl_marks, _, rfl, p, CR, dx, _, _, rfl, h1, TC.cl, TC.na_line, fl_line, _, rfl, l, _, _, _, rfl, rfl, SqL.of hl, atI_nat (getD_at h2), d, _, rfl, dget_of (k := .inl _) hd (hm.get (getD_mem h2)), ?_⟩
        exact ⟨_, rfl, _, rfl, by show 2 ≤ sizeLine; decide, fun t ht => fin _ _ el (by unfold highAt; rw [if_pos h2]) t ht⟩
      · have h2 : ¬ a < S.line.length := fun z => c1 (decide_eq_true (by omega))
        exact ⟨_, rfl, _, rfl, by show 2 ≤ sizeLine; decide, fun t ht => fin _ _ el (by unfold highAt; rw [if_neg h2]) t ht⟩
end
end Sm

namespace Sm
open PySem PySem.Spec L2 PyProof.Rows
/-! ### the least stretch that has room -/
def inSt (m : Int → Int) (lv : Nat) (st : Int) (x : Int) : Bool := decide (st ≤ m x) && decide (m x < st + 2 ^ lv)
def cnt (S : RS) (lv : Nat) (st : Int) : Nat := (S.line.filter (inSt S.m lv st)).length
/-- one thing more is not too many in the stretch of the level around the mark -/
def goodLv (S : RS) (mk : Int) (lv : Nat) : Bool := !tooMany lv ((cnt S lv (startOf lv mk) : Int) + 1)
/-- lv is the least such level -/
def IsLv (S : RS) (mk : Int) (lv : Nat) : Prop := lv ≤ S.w ∧ goodLv S mk lv = true ∧ ∀ j, j < lv → goodLv S mk j = false
def NoLv (S : RS) (mk : Int) : Prop := ∀ j, j ≤ S.w → goodLv S mk j = false
theorem lv_or (S : RS) (mk : Int) : (∃ lv, IsLv S mk lv) ∨ NoLv S mk := by
  have key : ∀ n, n ≤ S.w + 1 → (∃ lv, IsLv S mk lv) ∨ ∀ j, j < n → goodLv S mk j = false := by
    intro n
    induction n with
    | zero => exact fun _ => .inr fun j hj => absurd hj (Nat.not_lt_zero _)
    | succ n ih =>
      intro hn
      rcases ih (by omega) with h | h
      · exact .inl h
      · cases e : goodLv S mk n with
        | true => exact .inl ⟨n, by omega, e, h⟩
        | false =>
          refine .inr fun j hj => ?_
          · rcases Nat.lt_or_ge j n with c | c
            · exact h j c
            · have : j = n := by omega
              subst this; exact e
  rcases key (S.w + 1) (Nat.le_refl _) with h | h
  · exact .inl h
  · exact .inr fun j hj => h j (by omega)
theorem IsLv.uniq {S : RS} {mk : Int} {a b : Nat} (ha : IsLv S mk a) (hb : IsLv S mk b) : a = b := by
  rcases Nat.lt_trichotomy a b with c | c | c
  · have := hb.2.2 a c; rw [ha.2.1] at this; cases this
  · exact c
  · have := ha.2.2 b c; rw [hb.2.1] at this; cases this
theorem IsLv.not {S : RS} {mk : Int} {a : Nat} (ha : IsLv S mk a) (hb : NoLv S mk) : False := by
  have := hb a ha.1; rw [ha.2.1] at this; cases this
def spStretch (CR CF : Addr) : Sp := fun vs H Q E => ∃ (S : RS) (p l d : Addr) (mk : Int), vs = [.ref p, .int mk] ∧ RowAt CR S p l d H ∧ Ok S ∧ 0 ≤ mk ∧ mk < 2 ^ S.w ∧
  (∀ lv, IsLv S mk lv → ∀ t H', H t = none → Same H H' → H' t = some (.tup [.int lv, .int (startOf lv mk)]) → Q (.ref t) H') ∧ (NoLv S mk → ∀ H', Same H H' → E (.ref CF) none H')
section
variable {P : Program} {w : World} {K : PySem.W.Frag} {mg : Str → Option Value} {base : Heap} {CB CN CT CF CS CR : Addr} {f : Addr} {fd : FuncData}
theorem pow_le60 {w : Nat} (h : w ≤ 60) : (2 : Int) ^ w ≤ 2 ^ 60 := by
  exact_mod_cast Nat.pow_le_pow_right (n := 2) (by decide) h
theorem ok_stretch (F : Fun K "stretch_for" "Row.stretch_for" s_Row_stretch_for f fd) (T : Txt K mg CB CN CT CF CS) (TC : ClsT K CR) (d_stretch_at : Dfn P w K mg base 3 "stretch_at" [] (spAt K CB)) (d_is_too_full : Dfn P w K mg base 3 "is_too_full" [] (spFull K CB)) :
    FnOk P w K mg base (L2.CX P w) 4 f fd ["self", "mark"] (spStretch CR CF) := by
  refine F.okX sc_Row_stretch_for (fun vs H Q E h => ?_) (fun cdv A outer s H vs Q E hr h => ?_)
  · obtain ⟨S, p, l, d, mk, rfl, _⟩ := h; rfl
  · obtain ⟨S, p, l, d, mk, rfl, R, hS, hm0, hm1, q, e⟩ := h
    obtain ⟨⟨dx, h1⟩, hl, kvs, hd, hm⟩ := id R
    have hw := hS.w60
    have hm2 : mk < 2 ^ 60 := Int.lt_of_lt_of_le hm1 (pow_le60 hw)
    refine ⟨_, (pss_cons (ps_for (passes_of rfl) rfl (pi_range1 rfl T.n_range (pa_cons (pe_op op_add (pe_fld (pv 0) rfl) pe_int) pa_nil)) (pg_name (i := 2) sc_Row_stretch_for.nd rfl (by first | exact Or.inl rfl | exact Or.inr rfl))
        (pss_cons (ps_set (i := 3) sc_Row_stretch_for.nd rfl (by first | exact Or.inl rfl | exact Or.inr rfl) (Sm.pe_def d_stretch_at (hr.mono (by decide)) (passes_call (takes_of rfl rfl rfl rfl) (fun _ _ _ _ z => z)) (pa_cons (pv 2) (pa_cons (pv 1) pa_nil))))
        (pss_cons (ps_set (i := 4) sc_Row_stretch_for.nd rfl (by first | exact Or.inl rfl | exact Or.inr rfl) (pe_callB call_len_seq (by rfl) T.n_len PySem.boot_len (pa_cons (pe_lc (own := [("one", 5)]) (g := gName 5) rfl sc_Row_stretch_for.nd (pi_list (pe_fld (pv 0) rfl)) (blkOk_by (N := ["self", "mark", "level", "start", "many", "one"]) (sc := defScope s_Row_stretch_for) (by decide +kernel)) (fun _ _ _ _ _ => pg_name (i := 5) sc_Row_stretch_for.nd rfl (Or.inl rfl)) (fun _ _ _ _ _ => by exact (pts_one (pt_chain op_le op_lt (pv 3) (pe_dget (hu_of hr) (Sm.pe_fldC (K := K) rfl (pv 0) rfl) (pv 5) (fun _ _ => rfl)) (pe_op op_add (pv 3) (pe_op Sm.op_shl1 pe_int (pv 2)))))) (fun _ _ _ _ _ => by exact (pv 5))) pa_nil)))
        (pss_one (ps_if (pt_not (pt_val (Sm.pe_def d_is_too_full (hr.mono (by decide)) (passes_call (takes_of rfl rfl rfl rfl) (fun _ _ _ _ z => z)) (pa_cons (pv 2) (pa_cons (pe_op op_add (pv 4) pe_int) pa_nil)))))
          (pss_one (ps_ret (pe_tup (pa_cons (pv 2) (pa_cons (pv 3) pa_nil)))))
          pss_nil)))))
      (pss_one (ps_raise rfl (takes_of rfl rfl rfl rfl) (Sm.pmk T.x_Full)))), ?_⟩
    refine ⟨_, rfl, p, CR, dx, _, _, rfl, h1, TC.cl, TC.na_wide, fl_wide, _, _, rfl, rfl, _, rfl, by omega, by omega, ?_⟩
    rw [show ((S.w : Int) + 1).toNat = S.w + 1 by omega]
    refine for_range0 (fun i σ H' => ∃ v2 v3 v4, σ = [some (.ref p), some (.int mk), v2, v3, v4, none] ∧ Same H H' ∧ ∀ j, j < i → goodLv S mk j = false)
      ⟨none, none, none, rfl, Same.refl _, fun j hj => absurd hj (Nat.not_lt_zero _)⟩ ?_ ?_
    · rintro i σ H' hi ⟨v2, v3, v4, rfl, s1, hno⟩
      have R1 := R.same s1
      obtain ⟨⟨dx, h1⟩, hl, kvs, hd, hm⟩ := id R1
      refine ⟨_, rfl, _, rfl, .inl ⟨i, mk, rfl, by omega, hm0, hm2, ?_⟩⟩
      refine ⟨_, rfl, p, CR, dx, _, _, rfl, h1, TC.cl, TC.na_line, fl_line, l, rfl, ⟨_, SqL.of hl⟩, fun D hD => lc_fm (K := K) (a := l) (line := S.line) (inSt S.m i (startOf i mk)) V.int hD (SqL.of hl) (by have := hS.len; omega) (fun _ => rfl) ?_ ?_ ?_⟩
      · intro x hx H2 s2 Q' k
        have R2 := R1.same s2
        obtain ⟨⟨dx, h1⟩, hl, kvs, hd, hm⟩ := id R2
        refine ⟨_, rfl, _, rfl, p, CR, dx, _, _, rfl, h1, TC.cl, TC.na_marks, fl_marks, _, rfl, d, _, rfl, dget_of (k := .inl x) hd (hm.get hx), _, _, rfl, rfl, _, rfl, ?_⟩
        by_cases c : startOf i mk ≤ S.m x
        · refine ifT c ⟨_, rfl, _, rfl, i, rfl, rfl, by omega, _, _, rfl, rfl, _, _, rfl, rfl, _, rfl, ?_⟩
          have := k H2 (Same.refl _)
          rw [show inSt S.m i (startOf i mk) x = decide (S.m x < startOf i mk + 2 ^ i) by unfold inSt; rw [decide_eq_true c]; rfl] at this
          exact this
        · refine ifF c ⟨_, rfl, ?_⟩
          have := k H2 (Same.refl _)
          rw [show inSt S.m i (startOf i mk) x = false by unfold inSt; rw [decide_eq_false c]; rfl] at this
          exact this
      · intro x hx hf H2 s2 Q' k
        exact ⟨_, rfl, k H2 (Same.refl _)⟩
      · intro H2 s2 a2
        refine ⟨D, _, rfl, .inl (SqL.of a2), ?_⟩
        rw [List.length_map]
        have hc : (S.line.filter (inSt S.m i (startOf i mk))).length ≤ 200 := Nat.le_trans (List.length_filter_le _ _) hS.len
        refine ⟨_, rfl, _, rfl, _, _, rfl, rfl, .inl ⟨i, _, rfl, by omega, by omega, by omega, _, rfl, ?_⟩⟩
        have hg : goodLv S mk i = !tooMany i (((S.line.filter (inSt S.m i (startOf i mk))).length : Int) + 1) := rfl
        refine ifB (fun c => ?_) (fun c => ?_)
        · refine ⟨_, rfl, _, rfl, by show 2 ≤ sizeLine; decide, fun t ht => ?_⟩
          have s12 := s1.trans s2
          exact q i ⟨by omega, hg.trans c, hno⟩ t _ (s12.free ht) (s12.trans (upd_new ht)) upd_same
        · refine ⟨_, _, _, rfl, s1.trans s2, fun j hj => ?_⟩
          rcases Nat.lt_or_ge j i with c2 | c2
          · exact hno j c2
          · have : j = i := by omega
            subst this; exact hg.trans c
    · rintro σ H' ⟨v2, v3, v4, rfl, s1, hno⟩
      exact e (fun j hj => hno j (by omega)) H' s1
end
end Sm

namespace Sm
open PySem PySem.Spec L2 PyProof.Rows
/-! ### the marks' dict, changed -/
theorem putK_old_len {kvs : List (Key × V)} {k : Key} {v y : V} (h : valV kvs k = some v) : (putK kvs k y).length = kvs.length := by
  unfold putK
  rw [valV_any, h]
  exact (congrArg _ (if_pos rfl)).trans (List.length_map ..)
theorem putK_old_keys {kvs : List (Key × V)} {k : Key} {v y : V} (h : valV kvs k = some v) : (putK kvs k y).map (·.1) = kvs.map (·.1) := by
  unfold putK
  rw [valV_any, h]
  refine (congrArg _ (if_pos rfl)).trans ?_
  rw [List.map_map]
  refine List.map_congr_left fun q _ => ?_
  show (if q.1 = k then (q.1, y) else q).1 = q.1
  split <;> rfl
def setM (m : Int → Int) (x y : Int) : Int → Int := fun z => if z = x then y else m z
theorem Marks.put_old {kvs : List (Key × V)} {line : List Int} {m : Int → Int} {x y : Int} (M : Marks kvs line m) (h : x ∈ line) : Marks (putK kvs (.inl x) (.int y)) line (setM m x y) := by
  have e := M.get h
  refine ⟨?_, (putK_old_len e).trans M.len, fun z => ?_⟩
  · rw [putK_old_keys e]; exact M.nd
  · rw [valV_put]
    by_cases c : z = x
    · subst c
      rw [if_pos rfl, if_pos h]
      unfold setM; rw [if_pos rfl]
    · rw [if_neg (fun q => c (Sum.inl.inj q)), M.val]
      unfold setM; rw [if_neg c]
theorem Marks.put_new {kvs : List (Key × V)} {line line' : List Int} {m : Int → Int} {x y : Int} (M : Marks kvs line m) (h : ¬ x ∈ line) (hl : line'.length = line.length + 1) (hm : ∀ z, z ∈ line' ↔ z ∈ line ∨ z = x) :
    Marks (putK kvs (.inl x) (.int y)) line' (setM m x y) := by
  have e := M.no h
  refine ⟨nd_putK _ M.nd e, ?_, fun z => ?_⟩
  · rw [putK_new _ e, List.length_append, M.len, hl]; rfl
  · rw [valV_put]
    by_cases c : z = x
    · subst c
      rw [if_pos rfl, if_pos ((hm z).mpr (.inr rfl))]
      unfold setM; rw [if_pos rfl]
    · rw [if_neg (fun q => c (Sum.inl.inj q)), M.val]
      unfold setM; rw [if_neg c]
      have : z ∈ line' ↔ z ∈ line := ⟨fun q => ((hm z).mp q).resolve_right c, fun q => (hm z).mpr (.inl q)⟩
      by_cases c2 : z ∈ line
      · rw [if_pos c2, if_pos (this.mpr c2)]
      · rw [if_neg c2, if_neg (fun q => c2 (this.mp q))]
theorem Marks.congr {kvs : List (Key × V)} {line : List Int} {m m' : Int → Int} (M : Marks kvs line m) (h : ∀ z, m z = m' z) : Marks kvs line m' := by
  have : m = m' := funext h
  rw [← this]; exact M
/-! ### pairs in a list -/
def PairsAt (H : Hp) : List V → List (Int × Int) → Prop
  | [], [] => True
  | c :: cs, q :: qs => (∃ a, c = .ref a ∧ H a = some (.tup [.int q.1, .int q.2])) ∧ PairsAt H cs qs
  | _, _ => False
theorem PairsAt.mono {H H' : Hp} (s : ∀ a x y, H a = some (.tup [.int x, .int y]) → H' a = some (.tup [.int x, .int y])) : ∀ {cs : List V} {qs : List (Int × Int)}, PairsAt H cs qs → PairsAt H' cs qs
  | [], [], _ => trivial
  | c :: cs, q :: qs, ⟨⟨a, e, h⟩, r⟩ => ⟨⟨a, e, s _ _ _ h⟩, PairsAt.mono s r⟩
  | [], _ :: _, h => h.elim
  | _ :: _, [], h => h.elim
theorem PairsAt.snoc {H : Hp} {a : Addr} {q : Int × Int} (h : H a = some (.tup [.int q.1, .int q.2])) : ∀ {cs : List V} {qs : List (Int × Int)}, PairsAt H cs qs → PairsAt H (cs ++ [.ref a]) (qs ++ [q])
  | [], [], _ => ⟨⟨a, rfl, h⟩, trivial⟩
  | c :: cs, q' :: qs, ⟨e, r⟩ => ⟨e, PairsAt.snoc h r⟩
  | [], _ :: _, h => h.elim
  | _ :: _, [], h => h.elim
theorem PairsAt.len {H : Hp} : ∀ {cs : List V} {qs : List (Int × Int)}, PairsAt H cs qs → cs.length = qs.length
  | [], [], _ => rfl
  | c :: cs, q :: qs, ⟨_, r⟩ => congrArg (· + 1) r.len
  | [], _ :: _, h => h.elim
  | _ :: _, [], h => h.elim
/-! ### a stretch, spread -/
def someOf (line : List Int) (num : Int) (m : Int → Int) (lv : Nat) (st : Int) : List Int := line.filter fun x => decide (x = num) || inSt m lv st x
def pairsOf (line : List Int) (num : Int) (m : Int → Int) (lv : Nat) (st : Int) : List (Int × Int) := (someOf line num m lv st).zip (marksOf lv st (someOf line num m lv st).length)
def newM (ps : List (Int × Int)) (m : Int → Int) : Int → Int := fun z => (ps.lookup z).getD (m z)
def chgOf (ps : List (Int × Int)) (num : Int) (m : Int → Int) : List (Int × Int) := ps.filter fun q => !decide (q.1 = num) && !decide (m q.1 = q.2)
theorem lookup_snoc {ps : List (Int × Int)} {x y z : Int} : (ps ++ [(x, y)]).lookup z = (ps.lookup z).or (if z = x then some y else none) := by
  induction ps with
  | nil =>
    show List.lookup z [(x, y)] = _
    by_cases c : z = x
    · subst c; simp [List.lookup]
    · have : (z == x) = false := by simpa using c
      simp [List.lookup, this, c]
  | cons a r ih =>
    obtain ⟨k, v⟩ := a
    by_cases c : z = k
    · subst c; simp [List.lookup]
    · have : (z == k) = false := by simpa using c
      simp only [List.cons_append, List.lookup, this]; exact ih
theorem lookup_no {ps : List (Int × Int)} {x : Int} (h : ∀ q ∈ ps, q.1 ≠ x) : ps.lookup x = none := by
  induction ps with
  | nil => rfl
  | cons a r ih =>
    obtain ⟨k, v⟩ := a
    have c : (x == k) = false := by simpa using (h (k, v) List.mem_cons_self).symm
    simp only [List.lookup, c]
    exact ih fun q hq => h q (List.mem_cons_of_mem _ hq)
theorem zip_take {α β : Type} : ∀ (xs : List α) (ys : List β) (i : Nat) (x : α) (y : β), xs[i]? = some x → ys[i]? = some y → (xs.zip ys).take (i + 1) = (xs.zip ys).take i ++ [(x, y)]
  | [], _, i, x, y, h, _ => by simp at h
  | _ :: _, [], i, x, y, _, h => by simp at h
  | a :: xs, b :: ys, 0, x, y, h1, h2 => by
    have e1 : a = x := Option.some.inj h1
    have e2 : b = y := Option.some.inj h2
    subst e1 e2; rfl
  | a :: xs, b :: ys, i + 1, x, y, h1, h2 => by
    have ih := zip_take xs ys i x y h1 h2
    show (a, b) :: (xs.zip ys).take (i + 1) = (a, b) :: (xs.zip ys).take i ++ [(x, y)]
    rw [ih]; rfl
theorem nodup_before : ∀ {xs : List Int} {i : Nat} {x : Int}, xs.Nodup → xs[i]? = some x → ¬ x ∈ xs.take i
  | [], i, x, _, h => by simp at h
  | a :: xs, 0, x, _, _ => by simp
  | a :: xs, i + 1, x, hn, h => by
    obtain ⟨h1, h2⟩ := List.nodup_cons.mp hn
    have h' : xs[i]? = some x := h
    have ih := nodup_before h2 h'
    show ¬ x ∈ a :: xs.take i
    intro hm
    rcases List.mem_cons.mp hm with e | e
    · subst e; exact h1 (List.mem_of_getElem? h')
    · exact ih e
theorem zip_keys : ∀ {xs ys : List Int} {i : Nat} {q : Int × Int}, q ∈ (xs.zip ys).take i → q.1 ∈ xs.take i
  | [], _, i, q, h => by simp at h
  | _ :: _, [], i, q, h => by simp at h
  | a :: xs, b :: ys, 0, q, h => by simp at h
  | a :: xs, b :: ys, i + 1, q, h => by
    have h' : q ∈ (a, b) :: (xs.zip ys).take i := h
    show q.1 ∈ a :: xs.take i
    rcases List.mem_cons.mp h' with e | e
    · subst e; exact List.mem_cons_self
    · exact List.mem_cons_of_mem _ (zip_keys e)
/-- behind i turns of the loop that spreads -/
structure SpI (cl d : Addr) (num : Int) (ps : List (Int × Int)) (so line line' : List Int) (m : Int → Int) (H3 : Hp) (i : Nat) (H' : Hp) : Prop where
  ex : ∃ (cs : List V) (kv : List (Key × V)), H' cl = some (.lst cs) ∧ PairsAt H' cs (chgOf (ps.take i) num m) ∧ H' d = some (.dK kv) ∧ Marks kv (if num ∈ so.take i then line' else line) (newM (ps.take i) m)
  fr : ∀ b o, H3 b = some o → b ≠ d → b ≠ cl → H' b = some o
theorem pairs_upd {H : Hp} {d : Addr} {o : HO} {kv : List (Key × V)} (hd : H d = some (.dK kv)) {cs : List V} {qs : List (Int × Int)} (h : PairsAt H cs qs) : PairsAt (upd H d o) cs qs :=
  h.mono fun a x y e => by rw [upd_ne (ne_of e hd (by intro z; cases z))]; exact e
def spSpreadOn (CR : Addr) : Sp := fun vs H Q _ => ∃ (p l d dx tp : Addr) (w lv : Nat) (st num t c : Int) (line line' : List Int) (m : Int → Int) (kvs : List (Key × V)),
  vs = [.ref p, .ref tp, .int num] ∧ H p = some (.ins CR dx (flds w l d t c)) ∧ H l = some (.lst (line'.map V.int)) ∧ H d = some (.dK kvs) ∧ H tp = some (.tup [.int lv, .int st]) ∧
  Marks kvs line m ∧ line'.Nodup ∧ line'.length = line.length + 1 ∧ (∀ z, z ∈ line' ↔ z ∈ line ∨ z = num) ∧ ¬ num ∈ line ∧ line.length ≤ 200 ∧
  lv ≤ 60 ∧ 0 ≤ st ∧ st < 2 ^ 60 ∧ (someOf line' num m lv st).length ≤ 2 ^ lv ∧
  ∀ (cl : Addr) (cs : List V) (H' : Hp) (kvs' : List (Key × V)), H cl = none → H' cl = some (.lst cs) → PairsAt H' cs (chgOf (pairsOf line' num m lv st) num m) → H' d = some (.dK kvs') → Marks kvs' line' (newM (pairsOf line' num m lv st) m) →
    (∀ b o, H b = some o → b ≠ d → H' b = some o) → Q (.ref cl) H'
section
variable {P : Program} {w : World} {K : PySem.W.Frag} {mg : Str → Option Value} {base : Heap} {CB CN CT CF CS CR : Addr} {f : Addr} {fd : FuncData}
theorem ok_spread_on (F : Fun K "spread_on" "Row.spread_on" s_Row_spread_on f fd) (T : Txt K mg CB CN CT CF CS) (TC : ClsT K CR) (d_spread : Dfn P w K mg base 3 "spread" [] (spSpread K CB)) :
    FnOk P w K mg base (L2.CX P w) 4 f fd ["self", "stretch", "number"] (spSpreadOn CR) := by
  refine F.okX sc_Row_spread_on (fun vs H Q E h => ?_) (fun cdv A outer s H vs Q E hr h => ?_)
  · obtain ⟨p, l, d, dx, tp, w, lv, st, num, t, c, line, line', m, kvs, rfl, _⟩ := h; rfl
  · obtain ⟨p, l, d, dx, tp, w, lv, st, num, t, c, line, line', m, kvs, rfl, h1, hl, hd, htp, hm, hnd, hlen, hmem, hnum, hl2, hlv, hst0, hst1, hsome, q⟩ := h
    refine ⟨_, (pss_cons (ps_asg (pv 1) (pg_tup rfl (pgs_cons (pg_name (i := 3) sc_Row_spread_on.nd rfl (by first | exact Or.inl rfl | exact Or.inr rfl)) (pgs_cons (pg_name (i := 4) sc_Row_spread_on.nd rfl (by first | exact Or.inl rfl | exact Or.inr rfl)) pgs_nil))))
      (pss_cons (ps_set (i := 5) sc_Row_spread_on.nd rfl (by first | exact Or.inl rfl | exact Or.inr rfl) (pe_op op_add (pv 4) (pe_op Sm.op_shl1 pe_int (pv 3))))
      (pss_cons (ps_setLc (i := 6) (own := [("one", 7)]) (g := gName 7) rfl sc_Row_spread_on.nd rfl rfl (sw_true rfl rfl rfl (by decide +kernel)) (pi_list (pe_fld (pv 0) rfl)) (blkOk_by (N := ["self", "stretch", "number", "level", "start", "behind", "some", "one", "changed", "mark"]) (sc := defScope s_Row_spread_on) (by decide +kernel)) (fun _ _ _ _ _ => pg_name (i := 7) sc_Row_spread_on.nd rfl (Or.inl rfl)) (fun _ _ _ _ _ => by exact (pts_one (PW.pt (pw_or (pt_cmpR op_eq (pv 7) (pv 2) (nomark _)) (pw_or1 (pt_chain op_le op_lt (pv 4) (pe_dget (hu_of hr) (Sm.pe_fldC (K := K) rfl (pv 0) rfl) (pv 7) (fun _ _ => rfl)) (pv 5))))))) (fun _ _ _ _ _ => by exact (pv 7)))
      (pss_cons (ps_set (i := 8) sc_Row_spread_on.nd rfl (by first | exact Or.inl rfl | exact Or.inr rfl) (pe_lst pa_nil))
      (pss_cons (ps_for (passes_of rfl) rfl (pi_zip (by rfl) T.n_zip (pa_cons (pv 6) (pa_cons (Sm.pe_def d_spread (hr.mono (by decide)) passL (pa_cons (pv 3) (pa_cons (pv 4) (pa_cons (pe_callB call_len_seq (by rfl) T.n_len PySem.boot_len (pa_cons (pv 6) pa_nil)) pa_nil)))) pa_nil))) (pg_tup rfl (pgs_cons (pg_name (i := 7) sc_Row_spread_on.nd rfl (by first | exact Or.inl rfl | exact Or.inr rfl)) (pgs_cons (pg_name (i := 9) sc_Row_spread_on.nd rfl (by first | exact Or.inl rfl | exact Or.inr rfl)) pgs_nil)))
        (pss_cons (ps_if (PW.pt (pw_and (pt_cmpR op_ne (pv 7) (pv 2) (nomark _)) (pw_and1 (pt_cmpR op_ne (pe_dget (hu_of hr) (pe_fld (pv 0) rfl) (pv 7) (fun _ _ => rfl)) (pv 9) (nomark _)))))
          (pss_one (ps_expr (pe_bm PySem.F.plainAttrs_list PySem.F.slot_list_append PySem.F.type_list_append mt_append (pv 8) (pa_cons (pe_tup (pa_cons (pv 7) (pa_cons (pv 9) pa_nil))) pa_nil))))
          pss_nil)
        (pss_one (ps_dput (hu_of hr) (pe_fld (pv 0) rfl) (pv 7) (pv 9) rfl))))
      (pss_one (ps_ret (pv 8)))))))), ?_⟩
    -- level, start = stretch; behind
    refine ⟨_, rfl, tp, _, rfl, SqT.of htp, rfl, _, _, rfl, _, _, rfl, rfl, ?_⟩
    refine ⟨_, rfl, _, rfl, lv, rfl, rfl, by omega, _, _, rfl, rfl, ?_⟩
    -- some
    refine ⟨_, rfl, p, CR, dx, _, _, rfl, h1, TC.cl, TC.na_line, fl_line, l, rfl, ⟨_, SqL.of hl⟩, fun D hD => lc_fm (K := K) (a := l) (line := line') (fun x => decide (x = num) || inSt m lv st x) V.int hD (SqL.of hl) (by omega) (fun _ => rfl) ?_ ?_ ?_⟩
    · intro x hx H2 s2 Q' k
      have k := k H2 (Same.refl _)
      refine ⟨_, rfl, _, rfl, rfl, _, rfl, ?_⟩
      by_cases c0 : x = num
      · refine ifT (congrArg V.int c0) ?_
        rw [show (decide (x = num) || inSt m lv st x) = true by rw [decide_eq_true c0]; rfl] at k
        exact k
      · refine ifF (fun z => c0 (V.int.inj z)) ?_
        have hx' : x ∈ line := ((hmem x).mp hx).resolve_right c0
        rw [show (decide (x = num) || inSt m lv st x) = inSt m lv st x by rw [decide_eq_false c0]; rfl] at k
        refine ⟨_, rfl, _, rfl, p, CR, dx, _, _, rfl, (s2 _ _ h1), TC.cl, TC.na_marks, fl_marks, _, rfl, d, _, rfl, dget_of (k := .inl x) (s2 _ _ hd) (hm.get hx'), _, _, rfl, rfl, _, rfl, ?_⟩
        by_cases c1 : st ≤ m x
        · refine ifT c1 ⟨_, rfl, _, _, rfl, rfl, _, rfl, ?_⟩
          rw [show inSt m lv st x = decide (m x < st + 2 ^ lv) by unfold inSt; rw [decide_eq_true c1]; rfl] at k
          exact k
        · refine ifF c1 ⟨_, rfl, ?_⟩
          rw [show inSt m lv st x = false by unfold inSt; rw [decide_eq_false c1]; rfl] at k
          exact k
    · intro x hx hf H2 s2 Q' k
      exact ⟨_, rfl, k H2 (Same.refl _)⟩
    intro H1 s1 a1
    have a1 : H1 D = some (.lst ((someOf line' num m lv st).map V.int)) := a1
    -- changed = []
    refine ⟨(by show 0 ≤ sizeLine; decide), fun cl hcl => ?_⟩
    have s2 : Same H1 (upd H1 cl (.lst [])) := upd_new hcl
    have hcl0 : H cl = none := s1.free hcl
    have c2 : (upd H1 cl (.lst [])) cl = some (.lst []) := upd_same
    have nclD : cl ≠ D := (ne_of_none a1 hcl).symm
    have ncld : cl ≠ d := (ne_of_none hd hcl0).symm
    generalize upd H1 cl (.lst []) = H2 at s2 c2
    have s02 := s1.trans s2
    -- spread(level, start, len(some))
    generalize hso : someOf line' num m lv st = so at a1 hsome
    have hson : so.length ≤ 201 := by rw [← hso]; exact Nat.le_trans (List.length_filter_le _ _) (by omega)
    have hps : pairsOf line' num m lv st = so.zip (marksOf lv st so.length) := by unfold pairsOf; rw [hso]
    have hsnd : so.Nodup := by rw [← hso]; exact List.Nodup.sublist List.filter_sublist hnd
    have hsmem : ∀ x ∈ so, x ∈ line' := fun x hx => by
      rw [← hso] at hx
      exact (List.mem_filter.mp hx).1
    have hsnum : num ∈ so := by
      rw [← hso]
      exact List.mem_filter.mpr ⟨(hmem num).mpr (.inr rfl), by simp⟩
    rw [hps] at q
    refine ⟨_, rfl, _, rfl, _, rfl, _, rfl, D, _, rfl, .inl (SqL.of (s2 _ _ a1)), .inl ⟨lv, so.length, st, (by rw [List.length_map]; rfl), hlv, hst0, hst1, hsome, by omega, fun ml H3 hml s3 a3 => ?_⟩⟩
    have s03 := s02.trans s3
    refine ⟨D, ml, _, _, rfl, SqL.of (s3 _ _ (s2 _ _ a1)), SqL.of a3, ?_⟩
    have nDcl : D ≠ cl := nclD.symm
    have nmlcl : ml ≠ cl := (ne_of_none c2 hml).symm
    have nDd : D ≠ d := (ne_of_none hd hD).symm
    have nmld : ml ≠ d := (ne_of_none (s02 _ _ hd) hml).symm
    have aD : H3 D = some (.lst (so.map V.int)) := s3 _ _ (s2 _ _ a1)
    have hpl : (so.zip (marksOf lv st so.length)).length = so.length := by rw [List.length_zip, marks_len, Nat.min_self]
    generalize hpp : so.zip (marksOf lv st so.length) = ps at q hpl
    refine RZ.for_zipL (K := K) (a := D) (b := ml) (xs := so.map V.int) (ys := (marksOf lv st so.length).map V.int) (by rw [List.length_map, List.length_map, marks_len])
      (fun i σ H' => (∃ v7 v9 : Option V, σ = [some (.ref p), some (.ref tp), some (.int num), some (.int lv), some (.int st), some (.int (st + 2 ^ lv)), some (.ref D), v7, some (.ref cl), v9]) ∧ SpI cl d num ps so line line' m H3 i H')
      ⟨⟨none, none, rfl⟩, ⟨[], kvs, s3 _ _ c2, trivial, s03 _ _ hd, by rw [List.take_zero, List.take_zero, if_neg (by simp)]; exact hm⟩, fun b o h _ _ => h⟩
      (fun i σ H' ⟨_, I⟩ => ⟨SqL.of (I.fr _ _ aD nDd nDcl), SqL.of (I.fr _ _ a3 nmld nmlcl)⟩) ?_ ?_
    · rintro i x0 y0 T0 σ H' hi hj ⟨⟨v7, v9, rfl⟩, ⟨cs, kv, b1, b2, b3, b4⟩, fr⟩ hT0
      obtain ⟨x, rfl, hx, hxm, hil⟩ := getI hi
      obtain ⟨y, rfl, hy, hym, hjl⟩ := getI hj
      have hxb := nodup_before hsnd hx
      have hzt : ps.take (i + 1) = ps.take i ++ [(x, y)] := by rw [← hpp]; exact zip_take so (marksOf lv st so.length) i x y hx hy
      have hnk : ∀ q ∈ ps.take i, q.1 ≠ x := fun q hq e => hxb (e ▸ zip_keys (hpp ▸ hq))
      have hmx : newM (ps.take i) m x = m x := by
        unfold newM; rw [lookup_no hnk]; rfl
      have hmnew : ∀ z, setM (newM (ps.take i) m) x y z = newM (ps.take (i + 1)) m z := fun z => by
        unfold setM newM
        rw [hzt, lookup_snoc]
        by_cases e : z = x
        · subst e; rw [if_pos rfl, lookup_no hnk, if_pos rfl]; rfl
        · rw [if_neg e, if_neg e]
          cases (ps.take i).lookup z <;> rfl
      have htk : so.take (i + 1) = so.take i ++ [x] := take_more hx
      have hcur : ∀ z, ¬ z = num → z ∈ line' → z ∈ (if num ∈ so.take i then line' else line) := fun z hz hz' => by
        split
        · exact hz'
        · exact ((hmem z).mp hz').resolve_right hz
      have hkl : kv.length ≤ 201 := by
        rw [b4.len]; split <;> omega
      have hM5 : Marks (putK kv (.inl x) (.int y)) (if num ∈ so.take (i + 1) then line' else line) (newM (ps.take (i + 1)) m) := by
        by_cases e : x = num
        · subst e
          rw [if_neg hxb] at b4
          rw [if_pos (by rw [htk]; simp)]
          exact (b4.put_new hnum hlen hmem).congr hmnew
        · have e2 : (num ∈ so.take (i + 1)) ↔ num ∈ so.take i := by
            rw [htk, List.mem_append, List.mem_singleton]
            exact ⟨fun q => q.resolve_right fun z => e z.symm, .inl⟩
          have b5 := (b4.put_old (y := y) (hcur x e (hsmem x hxm))).congr hmnew
          by_cases c2 : num ∈ so.take i
          · rw [if_pos (e2.mpr c2)]; rw [if_pos c2] at b5; exact b5
          · rw [if_neg (fun q => c2 (e2.mp q))]; rw [if_neg c2] at b5; exact b5
      have s4 : Same H' (upd H' T0 (.tup [.int x, .int y])) := upd_new hT0
      refine ⟨T0, _, rfl, SqT.of upd_same, rfl, _, _, rfl, _, _, rfl, rfl, ?_⟩
      generalize upd H' T0 (.tup [.int x, .int y]) = H4 at s4
      have g1 := s4 _ _ b1
      have g3 := s4 _ _ b3
      have fr4 : ∀ b o, H3 b = some o → b ≠ d → b ≠ cl → H4 b = some o := fun b o h n1 n2 => s4 b o (fr b o h n1 n2)
      have npd : p ≠ d := ne_of h1 hd (by intro z; cases z)
      have npcl : p ≠ cl := ne_of_none h1 hcl0
      have gp : H4 p = some (.ins CR dx (flds w l d t c)) := fr4 _ _ (s03 _ _ h1) npd npcl
      have b2' : PairsAt H4 cs (chgOf (ps.take i) num m) := b2.mono fun a x y h => s4 _ _ h
      have fin : ∀ (H5 : Hp) (cs' : List V), H5 cl = some (.lst cs') → PairsAt H5 cs' (chgOf (ps.take (i + 1)) num m) → H5 d = some (.dK kv) → (∀ b o, H3 b = some o → b ≠ d → b ≠ cl → H5 b = some o) →
          SpI cl d num ps so line line' m H3 (i + 1) (upd H5 d (.dK (putK kv (.inl x) (.int y)))) := fun H5 cs' k1 k2 k3 k4 =>
        ⟨⟨cs', _, by rw [upd_ne ncld]; exact k1, pairs_upd k3 k2, upd_same, hM5⟩, fun b o h n1 n2 => by rw [upd_ne n1]; exact k4 b o h n1 n2⟩
      have chS : chgOf (ps.take (i + 1)) num m = chgOf (ps.take i) num m ++ (if (!decide (x = num) && !decide (m x = y)) = true then [(x, y)] else []) := by
        unfold chgOf
        rw [hzt, List.filter_append, List.filter_cons]
        rfl
      refine ⟨_, rfl, _, rfl, rfl, _, rfl, ?_⟩
      by_cases c0 : x = num
      · refine ifNF (congrArg V.int c0) (iteF ?_)
        have ch0 : chgOf (ps.take (i + 1)) num m = chgOf (ps.take i) num m := by rw [chS, decide_eq_true c0]; simp
        exact ⟨_, rfl, _, rfl, p, CR, dx, _, _, rfl, gp, TC.cl, TC.na_marks, fl_marks, _, rfl, d, _, rfl, DPut.k (k := .inl x) g3 (small1000 (by omega)), ⟨_, _, rfl⟩, fin H4 cs g1 (by rw [ch0]; exact b2') g3 fr4⟩
      · refine ifNT (fun z => c0 (V.int.inj z)) ?_
        refine ⟨_, rfl, p, CR, dx, _, _, rfl, gp, TC.cl, TC.na_marks, fl_marks, _, rfl, d, _, rfl, dget_of (k := .inl x) g3 (b4.get (hcur x c0 (hsmem x hxm))), _, rfl, rfl, _, rfl, ?_⟩
        by_cases c1 : m x = y
        · refine ifNF (congrArg V.int (hmx.trans c1)) ?_
          have ch0 : chgOf (ps.take (i + 1)) num m = chgOf (ps.take i) num m := by rw [chS, decide_eq_true c1]; simp
          exact ⟨_, rfl, _, rfl, p, CR, dx, _, _, rfl, gp, TC.cl, TC.na_marks, fl_marks, _, rfl, d, _, rfl, DPut.k (k := .inl x) g3 (small1000 (by omega)), ⟨_, _, rfl⟩, fin H4 cs g1 (by rw [ch0]; exact b2') g3 fr4⟩
        · refine ifNT (fun z => c1 (hmx.symm.trans (V.int.inj z))) ?_
          have ch0 : chgOf (ps.take (i + 1)) num m = chgOf (ps.take i) num m ++ [(x, y)] := by rw [chS, decide_eq_false c0, decide_eq_false c1]; rfl
          refine ⟨_, rfl, .inl ⟨rfl, _, SqL.of g1⟩, _, rfl, _, rfl, (by show 2 ≤ sizeLine; decide), fun T1 hT1 => ?_⟩
          have s5 : Same H4 (upd H4 T1 (.tup [.int x, .int y])) := upd_new hT1
          have t5 : (upd H4 T1 (.tup [.int x, .int y])) T1 = some (.tup [.int x, .int y]) := upd_same
          have nT1cl : T1 ≠ cl := (ne_of_none g1 hT1).symm
          have nT1d : T1 ≠ d := (ne_of_none g3 hT1).symm
          generalize upd H4 T1 (.tup [.int x, .int y]) = H5 at s5 t5
          have hcsl : cs.length ≤ 201 := by
            rw [b2'.len]
            refine Nat.le_trans (List.length_filter_le _ _) ?_
            rw [List.length_take]; omega
          refine ⟨cl, _, _, rfl, rfl, s5 _ _ g1, small1000 (by omega), ?_⟩
          have k1 : (upd H5 cl (.lst (cs ++ [.ref T1]))) cl = some (.lst (cs ++ [.ref T1])) := upd_same
          have k2 : PairsAt (upd H5 cl (.lst (cs ++ [.ref T1]))) (cs ++ [.ref T1]) (chgOf (ps.take (i + 1)) num m) := by
            rw [ch0]
            refine PairsAt.snoc (by rw [upd_ne nT1cl]; exact t5) (b2'.mono fun a x y h => ?_)
            rw [upd_ne (ne_of (s5 _ _ h) (s5 _ _ g1) (by intro z; cases z))]; exact s5 _ _ h
          have k3 : (upd H5 cl (.lst (cs ++ [.ref T1]))) d = some (.dK kv) := by rw [upd_ne ncld.symm]; exact s5 _ _ g3
          have k4 : ∀ b o, H3 b = some o → b ≠ d → b ≠ cl → (upd H5 cl (.lst (cs ++ [.ref T1]))) b = some o := fun b o h n1 n2 => by rw [upd_ne n2]; exact s5 _ _ (fr4 b o h n1 n2)
          have gp' := k4 _ _ (s03 _ _ h1) npd npcl
          generalize upd H5 cl (.lst (cs ++ [.ref T1])) = H6 at k1 k2 k3 k4 gp'
          exact ⟨_, rfl, _, rfl, p, CR, dx, _, _, rfl, gp', TC.cl, TC.na_marks, fl_marks, _, rfl, d, _, rfl, DPut.k (k := .inl x) k3 (small1000 (by omega)), ⟨_, _, rfl⟩, fin H6 _ k1 k2 k3 k4⟩
    · rintro σ H' ⟨⟨v7, v9, rfl⟩, ⟨cs, kv, b1, b2, b3, b4⟩, fr⟩
      rw [List.length_map] at b2 b4
      rw [List.take_length, if_pos hsnum, List.take_of_length_le (by omega)] at b4
      rw [List.take_of_length_le (by omega)] at b2
      exact ⟨_, rfl, q cl cs H' kv hcl0 b1 b2 b3 b4 fun b o h n => fr b o (s03 b o h) n (ne_of_none h hcl0)⟩
end
end Sm

namespace Sm
open PySem PySem.Spec L2 PyProof.Rows
theorem valV_drop {kvs : List (Key × V)} {k j : Key} : valV (dropK kvs k) j = if j = k then none else valV kvs j := by
  induction kvs with
  | nil => simp [dropK, valV]
  | cons a r ih =>
    by_cases e : a.1 = k
    · rw [dropK_pos e, ih]
      by_cases c : j = k
      · rw [if_pos c, if_pos c]
      · rw [if_neg c, if_neg c, valV_neg (fun z => c (z.symm.trans e))]
    · rw [dropK_neg e]
      by_cases c : a.1 = j
      · rw [valV_pos c, valV_pos c, if_neg (fun z => e (c.trans z))]
      · rw [valV_neg c, valV_neg c, ih]
/-- where a thing stands first -/
theorem first_at : ∀ {ns : List Int} {k : Int}, k ∈ ns → ∃ j, ns[j]? = some k ∧ (∀ i, i < j → ns[i]? ≠ some k) ∧ ns.eraseIdx j = ns.erase k ∧ ns.idxOf k = j
  | [], k, h => by simp at h
  | a :: r, k, h => by
    by_cases e : a = k
    · subst e
      exact ⟨0, rfl, fun i hi => absurd hi (Nat.not_lt_zero _), by simp, by simp⟩
    · have hr : k ∈ r := by
        rcases List.mem_cons.mp h with q | q
        · exact absurd q.symm e
        · exact q
      obtain ⟨j, h1, h2, h3, h4⟩ := first_at hr
      refine ⟨j + 1, h1, fun i hi => ?_, ?_, ?_⟩
      · cases i with
        | zero => exact fun z => e (Option.some.inj z)
        | succ i => exact h2 i (by omega)
      · have : (a == k) = false := by simpa using e
        rw [List.erase_cons, this]
        show a :: r.eraseIdx j = _
        rw [h3]; rfl
      · have : (a == k) = false := by simpa using e
        rw [List.idxOf_cons, this, h4]; rfl
theorem Marks.drop {kvs : List (Key × V)} {line : List Int} {m : Int → Int} {x : Int} (M : Marks kvs line m) (hn : line.Nodup) (h : x ∈ line) : Marks (dropK kvs (.inl x)) (line.erase x) m := by
  refine ⟨nd_dropK M.nd, ?_, fun z => ?_⟩
  · have a := dropK_len M.nd (valV_in (M.get h))
    have b := List.length_erase_of_mem h
    have c : 0 < line.length := List.length_pos_of_mem h
    have d := M.len
    omega
  · rw [valV_drop]
    by_cases c : z = x
    · subst c
      rw [if_pos rfl, if_neg (fun q => (hn.mem_erase_iff.mp q).1 rfl)]
    · rw [if_neg (fun q => c (Sum.inl.inj q)), M.val]
      by_cases c2 : z ∈ line
      · rw [if_pos c2, if_pos (hn.mem_erase_iff.mpr ⟨c, c2⟩)]
      · rw [if_neg c2, if_neg (fun q => c2 (hn.mem_erase_iff.mp q).2)]
def RS.taken (S : RS) (i : Int) : RS := { S with line := S.line.erase i }
def spTake (K : PySem.W.Frag) (CR CN : Addr) : Sp := fun vs H Q E => ∃ (S : RS) (p l d : Addr) (x : V), vs = [.ref p, x] ∧ RowAt CR S p l d H ∧ Ok S ∧ KdV K H x ∧
  (∀ i, x = .int i → i ∈ S.line → ∀ H', RowAt CR (S.taken i) p l d H' → RFr p l d H H' → Q .non H') ∧ (inLine x S.line = false → E (.ref CN) none H)
def insAt (line : List Int) (a : Nat) (n : Int) : List Int := line.take a ++ [n] ++ line.drop a
/-- the place behind a thing; ahead of all by None -/
def atOf (line : List Int) (x : V) : Nat := match x with
  | .int i => line.idxOf i + 1
  | _ => 0
def mk0 (low : Int) : Int := if 0 > low then 0 else low
/-- what a putting makes of the marks, what it tells of the stretch and the changes -/
def PutM (S : RS) (a : Nat) (m' : Int → Int) (sv : Option (Nat × Int)) (ch : List (Int × Int)) : Prop :=
  (2 ≤ highAt S a - lowAt S a ∧ m' = setM S.m S.told ((lowAt S a + highAt S a) / 2) ∧ sv = none ∧ ch = []) ∨
  (highAt S a - lowAt S a < 2 ∧ ∃ lv, IsLv S (mk0 (lowAt S a)) lv ∧ m' = newM (pairsOf (insAt S.line a S.told) S.told S.m lv (startOf lv (mk0 (lowAt S a)))) S.m ∧ sv = some (lv, startOf lv (mk0 (lowAt S a))) ∧
    ch = chgOf (pairsOf (insAt S.line a S.told) S.told S.m lv (startOf lv (mk0 (lowAt S a)))) S.told S.m)
def PutFull (S : RS) (a : Nat) : Prop := highAt S a - lowAt S a < 2 ∧ NoLv S (mk0 (lowAt S a))
def RS.put (S : RS) (a : Nat) (m' : Int → Int) (ch : List (Int × Int)) : RS := ⟨S.w, insAt S.line a S.told, m', S.told + 1, S.coins + 8 * S.w - ch.length⟩
def StV (H : Hp) (v : V) : Option (Nat × Int) → Prop
  | none => v = .non
  | some q => ∃ tp, v = .ref tp ∧ H tp = some (.tup [.int (q.1 : Int), .int q.2])
theorem StV.mono {H H' : Hp} {v : V} {sv : Option (Nat × Int)} (s : ∀ a x y, H a = some (.tup [.int x, .int y]) → H' a = some (.tup [.int x, .int y])) (h : StV H v sv) : StV H' v sv := by
  cases sv with
  | none => exact h
  | some q => obtain ⟨tp, e, h⟩ := h; exact ⟨tp, e, s _ _ _ h⟩
def goodX (x : V) (line : List Int) : Bool := decide (x = .non) || inLine x line
def spPut (K : PySem.W.Frag) (CR CN CT CF : Addr) : Sp := fun vs H Q E => ∃ (S : RS) (p l d : Addr) (x : V), vs = [.ref p, x] ∧ RowAt CR S p l d H ∧ Ok S ∧ KdV K H x ∧
  (goodX x S.line = true → S.line.length < 200 →
    (∀ m' sv ch, PutM S (atOf S.line x) m' sv ch → ∀ (t cl : Addr) (v5 : V) (cs : List V) (H' : Hp), H t = none → H cl = none → t ≠ cl → H' t = some (.tup [.int S.told, v5, .ref cl]) → StV H' v5 sv → H' cl = some (.lst cs) → PairsAt H' cs ch →
      RowAt CR (S.put (atOf S.line x) m' ch) p l d H' → RFr p l d H H' → Q (.ref t) H') ∧
    (PutFull S (atOf S.line x) → ∀ H', Same H H' → E (.ref CF) none H')) ∧
  (goodX x S.line = false → E (.ref CN) none H) ∧ (goodX x S.line = true → S.line.length = 200 → E (.ref CT) none H)
/-! ### the plain laws of a putting -/
theorem mem_ins {line : List Int} {a : Nat} {n z : Int} : z ∈ insAt line a n ↔ z ∈ line ∨ z = n := by
  unfold insAt
  rw [List.mem_append, List.mem_append, List.mem_singleton]
  have e := List.take_append_drop a line
  constructor
  · rintro ((h | h) | h)
    · exact .inl (List.mem_of_mem_take h)
    · exact .inr h
    · exact .inl (List.mem_of_mem_drop h)
  · rintro (h | h)
    · rw [← e] at h
      rcases List.mem_append.mp h with h | h
      · exact .inl (.inl h)
      · exact .inr h
    · exact .inl (.inr h)
theorem len_ins {line : List Int} {a : Nat} {n : Int} : (insAt line a n).length = line.length + 1 := by
  unfold insAt
  rw [List.length_append, List.length_append, List.length_take, List.length_drop, List.length_singleton]
  omega
theorem nd_ins {line : List Int} {a : Nat} {n : Int} (hn : line.Nodup) (h : ¬ n ∈ line) : (insAt line a n).Nodup := by
  unfold insAt
  rw [List.append_assoc, List.singleton_append]
  have e := List.take_append_drop a line
  rw [← e] at hn h
  rw [List.nodup_append] at hn ⊢
  obtain ⟨h1, h2, h3⟩ := hn
  refine ⟨h1, List.nodup_cons.mpr ⟨fun q => h (List.mem_append.mpr (.inr q)), h2⟩, fun x hx y hy => ?_⟩
  rcases List.mem_cons.mp hy with q | q
  · subst q; exact fun z => h (List.mem_append.mpr (.inl (z ▸ hx)))
  · exact h3 x hx y q
theorem some_len {line : List Int} {a : Nat} {n : Int} {m : Int → Int} {lv : Nat} {st : Int} (h : ¬ n ∈ line) : (someOf (insAt line a n) n m lv st).length = (line.filter (inSt m lv st)).length + 1 := by
  have part : ∀ l : List Int, (∀ z ∈ l, z ∈ line) → l.filter (fun x => decide (x = n) || inSt m lv st x) = l.filter (inSt m lv st) := fun l hl =>
    List.filter_congr fun z hz => by
      have c : ¬ z = n := fun e => h (by rw [← e]; exact hl z hz)
      rw [decide_eq_false c, Bool.false_or]
  unfold someOf insAt
  rw [List.filter_append, List.filter_append, part _ (fun z hz => List.mem_of_mem_take hz), part _ (fun z hz => List.mem_of_mem_drop hz), List.filter_cons, if_pos (by simp)]
  conv => rhs; rw [← List.take_append_drop a line, List.filter_append, List.length_append]
  rw [List.length_append, List.length_append]
  simp only [List.length_cons, List.filter_nil, List.length_nil]
  omega
/-- so many as are not too many find room on the stretch -/
theorem room_of {l : Nat} {n : Nat} (h : tooMany l (n : Int) = false) : n ≤ 2 ^ l := by
  have h1 : (n : Int) * 3 ^ l ≤ 4 ^ l := by
    have := of_decide_eq_false h
    omega
  have h2 : (n : Int) * 3 ^ l ≤ 2 ^ l * 3 ^ l := by
    refine Int.le_trans h1 ?_
    have e : (4 : Int) ^ l = 2 ^ l * 2 ^ l := by
      rw [show (4 : Int) = 2 * 2 by decide, Int.mul_pow]
    rw [e]
    refine Int.mul_le_mul_of_nonneg_left ?_ (Int.le_of_lt (pow_pos2 l))
    exact_mod_cast Nat.pow_le_pow_left (by decide : 2 ≤ 3) l
  have h3 : (0 : Int) < 3 ^ l := by exact_mod_cast Nat.pow_pos (n := l) (by decide : 0 < 3)
  have := Int.le_of_mul_le_mul_right h2 h3
  exact_mod_cast this
theorem low_bd {S : RS} (hS : Ok S) {a : Nat} (ha : a ≤ S.line.length) : -1 ≤ lowAt S a ∧ lowAt S a < 2 ^ S.w := by
  have hp := pow_pos2 S.w
  unfold lowAt
  split
  · rename_i h
    have := hS.mks _ (getD_mem (line := S.line) (a := a - 1) (by omega))
    omega
  · omega
theorem high_bd {S : RS} (hS : Ok S) {a : Nat} : 0 ≤ highAt S a ∧ highAt S a ≤ 2 ^ S.w := by
  have hp := pow_pos2 S.w
  unfold highAt
  split
  · rename_i h
    have := hS.mks _ (getD_mem (line := S.line) (a := a) h)
    omega
  · omega
theorem mk0_bd {S : RS} (hS : Ok S) {a : Nat} (ha : a ≤ S.line.length) : 0 ≤ mk0 (lowAt S a) ∧ mk0 (lowAt S a) < 2 ^ S.w := by
  have h1 := low_bd hS ha
  have hp := pow_pos2 S.w
  unfold mk0
  split <;> omega
theorem startOf_law {l : Nat} {m : Int} (hm : 0 ≤ m) : startOf l m % 2 ^ l = 0 ∧ startOf l m ≤ m ∧ m < startOf l m + 2 ^ l ∧ 0 ≤ startOf l m := by
  have h0 := pow_pos2 l
  have h1 := div_lo (a := m) h0
  have h2 := div_hi (a := m) h0
  rw [Int.add_mul, Int.one_mul] at h2
  exact ⟨by unfold startOf; exact Int.mul_emod_left _ _, h1, h2, Int.mul_nonneg (Int.ediv_nonneg hm (by omega)) (by omega)⟩
theorem start_top {l w : Nat} {m : Int} (hl : l ≤ w) (h0 : 0 ≤ m) (h1 : m < 2 ^ w) : startOf l m + 2 ^ l ≤ 2 ^ w := by
  unfold startOf
  have hp := pow_pos2 l
  have e : (2 : Int) ^ w = 2 ^ (w - l) * 2 ^ l := by rw [← Int.pow_add]; congr 1; omega
  rw [e] at h1 ⊢
  have h2 : m / 2 ^ l < 2 ^ (w - l) := Int.ediv_lt_of_lt_mul hp h1
  have h3 : (m / 2 ^ l + 1) * 2 ^ l ≤ 2 ^ (w - l) * 2 ^ l := Int.mul_le_mul_of_nonneg_right (by omega) (by omega)
  rw [Int.add_mul] at h3
  omega
theorem not_told {S : RS} (hS : Ok S) : ¬ S.told ∈ S.line := fun h => by
  have := hS.num _ h
  omega
theorem mem_lookup {ps : List (Int × Int)} {z y : Int} (h : ps.lookup z = some y) : (z, y) ∈ ps := by
  induction ps with
  | nil => cases h
  | cons a r ih =>
    obtain ⟨k, v⟩ := a
    by_cases c : z = k
    · subst c
      simp [List.lookup] at h
      subst h
      exact List.mem_cons_self
    · have : (z == k) = false := by simpa using c
      simp only [List.lookup, this] at h
      exact List.mem_cons_of_mem _ (ih h)
theorem marks_mem {l n : Nat} {st y : Int} (h : y ∈ marksOf l st n) : st ≤ y ∧ y < st + 2 ^ l := by
  unfold marksOf at h
  obtain ⟨i, hi, rfl⟩ := List.mem_map.mp h
  exact share_in (List.mem_range.mp hi)
theorem Ok.put {S : RS} (hS : Ok S) {a : Nat} {m' : Int → Int} {sv : Option (Nat × Int)} {ch : List (Int × Int)} (ha : a ≤ S.line.length) (hl : S.line.length < 200) (h : PutM S a m' sv ch) : Ok (S.put a m' ch) := by
  refine ⟨hS.w4, hS.w60, nd_ins hS.nd (not_told hS), by show (insAt S.line a S.told).length ≤ 200; rw [len_ins]; omega, fun x hx => ?_, by show 0 ≤ S.told + 1; have := hS.told; omega, fun x hx => ?_⟩
  · show 0 ≤ x ∧ x < S.told + 1
    have ht := hS.told
    rcases mem_ins.mp hx with q | q
    · have := hS.num x q; omega
    · subst q; omega
  · show 0 ≤ m' x ∧ m' x < 2 ^ S.w
    have hx' := mem_ins.mp hx
    rcases h with ⟨h1, rfl, _, _⟩ | ⟨h1, lv, h2, rfl, _, _⟩
    · have b1 := low_bd hS ha
      have b2 := high_bd hS (a := a)
      unfold setM
      split
      · omega
      · rename_i c
        exact hS.mks x (hx'.resolve_right c)
    · have b0 := mk0_bd hS ha
      unfold newM
      cases e : (pairsOf (insAt S.line a S.told) S.told S.m lv (startOf lv (mk0 (lowAt S a)))).lookup x with
      | some y =>
        have hy := mem_lookup e
        unfold pairsOf at hy
        have hy2 := marks_mem (List.of_mem_zip hy).2
        have s1 := startOf_law (l := lv) b0.1
        have s2 := start_top h2.1 b0.1 b0.2
        show 0 ≤ y ∧ y < 2 ^ S.w
        omega
      | none =>
        show 0 ≤ S.m x ∧ S.m x < 2 ^ S.w
        rcases hx' with q | q
        · exact hS.mks x q
        · exfalso
          subst q
          have hso : S.told ∈ someOf (insAt S.line a S.told) S.told S.m lv (startOf lv (mk0 (lowAt S a))) := List.mem_filter.mpr ⟨mem_ins.mpr (.inr rfl), by simp⟩
          have key : ∀ (xs ys : List Int), xs.length = ys.length → ∀ z, z ∈ xs → (xs.zip ys).lookup z ≠ none := by
            intro xs
            induction xs with
            | nil => intro ys _ z hz; simp at hz
            | cons b r ih =>
              intro ys hl z hz
              cases ys with
              | nil => simp at hl
              | cons c ys =>
                by_cases e : z = b
                · subst e; simp [List.lookup]
                · have e2 : (z == b) = false := by simpa using e
                  show List.lookup z ((b, c) :: r.zip ys) ≠ none
                  simp only [List.lookup, e2]
                  exact ih ys (by simpa using hl) z ((List.mem_cons.mp hz).resolve_left e)
          exact key _ _ (by rw [marks_len]) _ hso e
theorem Ok.taken {S : RS} (hS : Ok S) (i : Int) : Ok (S.taken i) :=
  ⟨hS.w4, hS.w60, hS.nd.erase i, Nat.le_trans (List.length_erase_le ..) hS.len, fun x hx => hS.num x (List.mem_of_mem_erase hx), hS.told, fun x hx => hS.mks x (List.mem_of_mem_erase hx)⟩
theorem at_le {line : List Int} {x : V} (h : goodX x line = true) : atOf line x ≤ line.length := by
  cases x with
  | int i =>
    have h : (decide (V.int i = .non) || decide (i ∈ line)) = true := h
    rw [decide_eq_false (by intro z; cases z), Bool.false_or] at h
    have := List.idxOf_lt_length_of_mem (of_decide_eq_true h)
    show line.idxOf i + 1 ≤ _
    omega
  | _ => exact Nat.zero_le _
section
variable {P : Program} {w : World} {K : PySem.W.Frag} {mg : Str → Option Value} {base : Heap} {CB CN CT CF CS CR : Addr} {f : Addr} {fd : FuncData}
theorem all_flat (ns : List Int) : (ns.map V.int).all flatV = true := by
  rw [List.all_map]
  exact List.all_eq_true.mpr fun _ _ => rfl
theorem ok_take (F : Fun K "take" "Row.take" s_Row_take f fd) (T : Txt K mg CB CN CT CF CS) (TC : ClsT K CR) (m_need_thing : Mth P w K mg base 2 CR "need_thing" [] (spThing K CR CN)) : FnOk P w K mg base (L2.CX P w) 3 f fd ["self", "one"] (spTake K CR CN) := by
  refine F.okX sc_Row_take (fun vs H Q E h => ?_) (fun cdv A outer s H vs Q E hr h => ?_)
  · obtain ⟨S, p, l, d, x, rfl, _⟩ := h; rfl
  · obtain ⟨S, p, l, d, x, rfl, R, hS, hx, q, e⟩ := h
    obtain ⟨⟨dx, h1⟩, hl, kvs, hd, hm⟩ := id R
    refine ⟨_, (pss_cons (ps_expr (Sm.pe_mth m_need_thing (hr.mono (by decide)) (passes_call (takes_of rfl rfl rfl rfl) (fun _ _ _ _ z => z)) (pv 0) (pa_cons (pv 1) pa_nil)))
      (pss_cons (ps_expr (pe_bm PySem.F.plainAttrs_list PySem.F.slot_list_remove PySem.F.type_list_remove mt_remove (pe_fld (pv 0) rfl) (pa_cons (pv 1) pa_nil)))
      (pss_one (ps_expr (pe_dpop1 (pe_fld (pv 0) rfl) (pv 1) ⟨rfl, rfl, rfl, rfl⟩))))), ?_⟩
    refine ⟨_, rfl, p, dx, _, rfl, h1, fl_no (by decide +kernel) (by decide +kernel) (by decide +kernel) (by decide +kernel) (by decide +kernel), _, rfl, S, p, l, d, x, rfl, R, hS, hx, fun c => ?_, e⟩
    cases x with
    | int i =>
      have hi : i ∈ S.line := of_decide_eq_true c
      obtain ⟨j, j1, j2, j3, j4⟩ := first_at hi
      have npl := R.pl
      have npd := R.pd
      have nld := R.ld
      refine ⟨_, rfl, p, CR, dx, _, _, rfl, h1, TC.cl, TC.na_line, fl_line, .inl ⟨rfl, _, SqL.of hl⟩, _, rfl, l, S.line, i, j, rfl, rfl, hl, j1, j2, ?_⟩
      refine ⟨_, rfl, p, CR, dx, _, _, rfl, (by rw [upd_ne npl]; exact h1), TC.cl, TC.na_marks, fl_marks, d, rfl, .inl ⟨_, .inl (by rw [upd_ne nld.symm]; exact hd)⟩, _, rfl, kvs, .inl i, _, (by rw [upd_ne nld.symm]; exact hd), rfl, hm.get hi, ?_⟩
      rw [j3]
      refine q i rfl hi _ ⟨⟨dx, ?_⟩, ?_, dropK kvs (.inl i), upd_same, hm.drop hS.nd hi⟩ fun b o hb h1 h2 h3 => ?_
      · rw [upd_ne npd, upd_ne npl]; exact h1
      · rw [upd_ne nld, upd_same]; rfl
      · rw [upd_ne h3, upd_ne h2]; exact hb
    | _ => exact absurd c (by simp [inLine])
theorem ok_put (F : ∀ (N ps : List Str) (k : Nat) (sp : Sp), FnScope N ps (defScope s_Row_put) → (∀ vs H Q E, sp vs H Q E → vs.length = ps.length) →
      (∀ (cdv : Value) (A : Around) (outer : List Env) (s : Shared) (H : Hp) (vs : List V) (Q : VK) (E : XK), Room k (A.deeper (envOfC "Row.put" (defScope s_Row_put) s.heap.objs.size f cdv)) → sp vs H Q E →
        ∃ t, PSs (cxOf (L2.CX P w) P w K mg base N "Row.put" (defScope s_Row_put) f cdv A outer s H E) (defBody s_Row_put) t ∧ t { nx := fun _ H' => Q .non H', rt := Q } (L2.start N vs) H) → FnOk P w K mg base (L2.CX P w) (k + 1) f fd ps sp)
    (T : Txt K mg CB CN CT CF CS) (TC : ClsT K CR) (m_need_thing : Mth P w K mg base 2 CR "need_thing" [] (spThing K CR CN)) (m_room_at : Mth P w K mg base 1 CR "room_at" [] (spRoom CR)) (m_stretch_for : Mth P w K mg base 4 CR "stretch_for" [] (spStretch CR CF))
    (m_spread_on : Mth P w K mg base 4 CR "spread_on" [] (spSpreadOn CR)) : FnOk P w K mg base (L2.CX P w) 5 f fd ["self", "one"] (spPut K CR CN CT CF) := by
  refine F _ _ 4 _ sc_Row_put (fun vs H Q E h => ?_) (fun cdv A outer s H vs Q E hr h => ?_)
  · obtain ⟨S, p, l, d, x, rfl, _⟩ := h; rfl
  · obtain ⟨S, p, l, d, x, rfl, R, hS, hx, q, e1, e2⟩ := h
    obtain ⟨⟨dx, h1⟩, hl, kvs, hd, hm⟩ := id R
    refine ⟨_, (Evl.pss_cut (ps_if (pt_cmpR op_notN (pv 1) pe_non (nomark _))
        (pss_one (ps_expr (Sm.pe_mth m_need_thing (hr.mono (by decide)) (passes_call (takes_of rfl rfl rfl rfl) (fun _ _ _ _ z => z)) (pv 0) (pa_cons (pv 1) pa_nil))))
        pss_nil)
      (pss_cons (ps_if (pt_cmpR op_eq (pe_callB call_len_seq (by rfl) T.n_len PySem.boot_len (pa_cons (pe_fld (pv 0) rfl) pa_nil)) (Sm.pe_const T.g_MOST_THINGS) (nomark _))
        (pss_one (ps_raise rfl (takes_of rfl rfl rfl rfl) (Sm.pmk T.x_TooMany)))
        pss_nil)
      (pss_cons (ps_set (i := 2) sc_Row_put.nd rfl (by first | exact Or.inl rfl | exact Or.inr rfl) pe_int)
      (Evl.pss_cut (ps_if (pt_cmpR op_notN (pv 1) pe_non (nomark _))
        (pss_one (ps_set (i := 2) sc_Row_put.nd rfl (by first | exact Or.inl rfl | exact Or.inr rfl) (pe_op op_add (pe_bm PySem.F.plainAttrs_list PySem.F.slot_list_index PySem.F.type_list_index mt_index (pe_fld (pv 0) rfl) (pa_cons (pv 1) pa_nil)) pe_int)))
        pss_nil)
      (pss_cons (ps_asg (Sm.pe_mth m_room_at (hr.mono (by decide)) (passes_call (takes_of rfl rfl rfl rfl) (fun _ _ _ _ z => z)) (pv 0) (pa_cons (pv 2) pa_nil)) (pg_tup rfl (pgs_cons (pg_name (i := 3) sc_Row_put.nd rfl (by first | exact Or.inl rfl | exact Or.inr rfl)) (pgs_cons (pg_name (i := 4) sc_Row_put.nd rfl (by first | exact Or.inl rfl | exact Or.inr rfl)) pgs_nil))))
      (pss_cons (ps_set (i := 5) sc_Row_put.nd rfl (by first | exact Or.inl rfl | exact Or.inr rfl) pe_non)
      (pss_cons (ps_set (i := 6) sc_Row_put.nd rfl (by first | exact Or.inl rfl | exact Or.inr rfl) (pe_lst pa_nil))
      (Evl.pss_cut (ps_if (pt_cmpR op_lt (pe_op op_sub (pv 4) (pv 3)) pe_int (nomark _))
        (pss_one (ps_set (i := 5) sc_Row_put.nd rfl (by first | exact Or.inl rfl | exact Or.inr rfl) (Sm.pe_mth m_stretch_for (hr.mono (by decide)) (passes_call (takes_of rfl rfl rfl rfl) (fun _ _ _ _ z => z)) (pv 0) (pa_cons (pe_callB (call_max2 rfl) (by rfl) T.n_max (by decide +kernel) (pa_cons (pv 3) (pa_cons pe_int pa_nil))) pa_nil))))
        pss_nil)
      (pss_cons (ps_set (i := 7) sc_Row_put.nd rfl (by first | exact Or.inl rfl | exact Or.inr rfl) (pe_fld (pv 0) rfl))
      (pss_cons (ps_fld (pv 0) (pe_op op_add (pe_fld (pv 0) rfl) pe_int) rfl)
      (pss_cons (ps_expr (pe_bm PySem.F.plainAttrs_list PySem.F.slot_list_insert PySem.F.type_list_insert mt_insert (pe_fld (pv 0) rfl) (pa_cons (pv 2) (pa_cons (pv 7) pa_nil))))
      (Evl.pss_cut (ps_if (pt_cmpR op_isN (pv 5) pe_non (nomark _))
        (pss_one (ps_dput (hu_of hr) (pe_fld (pv 0) rfl) (pv 7) (pe_op op_fdiv (pe_op op_add (pv 3) (pv 4)) pe_int) rfl))
        (pss_one (ps_set (i := 6) sc_Row_put.nd rfl (by first | exact Or.inl rfl | exact Or.inr rfl) (Sm.pe_mth m_spread_on (hr.mono (by decide)) (passes_call (takes_of rfl rfl rfl rfl) (fun _ _ _ _ z => z)) (pv 0) (pa_cons (pv 5) (pa_cons (pv 7) pa_nil))))))
      (pss_cons (ps_fld (pv 0) (pe_op op_sub (pe_op op_add (pe_fld (pv 0) rfl) (pe_op op_mul (Sm.pe_const T.g_PAID) (pe_fld (pv 0) rfl))) (pe_callB call_len_seq (by rfl) T.n_len PySem.boot_len (pa_cons (pv 6) pa_nil))) rfl)
      (pss_one (ps_ret (pe_tup (pa_cons (pv 7) (pa_cons (pv 5) (pa_cons (pv 6) pa_nil))))))))))))))))))), ?_⟩
    have no : ∀ m : Str, (m == ("wide" : Str)) = false → (m == ("line" : Str)) = false → (m == ("marks" : Str)) = false → (m == ("told" : Str)) = false → (m == ("coins" : Str)) = false → (flds S.w l d S.told S.coins).lookup m = none := fun m => fl_no
    -- if one is not None: self.need_thing(one)
    refine ⟨fun σ H' => σ = [some (.ref p), some x, none, none, none, none, none, none] ∧ H' = H ∧ goodX x S.line = true, ?_, ?_⟩
    · refine ⟨_, rfl, rfl, _, rfl, ?_⟩
      by_cases c : x = .non
      · exact ifNF c ⟨rfl, rfl, by unfold goodX; rw [decide_eq_true c]; rfl⟩
      · refine ifNT c ?_
        have hg : goodX x S.line = inLine x S.line := by unfold goodX; rw [decide_eq_false c]; rfl
        exact ⟨_, rfl, p, dx, _, rfl, h1, no _ (by decide +kernel) (by decide +kernel) (by decide +kernel) (by decide +kernel) (by decide +kernel), _, rfl, S, p, l, d, x, rfl, R, hS, hx, fun z => ⟨rfl, rfl, hg.trans z⟩, fun z => e1 (hg.trans z)⟩
    rintro σ H' ⟨rfl, rfl, hg⟩
    have ha := at_le hg
    -- if len(self.line) == MOST_THINGS
    refine ⟨_, rfl, p, CR, dx, _, _, rfl, h1, TC.cl, TC.na_line, fl_line, l, _, rfl, .inl (SqL.of hl), rfl, _, rfl, ?_⟩
    rw [List.length_map]
    refine ite2 (fun c => e2 hg ?_) (fun c => ?_)
    · have := V.int.inj (of_decide_eq_true c); omega
    have hlt : S.line.length < 200 := by
      have := hS.len
      have : ¬ S.line.length = 200 := fun z => c (decide_eq_true (congrArg V.int (by omega)))
      omega
    obtain ⟨q1, q2⟩ := q hg hlt
    -- at
    refine ⟨fun σ H1 => σ = [some (.ref p), some x, some (.int (atOf S.line x)), none, none, none, none, none] ∧ H1 = H', ?_, ?_⟩
    · refine ⟨_, rfl, rfl, _, rfl, ?_⟩
      by_cases c : x = .non
      · subst c
        exact ifNF rfl ⟨rfl, rfl⟩
      · refine ifNT c ?_
        cases x with
        | int i =>
          have hi : i ∈ S.line := by
            have h : (decide (V.int i = .non) || decide (i ∈ S.line)) = true := hg
            rw [decide_eq_false (by intro z; cases z), Bool.false_or] at h
            exact of_decide_eq_true h
          obtain ⟨j, j1, j2, j3, j4⟩ := first_at hi
          refine ⟨_, rfl, p, CR, dx, _, _, rfl, h1, TC.cl, TC.na_line, fl_line, .inl ⟨rfl, _, SqL.of hl⟩, _, rfl, l, _, .int i, j, .int i, rfl, rfl, SqL.of hl, rfl, all_flat _, ?_, ?_, fun k z' hk hz => ?_, _, _, rfl, rfl, ?_, rfl⟩
          · rw [List.getElem?_map, j1]; rfl
          · exact beq_self_eq_true i
          · obtain ⟨z, rfl, hz1, _, _⟩ := getI hz
            have : z ≠ i := fun e => j2 k hk (e ▸ hz1)
            show (z == i) = false
            simpa using this
          · show [some (V.ref p), some (V.int i), some (V.int ((j : Int) + 1)), none, none, none, none, none] = _
            rw [show atOf S.line (.int i) = j + 1 by show S.line.idxOf i + 1 = _; rw [j4]]; rfl
        | _ => simp [goodX, inLine] at hg <;> exact absurd rfl c
    rintro σ H1 ⟨rfl, rfl⟩
    generalize hat : atOf S.line x = a at ha q1 q2
    -- low, high = self.room_at(at); stretch = None; changed = []
    refine ⟨_, rfl, p, dx, _, rfl, h1, no _ (by decide +kernel) (by decide +kernel) (by decide +kernel) (by decide +kernel) (by decide +kernel), _, rfl, S, p, l, d, a, rfl, R, hS, ha, fun t0 H2 ht0 s1 t1 => ?_⟩
    refine ⟨t0, _, rfl, SqT.of t1, rfl, _, _, rfl, _, _, rfl, rfl, ?_⟩
    refine ⟨(by show 0 ≤ sizeLine; decide), fun cl hcl => ?_⟩
    have s2 : Same H1 (upd H2 cl (.lst [])) := s1.trans (upd_new hcl)
    have hcl0 : H1 cl = none := s1.free hcl
    have c2 : (upd H2 cl (.lst [])) cl = some (.lst []) := upd_same
    generalize upd H2 cl (.lst []) = H3 at s2 c2
    have R3 := R.same s2
    have b0 := mk0_bd hS ha
    -- if high - low < 2
    refine ⟨fun σ H' => ∃ (v5 : V) (sv : Option (Nat × Int)), σ = [some (.ref p), some x, some (.int a), some (.int (lowAt S a)), some (.int (highAt S a)), some v5, some (.ref cl), none] ∧ Same H1 H' ∧ H' cl = some (.lst []) ∧ StV H' v5 sv ∧
      ((2 ≤ highAt S a - lowAt S a ∧ sv = none) ∨ (highAt S a - lowAt S a < 2 ∧ ∃ lv, IsLv S (mk0 (lowAt S a)) lv ∧ sv = some (lv, startOf lv (mk0 (lowAt S a))))), ?_, ?_⟩
    · refine ⟨_, rfl, _, rfl, _, _, rfl, rfl, _, _, rfl, rfl, _, rfl, ?_⟩
      by_cases c0 : highAt S a - lowAt S a < 2
      · refine ifT c0 ?_
        obtain ⟨⟨dx3, g1⟩, _⟩ := id R3
        refine ⟨_, rfl, p, dx3, _, rfl, g1, no _ (by decide +kernel) (by decide +kernel) (by decide +kernel) (by decide +kernel) (by decide +kernel), _, rfl, _, _, rfl, S, p, l, d, mk0 (lowAt S a), rfl, R3, hS, b0.1, b0.2, fun lv hlv t H4 ht s4 t4 => ?_, fun hno H4 s4 => q2 ⟨c0, hno⟩ H4 (s2.trans s4)⟩
        exact ⟨.ref t, some (lv, startOf lv (mk0 (lowAt S a))), rfl, s2.trans s4, s4 _ _ c2, ⟨t, rfl, t4⟩, .inr ⟨c0, lv, hlv, rfl⟩⟩
      · exact ifF c0 ⟨.non, none, rfl, s2, c2, rfl, .inl ⟨by omega, rfl⟩⟩
    rintro σ H4 ⟨v5, sv, rfl, s4, c4, hv5, hcase⟩
    obtain ⟨⟨dx4, g1⟩, gl, kvs4, gd, gm⟩ := id (R.same s4)
    have npl := R.pl
    have npd := R.pd
    have nld := R.ld
    have np : p ≠ cl := ne_of_none h1 hcl0
    have nl : l ≠ cl := ne_of_none hl hcl0
    have nd : d ≠ cl := ne_of_none hd hcl0
    -- number; self.told; self.line.insert
    refine ⟨_, rfl, p, CR, dx4, _, _, rfl, g1, TC.cl, TC.na_told, fl_told, _, rfl, p, CR, dx4, _, _, rfl, g1, TC.cl, TC.na_told, fl_told, _, _, rfl, rfl, _, rfl, p, CR, dx4, _, rfl, g1, TC.cl, TC.na_told, (by show 5 < 1000; decide), ?_⟩
    rw [pf_told]
    have k1 : (upd H4 p (.ins CR dx4 (flds S.w l d (S.told + 1) S.coins))) p = some (.ins CR dx4 (flds S.w l d (S.told + 1) S.coins)) := upd_same
    have k2 : (upd H4 p (.ins CR dx4 (flds S.w l d (S.told + 1) S.coins))) l = some (.lst (S.line.map V.int)) := by rw [upd_ne npl.symm]; exact gl
    refine ⟨_, rfl, p, CR, dx4, _, _, rfl, k1, TC.cl, TC.na_line, fl_line, .inl ⟨rfl, _, SqL.of k2⟩, _, rfl, _, rfl, l, _, _, _, rfl, rfl, k2, small1000 (by rw [List.length_map]; omega), by omega, by omega, ?_⟩
    have hins : (S.line.map V.int).take ((a : Int)).toNat ++ [V.int S.told] ++ (S.line.map V.int).drop ((a : Int)).toNat = (insAt S.line a S.told).map V.int := by
      unfold insAt
      rw [Int.toNat_natCast, List.map_append, List.map_append, List.map_take, List.map_drop]; rfl
    rw [hins]
    have m1 : (upd (upd H4 p (.ins CR dx4 (flds S.w l d (S.told + 1) S.coins))) l (.lst ((insAt S.line a S.told).map V.int))) p = some (.ins CR dx4 (flds S.w l d (S.told + 1) S.coins)) := by rw [upd_ne npl]; exact k1
    have m2 : (upd (upd H4 p (.ins CR dx4 (flds S.w l d (S.told + 1) S.coins))) l (.lst ((insAt S.line a S.told).map V.int))) l = some (.lst ((insAt S.line a S.told).map V.int)) := upd_same
    have m3 : (upd (upd H4 p (.ins CR dx4 (flds S.w l d (S.told + 1) S.coins))) l (.lst ((insAt S.line a S.told).map V.int))) d = some (.dK kvs4) := by rw [upd_ne nld.symm, upd_ne npd.symm]; exact gd
    have m4 : (upd (upd H4 p (.ins CR dx4 (flds S.w l d (S.told + 1) S.coins))) l (.lst ((insAt S.line a S.told).map V.int))) cl = some (.lst []) := by rw [upd_ne nl.symm, upd_ne np.symm]; exact c4
    have m5 : RFr p l d H1 (upd (upd H4 p (.ins CR dx4 (flds S.w l d (S.told + 1) S.coins))) l (.lst ((insAt S.line a S.told).map V.int))) := fun b o hb n1 n2 n3 => by rw [upd_ne n2, upd_ne n1]; exact s4 b o hb
    have m6 : StV (upd (upd H4 p (.ins CR dx4 (flds S.w l d (S.told + 1) S.coins))) l (.lst ((insAt S.line a S.told).map V.int))) v5 sv := hv5.mono fun b y z hb => by
      rw [upd_ne (ne_of hb gl (by intro z; cases z)), upd_ne (ne_of hb g1 (by intro z; cases z))]; exact hb
    generalize upd (upd H4 p (.ins CR dx4 (flds S.w l d (S.told + 1) S.coins))) l (.lst ((insAt S.line a S.told).map V.int)) = H5 at m1 m2 m3 m4 m5 m6
    have hnt := not_told hS
    -- if stretch is None
    refine ⟨fun σ H' => ∃ (m' : Int → Int) (ch : List (Int × Int)) (cs : List V) (cl' : Addr) (kv : List (Key × V)), σ = [some (.ref p), some x, some (.int a), some (.int (lowAt S a)), some (.int (highAt S a)), some v5, some (.ref cl'), some (.int S.told)] ∧
      PutM S a m' sv ch ∧ H1 cl' = none ∧ H' cl' = some (.lst cs) ∧ PairsAt H' cs ch ∧ H' p = some (.ins CR dx4 (flds S.w l d (S.told + 1) S.coins)) ∧ H' l = some (.lst ((insAt S.line a S.told).map V.int)) ∧ H' d = some (.dK kv) ∧ Marks kv (insAt S.line a S.told) m' ∧
      RFr p l d H1 H' ∧ StV H' v5 sv, ?_, ?_⟩
    · refine ⟨_, rfl, rfl, _, rfl, ?_⟩
      rcases hcase with ⟨c0, rfl⟩ | ⟨c0, lv, hlv, rfl⟩
      · have ev : v5 = .non := m6
        subst ev
        refine ifT rfl ?_
        refine ⟨_, rfl, _, rfl, _, _, rfl, rfl, _, _, rfl, rfl, ⟨by decide, by decide⟩, _, rfl, p, CR, dx4, _, _, rfl, m1, TC.cl, TC.na_marks, fl_marks, _, rfl, d, _, rfl, DPut.k (k := .inl S.told) m3 (small1000 (by rw [gm.len]; omega)), ?_⟩
        refine ⟨_, [], [], cl, _, rfl, .inl ⟨c0, rfl, rfl, rfl⟩, hcl0, by rw [upd_ne nd.symm]; exact m4, trivial, by rw [upd_ne npd]; exact m1, by rw [upd_ne nld]; exact m2, upd_same, gm.put_new hnt len_ins (fun z => mem_ins),
          fun b o hb n1 n2 n3 => by rw [upd_ne n3]; exact m5 b o hb n1 n2 n3, rfl⟩
      · obtain ⟨tp, rfl, htp⟩ := m6
        refine ifF (by intro z; cases z) ?_
        have hgood : tooMany lv ((cnt S lv (startOf lv (mk0 (lowAt S a))) + 1 : Nat) : Int) = false := by
          have := hlv.2.1
          unfold goodLv at this
          simpa using this
        have hsl := some_len (a := a) (m := S.m) (lv := lv) (st := startOf lv (mk0 (lowAt S a))) hnt
        have sl := startOf_law (l := lv) b0.1
        have slt := start_top hlv.1 b0.1 b0.2
        have s60 := pow_le60 hS.w60
        have plv := pow_pos2 lv
        refine ⟨_, rfl, p, dx4, _, rfl, m1, fl_no (by decide +kernel) (by decide +kernel) (by decide +kernel) (by decide +kernel) (by decide +kernel), _, rfl, _, rfl, p, l, d, dx4, tp, S.w, lv, startOf lv (mk0 (lowAt S a)), S.told, S.told + 1, S.coins, S.line, insAt S.line a S.told, S.m, kvs4,
          rfl, m1, m2, m3, htp, gm, nd_ins hS.nd hnt, len_ins, (fun z => mem_ins), hnt, hS.len, by have := hlv.1; have := hS.w60; omega, sl.2.2.2, by omega, by rw [hsl]; exact room_of hgood, fun cl2 cs H6 kv hc2 k1 k2 k3 k4 k5 => ?_⟩
        refine ⟨_, _, cs, cl2, kv, rfl, .inr ⟨c0, lv, hlv, rfl, rfl, rfl⟩, ?_, k1, k2, k5 _ _ m1 npd, k5 _ _ m2 nld, k3, k4, fun b o hb n1 n2 n3 => k5 _ _ (m5 b o hb n1 n2 n3) n3, ⟨tp, rfl, k5 _ _ htp (ne_of htp m3 (by intro z; cases z))⟩⟩
        cases hh : H1 cl2 with
        | none => rfl
        | some o =>
          by_cases n1 : cl2 = p
          · rw [n1, m1] at hc2; cases hc2
          by_cases n2 : cl2 = l
          · rw [n2, m2] at hc2; cases hc2
          by_cases n3 : cl2 = d
          · rw [n3, m3] at hc2; cases hc2
          have := m5 _ _ hh n1 n2 n3
          rw [hc2] at this; cases this
    rintro σ H6 ⟨m', ch, cs, cl', kv, rfl, hput, hcl', k1, k2, k3, k4, k5, k6, k7, k8⟩
    have np' : p ≠ cl' := ne_of_none h1 hcl'
    -- self.coins; return
    have hcs : cs.length = ch.length := k2.len
    refine ⟨_, rfl, p, CR, dx4, _, _, rfl, k3, TC.cl, TC.na_coins, fl_coins, _, rfl, p, CR, dx4, _, _, rfl, k3, TC.cl, TC.na_wide, fl_wide, _, _, rfl, rfl, .inl ⟨by decide, by decide⟩, _, _, rfl, rfl, _, rfl, cl', _, rfl, .inl (SqL.of k1), _, _, rfl, rfl, _, rfl, p, CR, dx4, _, rfl, k3, TC.cl, TC.na_coins, (by show 5 < 1000; decide), ?_⟩
    rw [pf_coins, hcs]
    refine ⟨_, rfl, _, rfl, _, rfl, (by show 3 ≤ sizeLine; decide), fun t ht => ?_⟩
    have npt : p ≠ t := ne_of_none (o := .ins CR dx4 (flds S.w l d (S.told + 1) (S.coins + 8 * (S.w : Int) - (ch.length : Int)))) upd_same ht
    have same6 : ∀ b o, b ≠ p → H6 b = some o → (upd (upd H6 p (.ins CR dx4 (flds S.w l d (S.told + 1) (S.coins + 8 * (S.w : Int) - (ch.length : Int))))) t (.tup [.int S.told, v5, .ref cl'])) b = some o := fun b o n hb => by
      rw [upd_ne (ne_of_none (by rw [upd_ne n]; exact hb) ht), upd_ne n]; exact hb
    have tupS : ∀ b y z, H6 b = some (.tup [.int y, .int z]) → (upd (upd H6 p (.ins CR dx4 (flds S.w l d (S.told + 1) (S.coins + 8 * (S.w : Int) - (ch.length : Int))))) t (.tup [.int S.told, v5, .ref cl'])) b = some (.tup [.int y, .int z]) := fun b y z hb =>
      same6 b _ (ne_of hb k3 (by intro z; cases z)) hb
    have ht6 : H6 t = none := by rw [upd_ne npt.symm] at ht; exact ht
    have ht1 : H1 t = none := by
      cases hh : H1 t with
      | none => rfl
      | some o =>
        by_cases n2 : t = l
        · rw [n2, k4] at ht6; cases ht6
        by_cases n3 : t = d
        · rw [n3, k5] at ht6; cases ht6
        have := k7 _ _ hh npt.symm n2 n3
        rw [ht6] at this; cases this
    refine q1 m' sv ch hput t cl' v5 cs _ ht1 hcl' (fun z => by rw [z, k1] at ht6; cases ht6) upd_same (k8.mono tupS) (same6 _ _ np'.symm k1) (k2.mono tupS) ⟨⟨dx4, ?_⟩, same6 _ _ npl.symm k4, kv, same6 _ _ npd.symm k5, k6⟩ fun b o hb n1 n2 n3 => same6 b o n1 (k7 b o hb n1 n2 n3)
    rw [upd_ne npt, upd_same]; rfl
end
end Sm

namespace Sm
open PySem PySem.Spec L2 PyProof.Rows
/-! ### the laws' own dict of a row; a drawn place -/
theorem key_ln : ¬ (("line" : Str) = "next") := by decide +kernel
def mK (l : Addr) (n : Int) : List (Key × V) := [(.inr "line", .ref l), (.inr "next", .int n)]
theorem mK_line {l : Addr} {n : Int} : valV (mK l n) (.inr "line") = some (.ref l) := val1
theorem mK_next {l : Addr} {n : Int} : valV (mK l n) (.inr "next") = some (.int n) := (val2 key_ln).trans val1
theorem mK_put {l : Addr} {n j : Int} : putK (mK l n) (.inr "next") (.int j) = mK l j := by
  unfold mK
  rw [put_neg (fun z => key_ln (Sum.inr.inj z)), put_pos]; rfl
theorem merge_m {l : Addr} {n : Int} : mergeK [] (mK l n) = mK l n := by
  show putK (putK ([] : List (Key × V)) (Sum.inr "line" : Key) (V.ref l)) (Sum.inr "next" : Key) (V.int n) = _
  rw [putK_new _ valV_nil, List.nil_append, put_neg (fun z => key_ln (Sum.inr.inj z)), putK_new _ valV_nil]; rfl
theorem inV_int {n : Int} {ns : List Int} : inV (.int n) (ns.map V.int) = decide (n ∈ ns) := by
  unfold inV
  rw [List.any_map]
  induction ns with
  | nil => simp
  | cons a r ih =>
    rw [List.any_cons, ih]
    show ((a == n) || _) = _
    by_cases e : a = n
    · subst e; simp
    · have : (a == n) = false := by simpa using e
      rw [this]; simp [Ne.symm e]
/-- None, or a thing of the line -/
def spPlace (K : PySem.W.Frag) : Sp := fun vs H Q _ => ∃ (st a mm ll : Addr) (ns line : List Int) (k n : Int) (kv : List (Key × V)), vs = [.ref st, .ref mm] ∧ H st = some (.dK (stK a k)) ∧ SqL K H a (ns.map V.int) ∧ ns.length ≤ 100 ∧ 0 ≤ k ∧ k ≤ 1000000 ∧
  mm ≠ st ∧ H mm = some (.dK kv) ∧ valV kv (.inr "line") = some (.ref ll) ∧ valV kv (.inr "next") = some (.int n) ∧ H ll = some (.lst (line.map V.int)) ∧ line.length ≤ 1000 ∧
  ∀ (v : V) (H' : Hp), goodX v line = true → H' st = some (.dK (stK a (k + 1))) → Fr1 st H H' → Q v H'
theorem good_non {line : List Int} : goodX .non line = true := rfl
theorem good_mem {line : List Int} {x : Int} (h : x ∈ line) : goodX (.int x) line = true := by
  show (decide (V.int x = .non) || decide (x ∈ line)) = true
  rw [decide_eq_true h, Bool.or_true]
theorem good_cases {line : List Int} {v : V} (h : goodX v line = true) : v = .non ∨ ∃ x, v = .int x ∧ x ∈ line := by
  cases v with
  | int x =>
    have h : (decide (V.int x = .non) || decide (x ∈ line)) = true := h
    rw [decide_eq_false (by intro z; cases z), Bool.false_or] at h
    exact .inr ⟨x, rfl, of_decide_eq_true h⟩
  | non => exact .inl rfl
  | _ => simp [goodX, inLine] at h
theorem at_mod {line : List Int} {z : Int} (hz : 0 < line.length) : ∃ x, x ∈ line ∧ atI (line.map V.int) (z % (line.length : Int)) = some (.int x) := by
  have h0 : 0 ≤ z % (line.length : Int) := Int.emod_nonneg _ (by omega)
  have h1 : z % (line.length : Int) < line.length := Int.emod_lt_of_pos _ (by omega)
  obtain ⟨j, hj⟩ : ∃ j : Nat, z % (line.length : Int) = j := ⟨_, (Int.toNat_of_nonneg h0).symm⟩
  have hjl : j < line.length := by omega
  exact ⟨line[j], List.getElem_mem hjl, by rw [hj]; exact atI_nat (by rw [List.getElem?_map, List.getElem?_eq_getElem hjl]; rfl)⟩
section
variable {P : Program} {w : World} {K : PySem.W.Frag} {mg : Str → Option Value} {base : Heap} {CB CN CT CF CS CR : Addr} {f : Addr} {fd : FuncData}
theorem ok_l_place (F : Fun K "_law_place" "_law_place" s_l_place f fd) (T : Txt K mg CB CN CT CF CS) (d__law_next : Dfn P w K mg base 1 "_law_next" [] (spNext K)) : FnOk P w K mg base (L2.CX P w) 2 f fd ["_law_state", "_law_m"] (spPlace K) := by
  refine F.okX sc_l_place (fun vs H Q E h => ?_) (fun cdv A outer s H vs Q E hr h => ?_)
  · obtain ⟨st, a, mm, ll, ns, line, k, n, kv, rfl, _⟩ := h; rfl
  · obtain ⟨st, a, mm, ll, ns, line, k, n, kv, rfl, hs, hx, hl, hk0, hk1, hms, hm, e1, e2, hll, hlen, q⟩ := h
    refine ⟨_, (pss_cons (ps_set (i := 2) sc_l_place.nd rfl (by first | exact Or.inl rfl | exact Or.inr rfl) (pe_op op_fdiv (Sm.pe_def d__law_next (hr.mono (by decide)) passL (pa_cons (pv 0) pa_nil)) pe_int))
      (pss_cons (ps_set (i := 3) sc_l_place.nd rfl (by first | exact Or.inl rfl | exact Or.inr rfl) (pe_dget (hu_of hr) (pv 1) pe_str (fun _ _ => rfl)))
      (pss_cons (ps_if (PW.pt (pw_or (pt_cmpR (op_eqD hr.units) (pv 3) (pe_lst pa_nil) (nomark _)) (pw_or1 (pt_cmpR op_eq (pe_op op_mod (pv 2) pe_int) pe_int (nomark _)))))
        (pss_one (ps_ret pe_non))
        pss_nil)
      (pss_cons (ps_if (pt_cmpR op_lt (pe_op op_mod (pv 2) pe_int) pe_int (nomark _))
        (pss_one (ps_ret (pe_ix ix_list (pv 3) pe_int (fun _ _ => rfl))))
        pss_nil)
      (pss_cons (ps_if (PW.pt (pw_and (pt_cmpR op_lt (pe_op op_mod (pv 2) pe_int) pe_int (nomark _)) (pw_and1 (pt_cmpR op_in_seq (pe_op op_sub (pe_dget (hu_of hr) (pv 1) pe_str (fun _ _ => rfl)) pe_int) (pv 3) rfl))))
        (pss_one (ps_ret (pe_op op_sub (pe_dget (hu_of hr) (pv 1) pe_str (fun _ _ => rfl)) pe_int)))
        pss_nil)
      (pss_one (ps_ret (pe_ix ix_list (pv 3) (pe_op op_mod (pe_op op_fdiv (pv 2) pe_int) (pe_callB call_len_seq (by rfl) T.n_len PySem.boot_len (pa_cons (pv 3) pa_nil))) (fun _ _ => rfl))))))))), ?_⟩
    refine ⟨_, rfl, st, a, ns, k, rfl, hs, hx, hl, hk0, hk1, fun z H1 hz0 hz1 hs1 f1 => ?_⟩
    have hm1 : H1 mm = some (.dK kv) := f1 _ _ hm hms
    have hl1 : H1 ll = some (.lst (line.map V.int)) := f1 _ _ hll (ne_of hll hs (by intro z; cases z))
    refine ⟨_, _, rfl, rfl, ⟨by decide, by decide⟩, _, rfl, mm, _, rfl, dget_of (k := .inr "line") hm1 e1, ?_⟩
    refine ⟨_, rfl, (by show 0 ≤ sizeLine; decide), fun p hp => ⟨_, _, dp_ints (SqL.of (upd_new hp _ _ hl1)), dp_ints (ns := []) (SqL.of upd_same), sh_ints _, sh_ints _, _, rfl, ?_⟩⟩
    have s2 : Same H1 (upd H1 p (.lst [])) := upd_new hp
    rw [eqv_ints]
    generalize upd H1 p (.lst []) = H2 at s2
    have fin : ∀ v, goodX v line = true → Q v H2 := fun v hv => q v H2 hv (s2 _ _ hs1) (f1.same s2)
    refine ite2 (fun c => iteT (fin _ good_non)) (fun c => ?_)
    have hne : line ≠ [] := fun e => c (decide_eq_true e)
    have hpos : 0 < line.length := List.length_pos_iff.mpr hne
    have hl2 := s2 _ _ hl1
    have hm2 := s2 _ _ hm1
    refine ⟨_, rfl, _, _, rfl, rfl, (show (0 : Int) < 9 by decide), rfl, _, rfl, ?_⟩
    refine ite2 (fun _ => fin _ good_non) (fun _ => ?_)
    refine ⟨_, rfl, _, _, rfl, rfl, (show (0 : Int) < 9 by decide), _, _, rfl, rfl, _, rfl, ?_⟩
    have hp0 : line[0]? = some line[0] := List.getElem?_eq_getElem hpos
    refine ite2 (fun _ => ?_) (fun _ => ?_)
    · exact ⟨_, rfl, ll, _, _, .int line[0], rfl, rfl, SqL.of hl2, atI_nat (j := 0) (by rw [List.getElem?_map, hp0]; rfl), fin _ (good_mem (List.getElem_mem hpos))⟩
    refine ⟨_, rfl, _, _, rfl, rfl, (show (0 : Int) < 9 by decide), _, _, rfl, rfl, _, rfl, ?_⟩
    have last : ∃ x, x ∈ line ∧ atI (line.map V.int) (z / 3 / 9 % (line.length : Int)) = some (.int x) := at_mod hpos
    obtain ⟨x, hx1, hx2⟩ := last
    have lst : ∃ i j, V.int (z / 3 / 9) = .int i ∧ V.int ((line.map V.int).length : Int) = .int j ∧ 0 < j ∧ V.int (i % j) = V.int (z / 3 / 9 % (line.length : Int)) := ⟨_, _, rfl, rfl, by rw [List.length_map]; omega, by rw [List.length_map]⟩
    refine ite2 (fun _ => ?_) (fun _ => iteF ?_)
    · refine ⟨_, rfl, mm, _, rfl, dget_of (k := .inr "next") hm2 e2, _, _, rfl, rfl, _, rfl, ll, _, rfl, .inl (SqL.of hl2), rfl, all_flat _, _, rfl, ?_⟩
      refine ifB (fun c2 => ?_) (fun _ => ?_)
      · have hin : n - 1 ∈ line := by
          have c2 : inV (.int (n - 1)) (line.map V.int) = true := c2
          rw [inV_int] at c2
          exact of_decide_eq_true c2
        exact ⟨_, rfl, mm, _, rfl, dget_of (k := .inr "next") hm2 e2, _, _, rfl, rfl, fin _ (good_mem hin)⟩
      · exact ⟨_, rfl, _, rfl, _, _, rfl, rfl, ⟨by decide, by decide⟩, _, rfl, ll, _, rfl, .inl (SqL.of hl2), _, _, rfl, rfl, (by show (0 : Int) < ((line.map V.int).length : Int); rw [List.length_map]; omega), ll, _, _, .int x, rfl, rfl, SqL.of hl2, (by rw [List.length_map]; exact hx2), fin _ (good_mem hx1)⟩
    · exact ⟨_, rfl, _, rfl, _, _, rfl, rfl, ⟨by decide, by decide⟩, _, rfl, ll, _, rfl, .inl (SqL.of hl2), _, _, rfl, rfl, (by show (0 : Int) < ((line.map V.int).length : Int); rw [List.length_map]; omega), ll, _, _, .int x, rfl, rfl, SqL.of hl2, (by rw [List.length_map]; exact hx2), fin _ (good_mem hx1)⟩
end
/-! ### a wide row is never full -/
theorem wide_room {w : Nat} (hw : 20 ≤ w) {n : Int} (hn : n ≤ 300) : tooMany w n = false := by
  refine decide_eq_false ?_
  obtain ⟨k, rfl⟩ : ∃ k, w = 20 + k := ⟨w - 20, by omega⟩
  rw [Int.pow_add, Int.pow_add]
  have h1 : n * (3 : Int) ^ 20 ≤ 4 ^ 20 := by
    have e : (300 : Int) * 3 ^ 20 ≤ 4 ^ 20 := by decide
    have h : n * (3 : Int) ^ 20 ≤ 300 * 3 ^ 20 := Int.mul_le_mul_of_nonneg_right hn (by decide)
    omega
  have h2 : (3 : Int) ^ k ≤ 4 ^ k := by exact_mod_cast Nat.pow_le_pow_left (by decide : 3 ≤ 4) k
  have h3 : (0 : Int) ≤ 3 ^ k := by exact_mod_cast Nat.zero_le (3 ^ k)
  have h4 : n * (3 : Int) ^ 20 * 3 ^ k ≤ 4 ^ 20 * 4 ^ k := Int.le_trans (Int.mul_le_mul_of_nonneg_right h1 h3) (Int.mul_le_mul_of_nonneg_left h2 (by decide))
  rw [← Int.mul_assoc]
  omega
theorem cnt_le (S : RS) (lv : Nat) (st : Int) : cnt S lv st ≤ S.line.length := List.length_filter_le _ _
theorem wide_lv {S : RS} {mk : Int} (hw : 20 ≤ S.w) (hl : S.line.length < 200) (h : NoLv S mk) : False := by
  have := h S.w (Nat.le_refl _)
  unfold goodLv at this
  rw [wide_room hw (by have := cnt_le S S.w (startOf S.w mk); omega)] at this
  cases this
end Sm

namespace Sm
open PySem PySem.Spec L2 PyProof.Rows
section
variable {w : Nat} {l d : Addr} {t c : Int}
theorem no_things : (flds w l d t c).lookup ("things" : Str) = none := fl_no (by decide +kernel) (by decide +kernel) (by decide +kernel) (by decide +kernel) (by decide +kernel)
theorem no_take : (flds w l d t c).lookup ("take" : Str) = none := fl_no (by decide +kernel) (by decide +kernel) (by decide +kernel) (by decide +kernel) (by decide +kernel)
theorem no_put : (flds w l d t c).lookup ("put" : Str) = none := fl_no (by decide +kernel) (by decide +kernel) (by decide +kernel) (by decide +kernel) (by decide +kernel)
theorem no_mark : (flds w l d t c).lookup ("mark" : Str) = none := fl_no (by decide +kernel) (by decide +kernel) (by decide +kernel) (by decide +kernel) (by decide +kernel)
theorem no_is_ahead : (flds w l d t c).lookup ("is_ahead" : Str) = none := fl_no (by decide +kernel) (by decide +kernel) (by decide +kernel) (by decide +kernel) (by decide +kernel)
theorem no_purse : (flds w l d t c).lookup ("purse" : Str) = none := fl_no (by decide +kernel) (by decide +kernel) (by decide +kernel) (by decide +kernel) (by decide +kernel)
end
theorem ch_len {S : RS} {a : Nat} {m' : Int → Int} {sv : Option (Nat × Int)} {ch : List (Int × Int)} (h : PutM S a m' sv ch) : ch.length ≤ S.line.length + 1 := by
  rcases h with ⟨_, _, _, rfl⟩ | ⟨_, lv, _, _, _, rfl⟩
  · exact Nat.zero_le _
  · unfold chgOf pairsOf
    refine Nat.le_trans (List.length_filter_le _ _) ?_
    rw [List.length_zip, marks_len, Nat.min_self]
    exact Nat.le_trans (List.length_filter_le _ _) (by rw [len_ins]; exact Nat.le_refl _)
theorem ins_map {line : List Int} {a : Nat} {n : Int} : (line.map V.int).take a ++ [V.int n] ++ (line.map V.int).drop a = (insAt line a n).map V.int := by
  unfold insAt
  rw [List.map_append, List.map_append, List.map_take, List.map_drop]; rfl
/-! ### what stands while a law runs: its numbers, the row, its own line -/
/-- the script: read for ever, or tracked apart from what is written -/
def Scr (K : PySem.W.Frag) (H : Hp) (a : Addr) (xs : List V) (bad : List Addr) : Prop := (∀ H' : Hp, SqL K H' a xs) ∨ (Rd H a (.lst xs) ∧ ¬ a ∈ bad)
section
variable {K : PySem.W.Frag} {H H' : Hp} {a : Addr} {xs : List V} {bad : List Addr}
theorem Scr.of (h : SqL K H a xs) : Scr K H a xs [] := by
  rcases h with h | h
  · exact .inr ⟨h, by simp⟩
  · exact .inl fun _ => .inr h
theorem Scr.sq (h : Scr K H a xs bad) : SqL K H a xs := by
  rcases h with h | ⟨h, _⟩
  · exact h H
  · exact .inl h
theorem Scr.keep (h : Scr K H a xs bad) (k : ∀ o, H a = some o → ¬ a ∈ bad → H' a = some o) : Scr K H' a xs bad := by
  rcases h with h | ⟨h, n⟩
  · exact .inl h
  · refine .inr ⟨?_, n⟩
    rcases h with h | ⟨o, h⟩
    · exact .inl (k _ h n)
    · exact .inr ⟨o, k _ h n⟩
theorem Scr.same (h : Scr K H a xs bad) (s : Same H H') : Scr K H' a xs bad := h.keep fun o e _ => s _ _ e
theorem Scr.sub {bad' : List Addr} (h : Scr K H a xs bad) (s : ∀ x ∈ bad', x ∈ bad) : Scr K H a xs bad' := by
  rcases h with h | ⟨h, n⟩
  · exact .inl h
  · exact .inr ⟨h, fun z => n (s _ z)⟩
theorem Scr.add {p : Addr} (h : Scr K H a xs bad) (hp : H p = none) : Scr K H a xs (p :: bad) := by
  rcases h with h | ⟨h, n⟩
  · exact .inl h
  · refine .inr ⟨h, fun z => ?_⟩
    rcases List.mem_cons.mp z with e | e
    · subst e
      rcases h with h | ⟨o, h⟩ <;> (rw [hp] at h; cases h)
    · exact n e
end
structure LI (K : PySem.W.Frag) (CR a st p l d mm ll : Addr) (scr : List (Addr × List V)) (S : RS) (L : List Int) (n : Int) (k : Int) (H : Hp) : Prop where
  hs : H st = some (.dK (stK a k))
  hx : ∀ q ∈ scr, Scr K H q.1 q.2 [st, p, l, d, mm, ll]
  hk : 0 ≤ k
  R : RowAt CR S p l d H
  ok : Ok S
  hm : H mm = some (.dK (mK ll n))
  hl : H ll = some (.lst (L.map V.int))
  dst : d ≠ st
  dmm : d ≠ mm
  smm : st ≠ mm
  lll : l ≠ ll
section
variable {K : PySem.W.Frag} {CR a st p l d mm ll : Addr} {scr : List (Addr × List V)} {S S' : RS} {L : List Int} {n k : Int} {H H' : Hp}
theorem LI.pst (I : LI K CR a st p l d mm ll scr S L n k H) : p ≠ st := by
  obtain ⟨dx, h⟩ := I.R.ob; exact ne_of h I.hs (by intro z; cases z)
theorem LI.pmm (I : LI K CR a st p l d mm ll scr S L n k H) : p ≠ mm := by
  obtain ⟨dx, h⟩ := I.R.ob; exact ne_of h I.hm (by intro z; cases z)
theorem LI.pll (I : LI K CR a st p l d mm ll scr S L n k H) : p ≠ ll := by
  obtain ⟨dx, h⟩ := I.R.ob; exact ne_of h I.hl (by intro z; cases z)
theorem LI.lst (I : LI K CR a st p l d mm ll scr S L n k H) : l ≠ st := ne_of I.R.ln I.hs (by intro z; cases z)
theorem LI.lmm (I : LI K CR a st p l d mm ll scr S L n k H) : l ≠ mm := ne_of I.R.ln I.hm (by intro z; cases z)
theorem LI.dll (I : LI K CR a st p l d mm ll scr S L n k H) : d ≠ ll := by
  obtain ⟨kv, h, _⟩ := I.R.dc; exact ne_of h I.hl (by intro z; cases z)
theorem LI.stll (I : LI K CR a st p l d mm ll scr S L n k H) : st ≠ ll := ne_of I.hs I.hl (by intro z; cases z)
theorem LI.mmll (I : LI K CR a st p l d mm ll scr S L n k H) : mm ≠ ll := ne_of I.hm I.hl (by intro z; cases z)
theorem LI.same (I : LI K CR a st p l d mm ll scr S L n k H) (s : Same H H') : LI K CR a st p l d mm ll scr S L n k H' :=
  ⟨s _ _ I.hs, fun q hq => (I.hx q hq).same s, I.hk, I.R.same s, I.ok, s _ _ I.hm, s _ _ I.hl, I.dst, I.dmm, I.smm, I.lll⟩
theorem RowAt.keep {S : RS} (R : RowAt CR S p l d H) (hp : ∀ o, H p = some o → H' p = some o) (hl : ∀ o, H l = some o → H' l = some o) (hd : ∀ o, H d = some o → H' d = some o) : RowAt CR S p l d H' := by
  obtain ⟨⟨dx, h1⟩, h2, kvs, h3, hm⟩ := R
  exact ⟨⟨dx, hp _ h1⟩, hl _ h2, kvs, hd _ h3, hm⟩
/-- a number was drawn -/
theorem LI.next {k' : Int} (I : LI K CR a st p l d mm ll scr S L n k H) (hk : 0 ≤ k') (hs : H' st = some (.dK (stK a k'))) (f : Fr1 st H H') : LI K CR a st p l d mm ll scr S L n k' H' :=
  ⟨hs, fun q hq => (I.hx q hq).keep fun o e nb => f _ _ e fun z => nb (by rw [z]; simp), hk, I.R.keep (fun o e => f _ _ e I.pst) (fun o e => f _ _ e I.lst) (fun o e => f _ _ e I.dst), I.ok, f _ _ I.hm I.smm.symm, f _ _ I.hl I.stll.symm, I.dst, I.dmm, I.smm, I.lll⟩
/-- the row was changed -/
theorem LI.row (I : LI K CR a st p l d mm ll scr S L n k H) (R : RowAt CR S' p l d H') (ok : Ok S') (f : RFr p l d H H') : LI K CR a st p l d mm ll scr S' L n k H' :=
  ⟨f _ _ I.hs I.pst.symm I.lst.symm I.dst.symm, fun q hq => (I.hx q hq).keep fun o e nb => f _ _ e (fun z => nb (by rw [z]; simp)) (fun z => nb (by rw [z]; simp)) (fun z => nb (by rw [z]; simp)), I.hk, R, ok,
    f _ _ I.hm I.pmm.symm I.lmm.symm I.dmm.symm, f _ _ I.hl I.pll.symm I.lll.symm I.dll.symm, I.dst, I.dmm, I.smm, I.lll⟩
/-- the law's line was changed -/
theorem LI.line {L' : List Int} (I : LI K CR a st p l d mm ll scr S L n k H) : LI K CR a st p l d mm ll scr S L' n k (upd H ll (.lst (L'.map V.int))) := by
  have f : ∀ b o, b ≠ ll → H b = some o → (upd H ll (.lst (L'.map V.int))) b = some o := fun b o nb h => by rw [upd_ne nb]; exact h
  exact ⟨f _ _ I.stll I.hs, fun q hq => (I.hx q hq).keep fun o e nb => f _ _ (fun z => nb (by rw [z]; simp)) e, I.hk, I.R.keep (fun o e => f _ _ I.pll e) (fun o e => f _ _ I.lll e) (fun o e => f _ _ I.dll e), I.ok, f _ _ I.mmll I.hm, upd_same, I.dst, I.dmm, I.smm, I.lll⟩
/-- the law's own next number -/
theorem LI.told {n' : Int} (I : LI K CR a st p l d mm ll scr S L n k H) : LI K CR a st p l d mm ll scr S L n' k (upd H mm (.dK (mK ll n'))) := by
  have f : ∀ b o, b ≠ mm → H b = some o → (upd H mm (.dK (mK ll n'))) b = some o := fun b o nb h => by rw [upd_ne nb]; exact h
  exact ⟨f _ _ I.smm I.hs, fun q hq => (I.hx q hq).keep fun o e nb => f _ _ (fun z => nb (by rw [z]; simp)) e, I.hk, I.R.keep (fun o e => f _ _ I.pmm e) (fun o e => f _ _ I.lmm e) (fun o e => f _ _ I.dmm e), I.ok, upd_same, f _ _ I.mmll.symm I.hl, I.dst, I.dmm, I.smm, I.lll⟩
/-- a list made by the law, read later -/
theorem LI.addq {q : Addr} {xs : List V} (I : LI K CR a st p l d mm ll scr S L n k H) (hq : H q = none) : LI K CR a st p l d mm ll ((q, xs) :: scr) S L n k (upd H q (.lst xs)) := by
  have J := I.same (upd_new (o := .lst xs) hq)
  refine ⟨J.hs, fun x hx => ?_, J.hk, J.R, J.ok, J.hm, J.hl, J.dst, J.dmm, J.smm, J.lll⟩
  rcases List.mem_cons.mp hx with e | e
  · subst e
    obtain ⟨dx, h⟩ := I.R.ob
    obtain ⟨kv, h3, _⟩ := I.R.dc
    refine .inr ⟨.inl upd_same, fun z => ?_⟩
    simp only [List.mem_cons, List.not_mem_nil, or_false] at z
    rcases z with z | z | z | z | z | z
    · exact (ne_of_none I.hs hq).symm z
    · exact (ne_of_none h hq).symm z
    · exact (ne_of_none I.R.ln hq).symm z
    · exact (ne_of_none h3 hq).symm z
    · exact (ne_of_none I.hm hq).symm z
    · exact (ne_of_none I.hl hq).symm z
  · exact J.hx x e
/-- what is new is none of these -/
theorem LI.new {b : Addr} {H0 : Hp} (I0 : LI K CR a st p l d mm ll scr S L n k H0) (hb : H0 b = none) : (b ≠ st ∧ b ≠ l ∧ b ≠ p ∧ b ≠ d ∧ b ≠ mm ∧ b ≠ ll) := by
  obtain ⟨dx, h⟩ := I0.R.ob
  obtain ⟨kv, h3, _⟩ := I0.R.dc
  exact ⟨(ne_of_none I0.hs hb).symm, (ne_of_none I0.R.ln hb).symm, (ne_of_none h hb).symm, (ne_of_none h3 hb).symm, (ne_of_none I0.hm hb).symm, (ne_of_none I0.hl hb).symm⟩
/-- an object that was new is changed -/
theorem LI.other {b : Addr} {o : HO} {H0 : Hp} {S0 : RS} {L0 : List Int} {n0 k0 : Int} (I : LI K CR a st p l d mm ll scr S L n k H) (I0 : LI K CR a st p l d mm ll scr S0 L0 n0 k0 H0) (hb : H0 b = none) : LI K CR a st p l d mm ll scr S L n k (upd H b o) := by
  obtain ⟨h1, h3, h2, h4, h5, h6⟩ := I0.new hb
  have f : ∀ c u, b ≠ c → H c = some u → (upd H b o) c = some u := fun c u nb h => by rw [upd_ne nb.symm]; exact h
  refine ⟨f _ _ h1 I.hs, fun q hq => ?_, I.hk, I.R.keep (fun o e => f _ _ h2 e) (fun o e => f _ _ h3 e) (fun o e => f _ _ h4 e), I.ok, f _ _ h5 I.hm, f _ _ h6 I.hl, I.dst, I.dmm, I.smm, I.lll⟩
  rcases I0.hx q hq with h | ⟨h, _⟩
  · exact .inl h
  · refine (I.hx q hq).keep fun o e nb => f _ _ (fun z => ?_) e
    rw [z] at hb
    rcases h with h | ⟨o', h⟩ <;> (rw [hb] at h; cases h)
end
end Sm

namespace Sm
open PySem PySem.Spec L2 PyProof.Rows
/-- [e for i in range(n)] -/
theorem lc_rm {n : Nat} {j : Nat} {te : TE} {vs : List Nat} {σ : L2.St} {H1 : Hp} {D : Addr} {Qd : Hp → Prop} (v : Nat → V) (hD : H1 D = none) (hlen : n ≤ 1000)
    (hw : ∀ x, wipe ((wipe σ vs).set j (some x)) vs = wipe σ vs)
    (he : ∀ i, i < n → ∀ H', Same H1 H' → ∀ Q' : VK, (∀ H'', Same H' H'' → Q' (v i) H'') → te ((wipe σ vs).set j (some (.int (i : Int)))) H' Q')
    (hd : ∀ H', Same H1 H' → H' D = some (.lst ((List.range n).map v)) → Qd H') :
    ∃ W : Nat → Nat → Hp → Prop, (∃ m, W 0 m (upd H1 D (.lst []))) ∧ ∀ i m H, W i m H →
      ((Itr 0 n).stop i H ∧ Qd H) ∨ ((Itr 0 n).go i H ∧ ∃ Nx : Hp → Prop, (∀ H', Nx H' → ∃ m', m' < m ∧ W (i + 1) m' H') ∧ ∀ x H', (Itr 0 n).yld i H x H' → gName j x (wipe σ vs) H' fun σ2 H2 => wipe σ2 vs = wipe σ vs ∧ tYes σ2 H2 fun b H3 =>
        if b = true then te σ2 H3 fun y H4 => ∃ acc, H4 D = some (.lst acc) ∧ acc.length < sizeLine ∧ Nx (upd H4 D (.lst (acc ++ [y]))) else Nx H3) := by
  refine lc_range (lo := 0) (n := n) (fun i H' => Same H1 H' ∧ H' D = some (.lst ((List.range i).map v))) ⟨upd_new hD, upd_same⟩ ?_ ?_
  · rintro i H' hi ⟨s1, a1⟩
    rw [Int.zero_add]
    refine ⟨hw _, tyes (iteT (he i hi H' s1 _ fun H3 s3 => ⟨_, s3 _ _ a1, ?_, fun b o h => ?_, ?_⟩))⟩
    · rw [List.length_map, List.length_range]; exact small1000 (by omega)
    · rw [upd_ne (ne_of_none h hD)]; exact s3 b o (s1 b o h)
    · rw [upd_same, List.range_succ, List.map_append]; rfl
  · rintro H' ⟨s1, a1⟩
    exact hd H' s1 a1
theorem seq_nat {n j : Nat} (h : j < n) : seqIndex? (j : Int) n = some j := (ixN_seq (Evl.ixN_nat h)).1
theorem erase_ix {xs : List Int} {k : Nat} {x : Int} (hn : xs.Nodup) (h : xs[k]? = some x) : xs.eraseIdx k = xs.erase x := by
  obtain ⟨j, j1, _, j3, _⟩ := first_at (List.mem_of_getElem? h)
  rw [← j3, nd_ix hn h j1]
theorem idx_at {xs : List Int} {k : Nat} {x : Int} (hn : xs.Nodup) (h : xs[k]? = some x) : xs.idxOf x = k := by
  obtain ⟨j, j1, _, _, j4⟩ := first_at (List.mem_of_getElem? h)
  rw [j4, nd_ix hn h j1]
theorem erase_map {α β : Type} (f : α → β) : ∀ (xs : List α) (j : Nat), (xs.map f).eraseIdx j = (xs.eraseIdx j).map f
  | [], _ => rfl
  | _ :: _, 0 => rfl
  | a :: r, j + 1 => congrArg (f a :: ·) (erase_map f r j)
theorem filter_yes (xs : List Int) : xs.filter (fun _ => true) = xs := List.filter_eq_self.mpr fun _ _ => rfl
/-- a drawn place of a line -/
theorem at_ix {line : List Int} {z : Int} (hz : 0 < line.length) : ∃ j, j < line.length ∧ z % (line.length : Int) = (j : Int) := by
  have h0 : 0 ≤ z % (line.length : Int) := Int.emod_nonneg _ (by omega)
  have h1 : z % (line.length : Int) < line.length := Int.emod_lt_of_pos _ (by omega)
  exact ⟨(z % (line.length : Int)).toNat, by omega, (Int.toNat_of_nonneg h0).symm⟩
end Sm

namespace Sm
open PySem PySem.Spec L2 PyProof.Rows
/-! ### try: a method called where what it raises is wished for at the caller's slots -/
section
variable {X : Cx} {k : Nat} {C : Addr} {m : Str} {sp : Sp} {dvs : List V} {E : L2.St → XK} {p pos apos : Pos} {e o : Expr} {es : List Expr} {ta : TE} {t : TA}
def tMthS (C : Addr) (m : Str) (sp : Sp) (dvs : List V) (E : L2.St → XK) (ta : TE) (t : TA) : TE := fun σ H Q => ta σ H fun x H1 => ∃ a dx fs, x = .ref a ∧ H1 a = some (.ins C dx fs) ∧ fs.lookup m = none ∧
  t σ H1 fun vs H2 => sp (x :: (vs ++ dvs)) H2 Q (E σ)
theorem pe_mthS {pl : Sem Bool} (D : Mth X.prog X.w X.K X.mg X.base k C m dvs sp) (hr : Room k X.A) (hx : ∀ σ, PassesAt (L2.CX X.prog X.w) X σ (E σ)) (he : PE X o ta) (ha : PA X (e :: es) t)
    (hst : starEach (e :: es) X.env = (false, eval e X.env) :: starEach es X.env := by rfl) (hpl : (backTo pos (starEach es X.env)).any (·.1) = false := by rfl)
    (ht : eval (.Call (.Attribute o m apos) (e :: es) [] pos) X.env = (do
      let ov ← eval o X.env
      standAt apos.atName
      let (f, first) ← holding [ov] (getMethod ov m pl)
      callWith pos f first (backTo pos (starEach (e :: es) X.env)) (backToKw pos (keywordEach [] X.env))) := by rfl) :
    PE X (.Call (.Attribute o m apos) (e :: es) [] pos) (tMthS C m sp dvs E ta t) := by
  obtain ⟨f, fd, ps, ds, F, hm, hb, hd⟩ := D.ex
  refine ⟨fun pins s σ H Q I h => ?_⟩
  refine PySem.W.methodCall_KW (pl := pl) (thn (he.run pins s σ H _ I h) fun u s1 ⟨x, H1, I1, rx, a, dx, fs, ex, ea, l, q⟩ => ?_) ht
  subst ex
  obtain rfl : u = Value.ref a := rx
  refine getmeth_ok I1 ea D.cl hm l ?_
  refine PySem.W.callWith_K (first := [.ref a]) (h₀ := X.base) I.ok.mod.kin hm.kp (thn (ha.run pos pins s1 σ H1 _ I1 q) fun us s2 ⟨vs, H2, I2, r, q2⟩ => ⟨I2.kIn, ?_⟩) hst hpl
  exact run_fnSD (us := .ref a :: us) (vs := .ref a :: vs) F hr hb hd (hx σ) I2 (.cons rfl r) q2
end
/-- an error of the class at S is what the clause names -/
theorem exm_self {K : PySem.W.Frag} {S : Addr} (h1 : PySem.W.subIn K (.ref S) (.type "BaseException") = some true) (h2 : PySem.W.isClsIn K S = true) (h3 : PySem.W.typeIn K (.ref S) = some (.type "type")) (h4 : PySem.W.subIn K (.ref S) (.ref S) = some true) :
    PySem.W.exmOne K (.ref S) (.ref S) = some true := by
  have e1 : (PySem.W.subIn K (.ref S) (.type "BaseException") == some true) = true := by rw [h1] <;> rfl
  have e2 : ((PySem.W.clsIn K S).isSome && PySem.W.typeIn K (.ref S) == some (.type "type")) = true := by
    have h2' : (PySem.W.clsIn K S).isSome = true := h2
    rw [h2', h3] <;> rfl
  show (if (PySem.W.subIn K (.ref S) (.type "BaseException") == some true) = true then (if ((PySem.W.clsIn K S).isSome && PySem.W.typeIn K (.ref S) == some (.type "type")) = true then PySem.W.subIn K (.ref S) (.ref S) else none) else none) = some true
  rw [if_pos e1, if_pos e2]
  exact h4
/-- a putting that may end in Full, told by a value -/
def spTry (K : PySem.W.Frag) (CR : Addr) (yes : Addr → V) (no : V) : Sp := fun vs H Q _ => ∃ (S : RS) (p l d : Addr) (x : V), vs = [.ref p, x] ∧ RowAt CR S p l d H ∧ Ok S ∧ goodX x S.line = true ∧ S.line.length < 200 ∧
  (∀ m' sv ch, PutM S (atOf S.line x) m' sv ch → ∀ (t cl : Addr) (v5 : V) (cs : List V) (H' : Hp), H t = none → H cl = none → t ≠ cl → H' t = some (.tup [.int S.told, v5, .ref cl]) → StV H' v5 sv → H' cl = some (.lst cs) → PairsAt H' cs ch →
      RowAt CR (S.put (atOf S.line x) m' ch) p l d H' → RFr p l d H H' → Q (yes t) H') ∧
  (PutFull S (atOf S.line x) → ∀ H', Same H H' → Q no H')
theorem good_kd {K : PySem.W.Frag} {x : V} {line : List Int} {H : Hp} (h : goodX x line = true) : KdV K H x := by
  rcases good_cases h with rfl | ⟨i, rfl, _⟩
  · exact .non
  · exact .int
theorem try_put {K : PySem.W.Frag} {CR CN CT CF : Addr} {S : RS} {p l d : Addr} {x : V} {H : Hp} {Q : VK} {E : XK} (R : RowAt CR S p l d H) (ok : Ok S) (hx : goodX x S.line = true) (hl : S.line.length < 200)
    (q1 : ∀ m' sv ch, PutM S (atOf S.line x) m' sv ch → ∀ (t cl : Addr) (v5 : V) (cs : List V) (H' : Hp), H t = none → H cl = none → t ≠ cl → H' t = some (.tup [.int S.told, v5, .ref cl]) → StV H' v5 sv → H' cl = some (.lst cs) → PairsAt H' cs ch →
      RowAt CR (S.put (atOf S.line x) m' ch) p l d H' → RFr p l d H H' → Q (.ref t) H') (q2 : PutFull S (atOf S.line x) → ∀ H', Same H H' → E (.ref CF) none H') : spPut K CR CN CT CF [.ref p, x] H Q E :=
  ⟨S, p, l, d, x, rfl, R, ok, good_kd hx, fun _ _ => ⟨q1, q2⟩, (fun zz => by rw [hx] at zz; cases zz), (fun _ zz => by omega)⟩
section
variable {P : Program} {w : World} {K : PySem.W.Frag} {mg : Str → Option Value} {base : Heap} {CB CN CT CF CS CR : Addr} {f : Addr} {fd : FuncData}
end
end Sm

namespace Sm
open PySem PySem.Spec L2 PyProof.Rows
theorem putK_len {kvs : List (Key × V)} {k : Key} {y : V} : (putK kvs k y).length ≤ kvs.length + 1 := by
  cases e : valV kvs k with
  | none => rw [putK_new _ e, List.length_append]; exact Nat.le_refl _
  | some v => rw [putK_old_len e]; omega
theorem wide4 {a b c d t : Int} (ha : 4 ≤ a ∧ a ≤ 60) (hb : 4 ≤ b ∧ b ≤ 60) (hc : 4 ≤ c ∧ c ≤ 60) (hd : 4 ≤ d ∧ d ≤ 60) : ∃ wd : Nat, atI [V.int a, V.int b, V.int c, V.int d] (t % 4) = some (.int (wd : Int)) ∧ 4 ≤ wd ∧ wd ≤ 60 := by
  have go : ∀ (j : Nat) (x : Int), t % 4 = (j : Int) → [V.int a, V.int b, V.int c, V.int d][j]? = some (.int x) → (4 ≤ x ∧ x ≤ 60) → ∃ wd : Nat, atI [V.int a, V.int b, V.int c, V.int d] (t % 4) = some (.int (wd : Int)) ∧ 4 ≤ wd ∧ wd ≤ 60 := fun j x e h hx => by
    rw [e]
    refine ⟨x.toNat, ?_, by omega, by omega⟩
    rw [show ((x.toNat : Nat) : Int) = x by omega]
    exact atI_nat h
  have h4 : t % 4 = 0 ∨ t % 4 = 1 ∨ t % 4 = 2 ∨ t % 4 = 3 := by omega
  rcases h4 with e | e | e | e
  · exact go 0 a e rfl ha
  · exact go 1 b e rfl hb
  · exact go 2 c e rfl hc
  · exact go 3 d e rfl hd
theorem good_more {v : V} {L L' : List Int} (h : goodX v L = true) (s : ∀ x ∈ L, x ∈ L') : goodX v L' = true := by
  rcases good_cases h with rfl | ⟨x, rfl, hx⟩
  · exact good_non
  · exact good_mem (s x hx)
/-! ### a list of pairs, kept and told -/
theorem PairsAt.same {H H' : Hp} (s : Same H H') {cs : List V} {qs : List (Int × Int)} (h : PairsAt H cs qs) : PairsAt H' cs qs := h.mono fun _ _ _ e => s _ _ e
theorem dp_pairsAll {K : PySem.W.Frag} {H : Hp} : ∀ {cs : List V} {qs : List (Int × Int)}, PairsAt H cs qs → DpAll K H cs (qs.map fun q => .tuple [.int q.1, .int q.2])
  | [], [], _ => .nil
  | c :: cs, q :: qs, ⟨⟨a, e, h⟩, r⟩ => by
    subst e
    exact .cons (.tup (SqT.of h) (.cons (.int _) (.cons (.int _) .nil))) (dp_pairsAll r)
  | [], _ :: _, h => h.elim
  | _ :: _, [], h => h.elim
theorem dp_pairs {K : PySem.W.Frag} {H : Hp} {a : Addr} {cs : List V} {qs : List (Int × Int)} (ha : H a = some (.lst cs)) (h : PairsAt H cs qs) : Dp K H (.ref a) (.list (qs.map fun q => .tuple [.int q.1, .int q.2])) := .lst (SqL.of ha) (dp_pairsAll h)
theorem eqv_self {d : PyData} (h : SeqAt.shaped d = true) : PyData.eqv d d = true := SeqAt.eqv_refl d (SeqAt.canLay_of_shaped h)
theorem lay_pairs : ∀ qs : List (Int × Int), PyData.canLayAll0 (qs.map fun q => .tuple [.int q.1, .int q.2]) = true ∧ PyData.depthAll (qs.map fun q => .tuple [.int q.1, .int q.2]) ≤ 1
  | [] => ⟨rfl, by decide⟩
  | q :: r => by
    obtain ⟨h1, h2⟩ := lay_pairs r
    constructor
    · simp [PyData.canLayAll0, PyData.canLay0]; simpa using h1
    · show max (PyData.depth (.tuple [.int q.1, .int q.2])) (PyData.depthAll (r.map fun q => .tuple [.int q.1, .int q.2])) ≤ 1
      have : PyData.depth (.tuple [.int q.1, .int q.2]) = 1 := by simp [PyData.depth, PyData.depthAll]
      omega
theorem sh_pairs (qs : List (Int × Int)) : SeqAt.shaped (.list (qs.map fun q => .tuple [.int q.1, .int q.2])) = true := by
  obtain ⟨h1, h2⟩ := lay_pairs qs
  unfold SeqAt.shaped
  rw [Bool.and_eq_true]
  refine ⟨?_, decide_eq_true ?_⟩
  · simp only [PyData.canLay0]; exact h1
  · simp only [PyData.depth]; omega
theorem lay_bls : ∀ bs : List Bool, PyData.canLayAll0 (bs.map PyData.bool) = true ∧ PyData.depthAll (bs.map PyData.bool) = 0
  | [] => ⟨rfl, rfl⟩
  | b :: r => by
    obtain ⟨h1, h2⟩ := lay_bls r
    simp [PyData.canLayAll0, PyData.canLay0, PyData.depthAll, PyData.depth, h1, h2]
theorem sh_bls (bs : List Bool) : SeqAt.shaped (.list (bs.map PyData.bool)) = true := by
  obtain ⟨h1, h2⟩ := lay_bls bs
  simp [SeqAt.shaped, PyData.canLay0, PyData.depth, h1, h2]
theorem dp_blsAll {K : PySem.W.Frag} {H : Hp} : ∀ bs : List Bool, DpAll K H (bs.map V.bl) (bs.map PyData.bool)
  | [] => .nil
  | b :: r => .cons (.bl b) (dp_blsAll r)
theorem dp_bls {K : PySem.W.Frag} {H : Hp} {a : Addr} {bs : List Bool} (h : SqL K H a (bs.map V.bl)) : Dp K H (.ref a) (.list (bs.map PyData.bool)) := .lst h (dp_blsAll bs)
theorem cut_take {xs : List V} {k : Nat} : cutV xs none (some (k : Int)) = xs.take k := by
  unfold cutV
  rw [HT.sIx_nat, HT.sIx_none, List.drop_zero, Nat.sub_zero]
  by_cases c : k ≤ xs.length
  · rw [Nat.min_eq_left c]
  · rw [Nat.min_eq_right (by omega), List.take_of_length_le (Nat.le_refl _), List.take_of_length_le (by omega)]
theorem low_of {S : RS} {a : Nat} : lowAt S a = if a = 0 then -1 else S.m (S.line.getD (a - 1) 0) := by
  unfold lowAt
  by_cases c : a = 0
  · rw [if_neg (by omega), if_pos c]
  · rw [if_pos (by omega), if_neg c]
theorem high_of {S : RS} {a : Nat} (ha : a ≤ S.line.length) : highAt S a = if a = S.line.length then 2 ^ S.w else S.m (S.line.getD a 0) := by
  unfold highAt
  by_cases c : a = S.line.length
  · rw [if_neg (by omega), if_pos c]
  · rw [if_pos (by omega), if_neg c]
theorem cut_drop {xs : List V} {k : Nat} : cutV xs (some (k : Int)) none = xs.drop k := by
  unfold cutV
  rw [HT.sIx_nat, HT.sIx_none]
  by_cases c : k ≤ xs.length
  · rw [Nat.min_eq_left c, List.take_of_length_le (by rw [List.length_drop]; omega)]
  · rw [Nat.min_eq_right (by omega), Nat.sub_self, List.take_zero, List.drop_eq_nil_of_le (by omega)]
theorem PairsAt.nil {H : Hp} {cs : List V} (h : PairsAt H cs []) : cs = [] := by
  cases cs with
  | nil => rfl
  | cons c r => exact h.elim
/-- [(x, v x) for x in line if t] -/
theorem lc_pm {K : PySem.W.Frag} {a : Addr} {line : List Int} {j : Nat} {tt : TT} {te : TE} {vs : List Nat} {σ : L2.St} {H1 : Hp} {D : Addr} {Qd : Hp → Prop} (f : Int → Bool) (v : Int → Int) (hD : H1 D = none) (ha : SqL K H1 a (line.map V.int)) (hlen : line.length ≤ 1000)
    (hw : ∀ x, wipe ((wipe σ vs).set j (some x)) vs = wipe σ vs)
    (ht : ∀ x ∈ line, ∀ H', Same H1 H' → ∀ Q' : Bool → Hp → Prop, (∀ H'', Same H' H'' → Q' (f x) H'') → tt ((wipe σ vs).set j (some (.int x))) H' Q')
    (he : ∀ x ∈ line, f x = true → ∀ H', Same H1 H' → ∀ Q' : VK, (∀ t H'', H' t = none → Same H' H'' → H'' t = some (.tup [.int x, .int (v x)]) → Q' (.ref t) H'') → te ((wipe σ vs).set j (some (.int x))) H' Q')
    (hd : ∀ H' cs, Same H1 H' → H' D = some (.lst cs) → PairsAt H' cs ((line.filter f).map fun x => (x, v x)) → Qd H') :
    ∃ W : Nat → Nat → Hp → Prop, (∃ m, W 0 m (upd H1 D (.lst []))) ∧ ∀ i m H, W i m H →
      ((Itl K a).stop i H ∧ Qd H) ∨ ((Itl K a).go i H ∧ ∃ Nx : Hp → Prop, (∀ H', Nx H' → ∃ m', m' < m ∧ W (i + 1) m' H') ∧ ∀ x H', (Itl K a).yld i H x H' → gName j x (wipe σ vs) H' fun σ2 H2 => wipe σ2 vs = wipe σ vs ∧ tt σ2 H2 fun b H3 =>
        if b = true then te σ2 H3 fun y H4 => ∃ acc, H4 D = some (.lst acc) ∧ acc.length < sizeLine ∧ Nx (upd H4 D (.lst (acc ++ [y]))) else Nx H3) := by
  refine lc_list (K := K) (a := a) (xs := line.map V.int) (fun i H' => Same H1 H' ∧ ∃ cs, H' D = some (.lst cs) ∧ PairsAt H' cs (((line.take i).filter f).map fun x => (x, v x))) ⟨upd_new hD, [], upd_same, trivial⟩ (fun i H' _ ⟨s, _⟩ => s.seq ha) ?_ ?_
  · rintro i x H' hi ⟨s1, cs, a1, p1⟩
    obtain ⟨z, rfl, hz, hm, hil⟩ := getI hi
    refine ⟨hw _, ht z hm H' s1 _ fun H2 s2 => ?_⟩
    have s12 := s1.trans s2
    cases hf : f z with
    | true =>
      refine iteT (he z hm hf H2 s12 _ fun t H3 ht s3 h3 => ⟨cs, s3 _ _ (s2 _ _ a1), ?_, fun b o h => ?_, cs ++ [.ref t], upd_same, ?_⟩)
      · rw [p1.len, List.length_map]
        refine Nat.lt_of_le_of_lt (Nat.le_trans (List.length_filter_le _ _) (by rw [List.length_take]; exact Nat.le_trans (Nat.min_le_right _ _) hlen)) (by rw [sizeLine_eq]; decide)
      · rw [upd_ne (ne_of_none h hD)]; exact s3 b o (s12 b o h)
      · rw [take_more hz, List.filter_append, List.map_append, List.filter_cons, if_pos hf]
        have a3 := s3 _ _ (s2 _ _ a1)
        have up : ∀ b x y, H3 b = some (.tup [.int x, .int y]) → (upd H3 D (.lst (cs ++ [.ref t]))) b = some (.tup [.int x, .int y]) := fun b x y e => by rw [upd_ne (ne_of e a3 (by intro z; cases z))]; exact e
        exact ((p1.same (s2.trans s3)).mono up).snoc (q := (z, v z)) (up _ _ _ h3)
    | false =>
      refine iteF ⟨s12, cs, s2 _ _ a1, ?_⟩
      rw [take_more hz, List.filter_append, List.filter_cons, if_neg (by rw [hf]; decide)]
      simpa using p1.same s2
  · rintro H' ⟨s1, cs, a1, p1⟩
    rw [List.length_map, List.take_length] at p1
    exact hd H' cs s1 a1 p1
end Sm

namespace L2
open PySem PySem.Spec PyProof.Rows
/-! ### a caught exception, kept as a value behind its suite -/
/-- an exception object of the class cls stands at a -/
def ExV (cls : Value) (a : Addr) : HO := .ext fun h => ∃ (oe : Obj) (vs : Array Value), h.get? a = some oe ∧ Zc cls none oe ∧ oe.data = .fields vs
theorem exV_ok {P : Program} {w : World} {H : Hp} {h : Heap} {a : Addr} {cls : Value} {oe : Obj} {vs : Array Value} (e : h.get? a = some oe) (z : Zc cls none oe) (d : oe.data = .fields vs) : ObjOk P w H h a (ExV cls a) :=
  ⟨⟨oe, vs, e, z, d⟩, ⟨oe, e⟩, fun _ _ ⟨o, v, q, r⟩ k => ⟨o, v, k o q, r⟩⟩
section
variable {X : Cx} {pins : List (Addr × Obj)} {σ : St} {H : Hp} {s : Shared}
/-- an untracked object of ours is tracked -/
theorem Inv.track {a : Addr} {o : HO} (I : Inv X pins σ H s) (n0 : X.s_0.heap.get? a = none) (hn : H a = none) (nL : a ≠ X.env.locals) (nC : ∀ x c, X.env.cells.lookup x = some c → c ≠ a) (nP : ∀ p ∈ X.pn ++ pins, p.1 ≠ a)
    (new : ObjOk X.prog X.w (upd H a o) s.heap a o) : Inv X pins σ (upd H a o) s := by
  have ne : ∀ {b : Addr} {u : HO}, H b = some u → b ≠ a := fun q z => by rw [z, hn] at q; cases q
  refine ⟨I.ok, I.os, I.bare, ⟨I.base.keep, I.base.slot, fun b u e n hx => ?_, I.base.there, fun b xs e => ?_, fun b u x e => ?_, fun b ps e => ?_⟩, I.loc, I.cell, ?_, fun x c e => ?_, fun p hp => ?_, fun b u e => ?_, I.len⟩
  · rw [upd_ne (fun z => by rw [z, n0] at e; cases e)]; exact I.base.free b u e n hx
  · have q := I.base.tups b xs e
    rw [upd_ne (ne q)]; exact q
  · have q := I.base.frzs b u x e
    rw [upd_ne (ne q)]; exact q
  · obtain ⟨m, q⟩ := I.base.tbls b ps e
    exact ⟨m, by rw [upd_ne (ne q)]; exact q⟩
  · rw [upd_ne nL.symm]; exact I.free
  · rw [upd_ne (nC x c e)]; exact I.freeC x c e
  · obtain ⟨h1, h2, h3⟩ := I.pin p hp
    exact ⟨h1, by rw [upd_ne (nP p hp)]; exact h2, h3⟩
  · by_cases hb : b = a
    · subst hb
      rw [upd_same] at e
      cases e
      exact new
    · rw [upd_ne hb] at e
      exact (I.hok b u e).stay (fun c v _ q => q) (fun c q => by rw [upd_ne (ne_of_none q hn)]; exact q) fun c xs q => by rw [upd_ne (ne_of_none q hn)]; exact q
end
/-- what a clause with a name wishes, where the suite always runs to its end and the exception is kept -/
def wKeep (K : PySem.W.Frag) (c : Value) (i : Nat) (ts : Addr → TS) (D : Ends) : WX := fun cls d σ H => PySem.W.exmOne K cls c = some true ∧ d = none ∧
  ∀ a, H a = none → ts a { nx := fun σ' H' => D.nx (σ'.set i none) (upd H' a (ExV cls a)), rt := fun _ _ => False, bk := fun _ _ => False, ct := fun _ _ => False } (σ.set i (some (.ref a))) H
/-- an address that no frame, cell, pin and no earlier object bears -/
structure Aloof (X : Cx) (pinned : List (Addr × Obj)) (a : Addr) : Prop where
  old : X.s_0.heap.get? a = none
  own : a ≠ X.env.locals
  frs : a ∉ X.fs
  cel : ∀ y k, X.env.cells.lookup y = some k → k ≠ a
  pin : ∀ p ∈ pinned, p.1 ≠ a
theorem none_of {h : Heap} {a : Addr} (k : ∀ u, h.get? a = some u → False) : h.get? a = none := by
  cases e : h.get? a with
  | some u => exact (k u e).elim
  | none => rfl
theorem two_ways {h : Heap} {a : Addr} {u : Obj} (n : h.get? a = none) (y : h.get? a = some u) : False := by
  rw [n] at y
  cases y
theorem aloof {X : Cx} {pins : List (Addr × Obj)} {σ : St} {H : Hp} {before : Shared} {B air : Heap} {a : Addr} {Z : Obj → Prop} {oe : Obj} {vs : Array Value} (hs : X.stack = X.env :: X.outer) (hf : X.env.frame = some X.env.locals) (hx : X.ex = []) (J : Inv X pins σ H before)
    (nb : ∀ b o, before.heap.get? b = some o → b ∉ L2.frs X.stack → B.get? b = some o) (fl : HandSPX.FlyingZ B (X.env :: X.outer) a Z air) (ge : air.get? a = some oe) (de : oe.data = .fields vs) : Aloof X (X.pn ++ pins) a := by
  have out : a ∉ L2.frs (X.env :: X.outer) := by
    intro within
    obtain ⟨_, u, hu, plain⟩ := fl.2.2.1.mem within
    have hu : air.get? a = some u := hu
    obtain rfl : oe = u := Option.some.inj (ge.symm.trans hu)
    exact plain _ de
  have gone : before.heap.get? a = none := none_of fun u hu => two_ways fl.2.1 (nb a u hu (by rw [hs]; exact out))
  refine ⟨none_of fun u hu => ?_, fun z => ?_, fun within => ?_, fun y k look z => ?_, fun p hp z => ?_⟩
  · obtain ⟨_, still⟩ := J.base.there a u hu (by rw [hx]; exact fun z => by cases z)
    exact two_ways gone still
  · exact out (List.mem_filterMap.mpr ⟨X.env, .head _, by rw [hf, z]⟩)
  · obtain ⟨fr, inside, here⟩ := List.mem_filterMap.mp within
    exact out (List.mem_filterMap.mpr ⟨fr, .tail _ inside, here⟩)
  · obtain ⟨_, _, here, _⟩ := J.cell y k look
    exact two_ways gone (z ▸ here)
  · exact two_ways gone (z ▸ (J.pin p hp).1)
/-- what a raise in a try's body comes down to -/
abbrev landing (X : Cx) (hand : Value → Sem Flow) (post : Flow → Shared → Prop) : Value → Shared → Prop := fun e =>
  wpAny (model X.prog X.w) X.A (noteFrame e X.env) (fun _ => wpAny (model X.prog X.w) X.A (setFlight e none) (fun _ => wpAny (model X.prog X.w) X.A (hand e) post X.xe) X.xe) X.xe
section
variable {X : Cx} {x n : Str} {c : Value} {i : Nat} {body suite : List Stmt} {b₀ : Stmt} {np pos pos' : Pos} {tb : WX → TS} {ts : Addr → TS}
theorem ps_try_keep (hs : X.stack = X.env :: X.outer) (hf : X.env.frame = some X.env.locals) (hN : X.N.Nodup) (hi : X.N[i]? = some n) (hln : X.env.kindOf n = some .local) (hc : Names X x c) (hx : X.ex = [])
    (within : ∀ (W : WX) (pn : List (Addr × Obj)) (xe : Value → Shared → Prop), Takes (X.tr pn xe) W → PassesOwn (model X.prog X.w) X.A X.env xe → PSs (X.tr pn xe) body (tb W))
    (behind : ∀ (a : Addr) (oe : Obj) (pn : List (Addr × Obj)), PSs (X.suite a ((a, oe) :: pn)) (b₀ :: suite) (ts a)) :
    PS X (.Try body [.ExceptHandler (some (.Name x np)) (some n) (b₀ :: suite) pos'] [] [] pos) (fun D σ H => tb (wKeep X.K c i ts D) D σ H) := by
  refine ⟨fun pins s σ H D I h => wpAny_Try_except ?_⟩
  have good := I.ok
  have frames : X.A.frames = some (X.env :: X.outer) := good.frames.trans (congrArg some hs)
  let air := landing X (fun e => handleBy e X.env [.ExceptHandler (some (.Name x np)) (some n) (b₀ :: suite) pos']) (SP X pins D)
  have caught : Takes (X.tr (X.pn ++ pins) air) (wKeep X.K c i ts D) := fun u s' raised => by
    obtain ⟨a, B, before, pins', σ', H', cls, d, rfl, J', nb, up, sky, na, os, ag, hm, rfl, hw⟩ := raised
    have J : Inv X pins σ' H' before := J'.ofTry good
    rw [hs] at sky
    refine Sky.land Zc.steady frames hf sky fun air1 fl1 up1 => ?_
    obtain ⟨o1, v1, ge1, z1, de1⟩ := fl1.there
    have al := aloof hs hf hx J nb fl1 ge1 de1
    -- the clause's class is looked up in the suite's own place
    have J1 := J.landed (s' := { s' with heap := air1 }) nb fl1.1 (up.trans up1) os ag
    have test : ∀ {Q : Value → Shared → Prop} {E : Value → Shared → Prop}, Q c { s' with heap := air1 } → wpAny (model X.prog X.w) (X.A.mark (some (.ref a))) (eval (.Name x np) X.env) Q E { s' with heap := air1 } := fun q =>
      match hc with
      | ⟨gl, db, .inl at_⟩ => ld_glob (X := X.suite a ((a, o1) :: (X.pn ++ pins))) (J1.suite ge1 de1 na al.own al.frs) gl at_ q db
      | ⟨gl, db, .inr ⟨no, isIt, nn⟩⟩ => ld_blt (X := X.suite a ((a, o1) :: (X.pn ++ pins))) (J1.suite ge1 de1 na al.own al.frs) gl no isIt q nn db
    have looks : PySem.W.Looks (model X.prog X.w) air1 (typeOf (.ref a)) cls := fun A Q E s0 keep q => wpAny_typeOf_ref (keep _ _ ge1) (z1.1.symm ▸ q)
    refine wpAny_handleBy_cons (codeAny_handlers_test (test ((PySem.W.exm_one (M := model X.prog X.w) J1.kIn looks hm).here (codeAny_handlers_suite_as (HandSPX.lands_againZ fl1 fun air2 fl2 up2 => ?_))))) (fun z => by cases z)
    obtain ⟨o2, v2, ge2, z2, de2⟩ := fl2.there
    have J2 := (J.landed (s' := { s' with heap := air2 }) nb fl2.1 ((up.trans up1).trans up2) os ag).suite ge2 de2 na al.own al.frs
    refine store_ok (X := X.suite a ((a, o2) :: (X.pn ++ pins))) (v := .ref a) J2 hN hi (.inl hln) rfl (fun s3 J3 => ?_) (.inr hln)
    refine wpAny_mono ((behind a o2 (X.pn ++ pins)).run [] s3 _ H' _ J3 (hw a na)) (fun flow s4 ends => ?_) (fun _ _ no => no.elim)
    match flow, ends with
    | .brk, ⟨_, _, _, no⟩ => exact no.elim
    | .cont, ⟨_, _, _, no⟩ => exact no.elim
    | .ret _, ⟨_, _, _, _, _, no⟩ => exact no.elim
    | .next, ⟨σ4, H4, J4, q4⟩ =>
      -- the pin is kept while the name goes
      have turn : ∀ p ∈ X.pn ++ ((a, o2) :: pins), p ∈ ((a, o2) :: (X.pn ++ pins)) ++ [] := fun p hp => by
        simp only [List.mem_append, List.mem_cons, List.append_nil] at hp ⊢
        rcases hp with k | k | k <;> simp [k]
      have J5 : Inv X ((a, o2) :: pins) σ4 H4 s4 := ⟨good, J4.os, J4.bare, J4.base, J4.loc, J4.cell, J4.free, J4.freeC, fun p hp => J4.pin p (turn p hp), J4.hok, J4.len⟩
      refine gone_ok J5 hN hi hln fun s6 J6 => ?_
      obtain ⟨ge6, n6, _⟩ := J6.pin (a, o2) (List.mem_append_right _ (.head _))
      have fewer : ∀ p ∈ X.pn ++ pins, p ∈ X.pn ++ ((a, o2) :: pins) := fun p hp => by
        simp only [List.mem_append, List.mem_cons] at hp ⊢
        rcases hp with k | k <;> simp [k]
      have J7 : Inv X pins (σ4.set i none) H4 s6 := ⟨good, J6.os, J6.bare, J6.base, J6.loc, J6.cell, J6.free, J6.freeC, fun p hp => J6.pin p (fewer p hp), J6.hok, J6.len⟩
      exact ⟨_, _, J7.track al.old n6 al.own al.cel al.pin (exV_ok ge6 z2 de2), q4⟩
  refine wpAny_mono ((within (wKeep X.K c i ts D) (X.pn ++ pins) air caught PassesOwn.looking).run [] s σ H D (I.toTry _) h) (fun flow s1 ends => ?_) (fun _ _ z => z)
  match flow, ends with
  | .next, ⟨σ', H', J, q⟩ => exact wpAny_execs_nil ⟨σ', H', J.ofTry good, q⟩
  | .brk, ⟨σ', H', J, q⟩ => exact ⟨σ', H', J.ofTry good, q⟩
  | .cont, ⟨σ', H', J, q⟩ => exact ⟨σ', H', J.ofTry good, q⟩
  | .ret u, ⟨v, σ', H', J, r, q⟩ => exact ⟨v, σ', H', J.ofTry good, r, q⟩
end
/-! ### isinstance of a kept exception -/
def rIsEV (K : PySem.W.Frag) : List V → Hp → VK → Prop := fun xs H Q => ∃ (a D : Addr) (c : V) (u : Value) (b : Bool), xs = [.ref a, c] ∧ H a = some (ExV (.ref D) a) ∧ ExcC K D ∧ ClsV c u ∧ PySem.W.kitOne K (.ref D) u = some b ∧ Q (.bl b) H
def rIsEVT (K : PySem.W.Frag) : List V → Hp → VK → Prop := fun xs H Q => ∃ (a D tp : Addr) (cs : List V) (us : List Value) (b : Bool), xs = [.ref a, .ref tp] ∧ H a = some (ExV (.ref D) a) ∧ ExcC K D ∧ H tp = some (.tup cs) ∧ Paired ClsV cs us ∧ PySem.W.kitAny K (.ref D) us = some b ∧ Q (.bl b) H
section
variable {X : Cx} {pins : List (Addr × Obj)} {σ : St} {H : Hp} {s : Shared}
theorem exv_at {a D : Addr} (I : Inv X pins σ H s) (e : H a = some (ExV (.ref D) a)) : ∃ oe, PySem.W.InstAt s.heap a oe D none := by
  have told : ObjOk X.prog X.w H s.heap a (ExV (.ref D) a) := I.hok a _ e
  obtain ⟨⟨⟨c1, d1, dat1, sl1⟩, vs, at1, ⟨g1, g2⟩, g3⟩, _, _⟩ := told
  dsimp only at g1 g2 g3
  subst g1 g2 g3
  exact ⟨_, at1, rfl, rfl, trivial⟩
theorem call_isEV : CallR X (.builtin "isinstance") (rIsEV X.K) := by
  intro pins s σ H args us Q I rel hyp
  obtain ⟨a, D, c, u, b, rfl, ha, C, k, e, q⟩ := hyp
  obtain ⟨w1, w2, rfl, rel1, rel2⟩ := vals2 rel
  obtain rfl : w1 = Value.ref a := rel1
  obtain rfl := k.eq rel2
  obtain ⟨oe, J⟩ := exv_at I ha
  exact PySem.W.kia_one (PySem.W.handS_kitx_exc C.hg C.hk C.hs C.hd C.ha C.hn C.ht C.hm) I.kIn J e (fun z => nomatch z) fun tk => ⟨.bl b, H, I.tok tk, rfl, q⟩
theorem call_isEVT : CallR X (.builtin "isinstance") (rIsEVT X.K) := by
  intro pins s σ H args us Q I rel hyp
  obtain ⟨a, D, tp, cs, ws, b, rfl, ha, C, hT, k, e, q⟩ := hyp
  obtain ⟨w1, w2, rfl, rel1, rel2⟩ := vals2 rel
  obtain rfl : w1 = Value.ref a := rel1
  obtain rfl : w2 = Value.ref tp := rel2
  obtain ⟨oe, J⟩ := exv_at I ha
  have told : ObjOk X.prog X.w H s.heap tp (.tup cs) := I.hok tp _ hT
  obtain ⟨_, elems, relc, ⟨c1, d1, dat1, sl1⟩, at1, g1, m1, g2⟩ := told
  obtain rfl := ClsV.all k relc
  dsimp only at g1 g2
  subst g1 g2
  exact PySem.W.kia_tup (PySem.W.handS_kitx_exc C.hg C.hk C.hs C.hd C.ha C.hn C.ht C.hm) I.kIn J at1 e (fun z => nomatch z) fun tk => ⟨.bl b, H, I.tok tk, rfl, q⟩
end
end L2

namespace Sm
open PySem PySem.Spec L2 PyProof.Rows
/-- an error of the class cls is what a clause with the class S takes -/
theorem exm_of {K : PySem.W.Frag} {S : Addr} {cls : Value} (h1 : PySem.W.subIn K (.ref S) (.type "BaseException") = some true) (h2 : PySem.W.isClsIn K S = true) (h3 : PySem.W.typeIn K (.ref S) = some (.type "type")) (h4 : PySem.W.subIn K cls (.ref S) = some true) :
    PySem.W.exmOne K cls (.ref S) = some true := by
  have e1 : (PySem.W.subIn K (.ref S) (.type "BaseException") == some true) = true := by rw [h1] <;> rfl
  have e2 : ((PySem.W.clsIn K S).isSome && PySem.W.typeIn K (.ref S) == some (.type "type")) = true := by
    have h2' : (PySem.W.clsIn K S).isSome = true := h2
    rw [h2', h3] <;> rfl
  show (if (PySem.W.subIn K (.ref S) (.type "BaseException") == some true) = true then (if ((PySem.W.clsIn K S).isSome && PySem.W.typeIn K (.ref S) == some (.type "type")) = true then PySem.W.subIn K cls (.ref S) else none) else none) = some true
  rw [if_pos e1, if_pos e2]
  exact h4
theorem kit_ref {K : PySem.W.Frag} {D C : Addr} {b : Bool} (h2 : PySem.W.isClsIn K C = true) (h3 : PySem.W.typeIn K (.ref C) = some (.type "type")) (h4 : PySem.W.subIn K (.ref D) (.ref C) = some b) (h5 : D = C → b = true) : PySem.W.kitOne K (.ref D) (.ref C) = some b := by
  have e2 : ((PySem.W.clsIn K C).isSome && PySem.W.typeIn K (.ref C) == some (.type "type")) = true := by
    have h2' : (PySem.W.clsIn K C).isSome = true := h2
    rw [h2', h3] <;> rfl
  unfold PySem.W.kitOne
  by_cases c : D = C
  · rw [if_pos (by rw [c]; simp), h5 c]
  · rw [if_neg (by simpa using c)]
    show (if ((PySem.W.clsIn K C).isSome && PySem.W.typeIn K (.ref C) == some (.type "type")) = true then PySem.W.subIn K (.ref D) (.ref C) else none) = some b
    rw [if_pos e2, h4]
theorem kit_val {K : PySem.W.Frag} {D : Addr} (h : PySem.W.subIn K (.ref D) (.type "ValueError") = some true) : PySem.W.kitOne K (.ref D) (.type "ValueError") = some true := by
  unfold PySem.W.kitOne
  rw [if_neg (by simp)]
  show (if PySem.W.kitMeta "ValueError" = true then PySem.W.subIn K (.ref D) (.type "ValueError") else none) = some true
  rw [if_pos (by decide +kernel), h]
end Sm

namespace Sm
open PySem PySem.Spec L2 PyProof.Rows
/-- a putting that may end in Full; the error is kept -/
def spRefused (CR CF : Addr) : Sp := fun vs H Q _ => ∃ (S : RS) (p l d : Addr) (x : V), vs = [.ref p, x] ∧ RowAt CR S p l d H ∧ Ok S ∧ goodX x S.line = true ∧ S.line.length < 200 ∧
  (∀ m' sv ch, PutM S (atOf S.line x) m' sv ch → ∀ H', RowAt CR (S.put (atOf S.line x) m' ch) p l d H' → RFr p l d H H' → Q .non H') ∧
  (PutFull S (atOf S.line x) → ∀ (a : Addr) (H' : Hp), H a = none → Same H H' → H' a = some (ExV (.ref CF) a) → Q (.ref a) H')
section
variable {P : Program} {w : World} {K : PySem.W.Frag} {mg : Str → Option Value} {base : Heap} {CB CN CT CF CS CR : Addr} {f : Addr} {fd : FuncData}
theorem ok_l_refused (F : Fun K "_law_refused" "_law_refused" s_l_refused f fd) (T : Txt K mg CB CN CT CF CS) (TC : ClsT K CR) (s_Full : PySem.W.subIn K (.ref CF) (.ref CS) = some true) (m_put : Mth P w K mg base 5 CR "put" [] (spPut K CR CN CT CF)) : FnOk P w K mg base (L2.CX P w) 6 f fd ["_law_row", "_law_one"] (spRefused CR CF) := by
  refine F.okX sc_l_refused (fun vs H Q E h => ?_) (fun cdv A outer s H vs Q E hr h => ?_)
  · obtain ⟨S, p, l, d, x, rfl, _⟩ := h; rfl
  · obtain ⟨S, p, l, d, x, rfl, R, ok, hx, hl, q1, q2⟩ := h
    refine ⟨_, (pss_cons (ps_set (i := 2) sc_l_refused.nd rfl (by first | exact Or.inl rfl | exact Or.inr rfl) pe_non)
      (pss_cons (ps_try_keep (i := 3) (tb := fun W => tDrop (tMthS CR "put" (spPut K CR CN CT CF) [] (WE W) (tVar 0) (tCons (tVar 1) tNil))) (ts := fun _ => tAsg (tVar 3) (gName 2)) rfl rfl sc_l_refused.nd rfl rfl ⟨rfl, by decide, .inl T.x_SeatError.gC⟩ rfl (fun W pn xe tk _ => by exact (pss_one (ps_expr (Sm.pe_mthS m_put (hr.mono (by decide)) (fun σ => passAt tk σ) (pv 0) (pa_cons (pv 1) pa_nil))))) (fun a oe pn => by exact (pss_one (ps_set (i := 2) sc_l_refused.nd rfl (by first | exact Or.inl rfl | exact Or.inr rfl) (pv 3)))))
      (pss_one (ps_ret (pv 2))))), ?_⟩
    obtain ⟨dx, o⟩ := R.ob
    refine ⟨_, rfl, p, _, _, rfl, o, no_put, _, rfl, tnil (try_put R ok hx hl (fun m' sv ch hP t cl v5 cs H' h1 h2 h3 h4 h5 h6 h7 h8 h9 => ⟨_, rfl, q1 m' sv ch hP H' h8 h9⟩) (fun hF H' s => ?_))⟩
    refine ⟨exm_of T.x_SeatError.bC T.x_SeatError.iC T.x_SeatError.tC s_Full, rfl, fun a ha => ?_⟩
    exact ⟨_, rfl, _, rfl, q2 hF a _ (s.free ha) (s.trans (upd_new ha)) upd_same⟩
end
end Sm

namespace Sm
open PySem PySem.Spec L2 PyProof.Rows
/-- what the classes say of each other -/
structure FullSub (K : PySem.W.Frag) (CB CN CT CF : Addr) : Prop where
  ec : ExcC K CF
  ff : PySem.W.subIn K (.ref CF) (.ref CF) = some true
  fb : PySem.W.subIn K (.ref CF) (.ref CB) = some false
  fn : PySem.W.subIn K (.ref CF) (.ref CN) = some false
  ft : PySem.W.subIn K (.ref CF) (.ref CT) = some false
  fv : PySem.W.subIn K (.ref CF) (.type "ValueError") = some true
def spIsFull (CF : Addr) : Sp := fun vs H Q _ => ∃ a, vs = [.ref a] ∧ H a = some (ExV (.ref CF) a) ∧ ∀ H', Same H H' → Q (.bl true) H'
section
variable {P : Program} {w : World} {K : PySem.W.Frag} {mg : Str → Option Value} {base : Heap} {CB CN CT CF CS CR : Addr} {f : Addr} {fd : FuncData}
theorem ok_l_is_full (F : Fun K "_law_is_full" "_law_is_full" s_l_is_full f fd) (T : Txt K mg CB CN CT CF CS) (Z : FullSub K CB CN CT CF) : FnOk P w K mg base (L2.CX P w) 1 f fd ["_law_caught"] (spIsFull CF) := by
  refine F.okX sc_l_is_full (fun vs H Q E h => ?_) (fun cdv A outer s H vs Q E hr h => ?_)
  · obtain ⟨a, rfl, _⟩ := h; rfl
  · obtain ⟨a, rfl, ha, q⟩ := h
    refine ⟨_, (pss_cons (ps_set (i := 1) sc_l_is_full.nd rfl (by first | exact Or.inl rfl | exact Or.inr rfl) (pe_callB call_isEVT (by rfl) T.n_isinstance (by decide +kernel) (pa_cons (pv 0) (pa_cons (pe_tup (pa_cons (pe_glob (v := .ref CB) rfl T.x_BadWide.gC rfl) (pa_cons (pe_glob (v := .ref CN) rfl T.x_NoThing.gC rfl) (pa_cons (pe_glob (v := .ref CT) rfl T.x_TooMany.gC rfl) pa_nil)))) pa_nil))))
      (pss_one (ps_ret (pe_and (pe_callB call_isEV (by rfl) T.n_isinstance (by decide +kernel) (pa_cons (pv 0) (pa_cons (pe_glob (v := .ref CF) rfl T.x_Full.gC rfl) pa_nil))) (pe_and (pe_callB call_isEV (by rfl) T.n_isinstance (by decide +kernel) (pa_cons (pv 0) (pa_cons (pe_bltn (v := .ty "ValueError") rfl T.n_ValueError (by decide +kernel) rfl) pa_nil))) (pe_one (pe_not (pv 1)))))))), ?_⟩
    have ne : ∀ {C : Addr}, PySem.W.subIn K (.ref CF) (.ref C) = some false → CF = C → false = true := fun h e => by
      rw [← e, Z.ff] at h; cases h
    refine ⟨_, rfl, (by show 3 ≤ sizeLine; decide), fun tp htp => ?_⟩
    have s1 : Same H (upd H tp (.tup [.ref CB, .ref CN, .ref CT])) := upd_new htp
    refine ⟨a, CF, tp, [.ref CB, .ref CN, .ref CT], [.ref CB, .ref CN, .ref CT], false, rfl, s1 _ _ ha, Z.ec, upd_same, .cons (.own _) (.cons (.own _) (.cons (.own _) .nil)),
      kitAny_cons (kit_ref T.x_BadWide.iC T.x_BadWide.tC Z.fb (ne Z.fb)) (fun _ => kitAny_cons (kit_ref T.x_NoThing.iC T.x_NoThing.tC Z.fn (ne Z.fn)) (fun _ => kitAny_cons (kit_ref T.x_TooMany.iC T.x_TooMany.tC Z.ft (ne Z.ft)) (fun _ => kitAny_nil) (fun z => by cases z)) (fun z => by cases z)) (fun z => by cases z), ?_⟩
    generalize upd H tp (.tup [.ref CB, .ref CN, .ref CT]) = H1 at s1
    have ha1 := s1 _ _ ha
    refine ⟨_, rfl, a, CF, .ref CF, .ref CF, true, rfl, ha1, Z.ec, .own _, kit_ref T.x_Full.iC T.x_Full.tC Z.ff (fun _ => rfl), _, rfl, iteT ?_⟩
    refine ⟨_, rfl, a, CF, .ty "ValueError", .type "ValueError", true, rfl, ha1, Z.ec, .ty "ValueError", kit_val Z.fv, _, rfl, iteT ?_⟩
    exact ⟨_, rfl, _, rfl, q H1 s1⟩
end
end Sm

namespace Sm
open PySem PySem.Spec L2 PyProof.Rows
def spRoomOf (CR : Addr) : Sp := fun vs H Q _ => ∃ (S : RS) (p l d ll : Addr) (v : V), vs = [.ref p, .ref ll, .int S.w, v] ∧ RowAt CR S p l d H ∧ Ok S ∧ H ll = some (.lst (S.line.map V.int)) ∧ goodX v S.line = true ∧ S.line.length ≤ 300 ∧ Q (.int (highAt S (atOf S.line v) - lowAt S (atOf S.line v))) H
section
variable {P : Program} {w : World} {K : PySem.W.Frag} {mg : Str → Option Value} {base : Heap} {CB CN CT CF CS CR : Addr} {f : Addr} {fd : FuncData}
theorem ok_l_room (F : Fun K "_law_room" "_law_room" s_l_room f fd) (T : Txt K mg CB CN CT CF CS) (TC : ClsT K CR) (m_mark : Mth P w K mg base 3 CR "mark" [] (spMark K CR CN)) : FnOk P w K mg base (L2.CX P w) 4 f fd ["_law_row", "_law_line", "_law_wide", "_law_one"] (spRoomOf CR) := by
  refine F.okX sc_l_room (fun vs H Q E h => ?_) (fun cdv A outer s H vs Q E hr h => ?_)
  · obtain ⟨S, p, l, d, ll, v, rfl, _⟩ := h; rfl
  · obtain ⟨S, p, l, d, ll, v, rfl, R, ok, hl, hv, hlen, q⟩ := h
    refine ⟨_, (Evl.pss_cut (ps_set (i := 4) sc_l_room.nd rfl (by first | exact Or.inl rfl | exact Or.inr rfl) (pe_ifExp (pt_cmpR op_isN (pv 3) pe_non (nomark _)) pe_int (pe_op op_add (pe_bm PySem.F.plainAttrs_list PySem.F.slot_list_index PySem.F.type_list_index mt_index (pv 1) (pa_cons (pv 3) pa_nil)) pe_int)))
      (Evl.pss_cut (ps_set (i := 5) sc_l_room.nd rfl (by first | exact Or.inl rfl | exact Or.inr rfl) (pe_ifExp (pt_cmpR op_eq (pv 4) pe_int (nomark _)) (pe_un un_neg pe_int) (Sm.pe_mth m_mark (hr.mono (by decide)) passL (pv 0) (pa_cons (pe_ix ix_list (pv 1) (pe_op op_sub (pv 4) pe_int) (fun _ _ => rfl)) pa_nil))))
      (Evl.pss_cut (ps_set (i := 6) sc_l_room.nd rfl (by first | exact Or.inl rfl | exact Or.inr rfl) (pe_ifExp (pt_cmpR op_eq (pv 4) (pe_callB call_len_seq (by rfl) T.n_len PySem.boot_len (pa_cons (pv 1) pa_nil)) (nomark _)) (pe_op Sm.op_shl1 pe_int (pv 2)) (Sm.pe_mth m_mark (hr.mono (by decide)) passL (pv 0) (pa_cons (pe_ix ix_list (pv 1) (pv 4) (fun _ _ => rfl)) pa_nil))))
      (pss_one (ps_ret (pe_op op_sub (pv 6) (pv 5))))))), ?_⟩
    have ha := at_le hv
    obtain ⟨dx, o⟩ := R.ob
    refine ⟨fun σ H' => σ = [some (.ref p), some (.ref ll), some (.int S.w), some v, some (.int (atOf S.line v : Int)), none, none] ∧ H' = H, ?_, ?_⟩
    · refine ⟨_, rfl, rfl, _, rfl, ?_⟩
      rcases good_cases hv with rfl | ⟨x, rfl, hx⟩
      · exact ifT rfl ⟨rfl, rfl⟩
      · obtain ⟨jx, j1, j2, j3, j4⟩ := first_at hx
        refine ifF (by intro zz; cases zz) ⟨_, rfl, .inl ⟨rfl, _, SqL.of hl⟩, _, rfl, ll, _, .int x, jx, .int x, rfl, rfl, SqL.of hl, rfl, all_flat _, ?_, ?_, fun kx z' hk hz => ?_, _, _, rfl, rfl, ?_⟩
        · rw [List.getElem?_map, j1]; rfl
        · exact beq_self_eq_true x
        · obtain ⟨zz, rfl, hz1, _, _⟩ := getI hz
          have : zz ≠ x := fun e => j2 kx hk (e ▸ hz1)
          show (zz == x) = false
          simpa using this
        · refine ⟨?_, rfl⟩
          rw [show (atOf S.line (.int x) : Int) = (jx : Int) + 1 by show ((S.line.idxOf x + 1 : Nat) : Int) = _; rw [j4]; omega]
          rfl
    rintro σ H2 ⟨rfl, rfl⟩
    generalize atOf S.line v = at0 at ha q
    have mk : ∀ (j : Nat) (hj : j < S.line.length) (Q' : VK), Q' (.int (S.m (S.line.getD j 0))) H2 → spMark K CR CN [.ref p, .int (S.line.getD j 0)] H2 Q' E0 := fun j hj Q' k =>
      ⟨S, p, l, d, _, rfl, R, ok, .int, fun x' ex _ => by obtain rfl : S.line.getD j 0 = x' := V.int.inj ex; exact k, fun zz => by rw [show inLine (.int (S.line.getD j 0)) S.line = true from decide_eq_true (getD_mem hj)] at zz; cases zz⟩
    refine ⟨fun σ H' => σ = [some (.ref p), some (.ref ll), some (.int S.w), some v, some (.int (at0 : Int)), some (.int (lowAt S at0)), none] ∧ H' = H2, ?_, ?_⟩
    · refine ⟨_, rfl, rfl, _, rfl, ?_⟩
      rw [low_of]
      by_cases c : at0 = 0
      · subst c
        refine ifT rfl ?_
        rw [if_pos rfl]
        exact ⟨_, rfl, rfl, rfl⟩
      · refine ifF (fun z => c (by have := V.int.inj z; omega)) ?_
        rw [if_neg c]
        have hlt2 : at0 - 1 < S.line.length := by omega
        exact ⟨_, rfl, p, _, _, rfl, o, no_mark, _, rfl, _, rfl, _, _, rfl, rfl, ll, _, _, _, rfl, rfl, SqL.of hl, at_of (j := at0 - 1) (by omega) (getD_at hlt2), tnil (mk _ hlt2 _ ⟨rfl, rfl⟩)⟩
    rintro σ H3 ⟨rfl, rfl⟩
    refine ⟨fun σ H' => σ = [some (.ref p), some (.ref ll), some (.int S.w), some v, some (.int (at0 : Int)), some (.int (lowAt S at0)), some (.int (highAt S at0))] ∧ H' = H3, ?_, ?_⟩
    · refine ⟨_, rfl, _, rfl, ll, _, rfl, .inl (SqL.of hl), rfl, _, rfl, ?_⟩
      rw [high_of ha, List.length_map]
      by_cases c : at0 = S.line.length
      · refine ifT (congrArg V.int (by omega)) ?_
        rw [if_pos c]
        exact ⟨_, rfl, S.w, rfl, rfl, by have := ok.w60; omega, rfl, rfl⟩
      · refine ifF (fun z => c (by have := V.int.inj z; omega)) ?_
        rw [if_neg c]
        have hlt2 : at0 < S.line.length := by omega
        exact ⟨_, rfl, p, _, _, rfl, o, no_mark, _, rfl, _, rfl, ll, _, _, _, rfl, rfl, SqL.of hl, at_of (j := at0) rfl (getD_at hlt2), tnil (mk _ hlt2 _ ⟨rfl, rfl⟩)⟩
    rintro σ H4 ⟨rfl, rfl⟩
    exact ⟨_, rfl, _, rfl, _, _, rfl, rfl, q⟩
/-- a full row is too full on its top level -/
theorem full_top {S : RS} (hS : Ok S) {a : Nat} (ha : a ≤ S.line.length) (h : PutFull S a) : tooMany S.w ((S.line.length : Int) + 1) = true := by
  have h1 := h.2 S.w (Nat.le_refl _)
  have b0 := mk0_bd hS ha
  have e : startOf S.w (mk0 (lowAt S a)) = 0 := by
    unfold startOf
    rw [Int.ediv_eq_zero_of_lt b0.1 b0.2, Int.zero_mul]
  have c : cnt S S.w 0 = S.line.length := by
    unfold cnt
    rw [List.filter_eq_self.mpr fun x hx => ?_]
    have := hS.mks x hx
    unfold inSt
    rw [decide_eq_true this.1, decide_eq_true (by omega)]; rfl
  unfold goodLv at h1
  rw [e, c] at h1
  simpa using h1
end
end Sm

namespace Sm
open PySem PySem.Spec L2 PyProof.Rows
section
variable {P : Program} {w : World} {K : PySem.W.Frag} {mg : Str → Option Value} {base : Heap} {CB CN CT CF CS CR : Addr} {f : Addr} {fd : FuncData}
theorem one_room {w : Nat} : tooMany w (((0 : Nat) : Int) + 1) = false := by
  refine decide_eq_false ?_
  have : (3 : Int) ^ w ≤ 4 ^ w := by exact_mod_cast Nat.pow_le_pow_left (by decide : 3 ≤ 4) w
  omega
theorem ok_law (F : Fun K "law" "law" s_law f fd) (T : Txt K mg CB CN CT CF CS) (TC : ClsT K CR) (d__law_next : Dfn P w K mg base 1 "_law_next" [] (spNext K)) (d__law_place : Dfn P w K mg base 2 "_law_place" [] (spPlace K)) (d__law_too_many : Dfn P w K mg base 1 "_law_too_many" [] spTooMany)
    (d__law_refused : Dfn P w K mg base 6 "_law_refused" [] (spRefused CR CF)) (d__law_is_full : Dfn P w K mg base 1 "_law_is_full" [] (spIsFull CF)) (d__law_room : Dfn P w K mg base 4 "_law_room" [] (spRoomOf CR))
    (k_Row : Mke P w K mg base 3 CR "Row" (spInit K CR CB)) (m_things : Mth P w K mg base 1 CR "things" [] (spThings CR)) (m_take : Mth P w K mg base 3 CR "take" [] (spTake K CR CN)) (m_mark : Mth P w K mg base 3 CR "mark" [] (spMark K CR CN)) (m_purse : Mth P w K mg base 1 CR "purse" [] (spPurse CR)) (m_put : Mth P w K mg base 5 CR "put" [] (spPut K CR CN CT CF)) :
    FnOk P w K mg base CX0 10 f fd ["_law_script"] (spLaw K) := by
  refine F.ok sc_law (fun vs H Q E h => ?_) (fun cdv A outer s H vs Q E hr h => ?_)
  · obtain ⟨a, ns, rfl, _⟩ := h; rfl
  · obtain ⟨a, ns, rfl, hx, hlen, q⟩ := h
    refine ⟨_, (pss_cons (ps_set (i := 1) sc_law.nd rfl (by first | exact Or.inl rfl | exact Or.inr rfl) (pe_disp (pps_cons pe_str (pv 0) (pps_cons pe_str pe_int pps_nil)) (by rfl) (by rfl) (fun z => by cases z) (by decide)))
      (pss_cons (ps_set (i := 2) sc_law.nd rfl (by first | exact Or.inl rfl | exact Or.inr rfl) (pe_op op_add pe_int (pe_op op_mod (pe_op op_fdiv (Sm.pe_def d__law_next (hr.mono (by decide)) passL (pa_cons (pv 1) pa_nil)) pe_int) pe_int)))
      (pss_cons (ps_set (i := 3) sc_law.nd rfl (by first | exact Or.inl rfl | exact Or.inr rfl) (Sm.pe_mk k_Row (hr.mono (by decide)) passL (pa_cons (pv 2) pa_nil)))
      (pss_cons (ps_set (i := 4) sc_law.nd rfl (by first | exact Or.inl rfl | exact Or.inr rfl) (pe_disp (pps_cons pe_str (pe_lst pa_nil) (pps_cons pe_str pe_int pps_nil)) (by rfl) (by rfl) (fun z => by cases z) (by decide)))
      (pss_cons (ps_for PassesOwn.never rfl (pi_list (pe_slice sl_list (pv 0) po_none (po_some pe_int))) (pg_name (i := 5) sc_law.nd rfl (by first | exact Or.inl rfl | exact Or.inr rfl))
        (pss_cons (ps_set (i := 6) sc_law.nd rfl (by first | exact Or.inl rfl | exact Or.inr rfl) (pe_op op_add (pe_op op_fdiv (Sm.pe_def d__law_next (hr.mono (by decide)) passL (pa_cons (pv 1) pa_nil)) pe_int) (pe_op op_mod (pv 5) pe_int)))
        (pss_cons (ps_set (i := 7) sc_law.nd rfl (by first | exact Or.inl rfl | exact Or.inr rfl) (pe_dget (hu_of hr) (pv 4) pe_str (fun _ _ => rfl)))
        (Evl.pss_cut (ps_if (PW.pt (pw_and (pt_cmpR op_eq (pe_op op_mod (pv 6) pe_int) pe_int (nomark _)) (pw_and1 (pt_cmpR (op_neD hr.units) (pv 7) (pe_lst pa_nil) (nomark _)))))
          (pss_cons (ps_expr (Sm.pe_mth m_take (hr.mono (by decide)) passL (pv 3) (pa_cons (pe_bm PySem.F.plainAttrs_list PySem.F.slot_list_pop PySem.F.type_list_pop mt_popAt (pv 7) (pa_cons (pe_op op_mod (pe_op op_fdiv (pv 6) pe_int) (pe_callB call_len_seq (by rfl) T.n_len PySem.boot_len (pa_cons (pv 7) pa_nil))) pa_nil)) pa_nil)))
          (pss_one ps_continue))
          pss_nil)
        (pss_cons (ps_set (i := 8) sc_law.nd rfl (by first | exact Or.inl rfl | exact Or.inr rfl) (Sm.pe_def d__law_place (hr.mono (by decide)) passL (pa_cons (pv 1) (pa_cons (pv 4) pa_nil))))
        (pss_cons (ps_set (i := 9) sc_law.nd rfl (by first | exact Or.inl rfl | exact Or.inr rfl) (pe_lst (pa_cons (Sm.pe_mth0 m_things (hr.mono (by decide)) passL (pv 3)) (pa_cons (pe_lc (own := [("_law_thing", 10)]) (g := gName 10) rfl sc_law.nd (pi_list (pv 7)) (blkOk_by (N := ["_law_script", "_law_state", "_law_wide", "_law_row", "_law_m", "_law_cell", "_law_n", "_law_line", "_law_one", "_law_kept", "_law_thing", "_law_room_here", "_law_caught"]) (sc := defScope s_law) (by decide +kernel)) (fun _ _ _ _ _ => pg_name (i := 10) sc_law.nd rfl (Or.inl rfl)) (fun _ _ _ _ _ => pts_nil) (fun _ _ _ _ _ => by exact (Sm.pe_mth m_mark (hr.mono (by decide)) passL (pv 3) (pa_cons (pv 10) pa_nil)))) (pa_cons (Sm.pe_mth0 m_purse (hr.mono (by decide)) passL (pv 3)) pa_nil)))))
        (pss_cons (ps_set (i := 11) sc_law.nd rfl (by first | exact Or.inl rfl | exact Or.inr rfl) (Sm.pe_def d__law_room (hr.mono (by decide)) passL (pa_cons (pv 3) (pa_cons (pv 7) (pa_cons (pv 2) (pa_cons (pv 8) pa_nil))))))
        (pss_cons (ps_set (i := 12) sc_law.nd rfl (by first | exact Or.inl rfl | exact Or.inr rfl) (Sm.pe_def d__law_refused (hr.mono (by decide)) passL (pa_cons (pv 3) (pa_cons (pv 8) pa_nil))))
        (pss_one (ps_if (pt_cmpR op_isN (pv 12) pe_non (nomark _))
          (Evl.pss_cut (ps_expr (pe_bm PySem.F.plainAttrs_list PySem.F.slot_list_insert PySem.F.type_list_insert mt_insert (pv 7) (pa_cons (pe_ifExp (pt_cmpR op_isN (pv 8) pe_non (nomark _)) pe_int (pe_op op_add (pe_bm PySem.F.plainAttrs_list PySem.F.slot_list_index PySem.F.type_list_index mt_index (pv 7) (pa_cons (pv 8) pa_nil)) pe_int)) (pa_cons (pe_dget (hu_of hr) (pv 4) pe_str (fun _ _ => rfl)) pa_nil))))
          (pss_one (ps_dput (hu_of hr) (pv 4) pe_str (pe_op op_add (pe_dget (hu_of hr) (pv 4) pe_str (fun _ _ => rfl)) pe_int) rfl)))
          (pss_one (ps_if (PW.pt (pw_or (pt_not (pt_val (Sm.pe_def d__law_is_full (hr.mono (by decide)) passL (pa_cons (pv 12) pa_nil)))) (pw_or (pt_cmpR op_gt (pv 11) pe_int (nomark _)) (pw_or1 (pt_not (pt_val (Sm.pe_def d__law_too_many (hr.mono (by decide)) passL (pa_cons (pv 2) (pa_cons (pe_op op_add (pe_callB call_len_seq (by rfl) T.n_len PySem.boot_len (pa_cons (pv 7) pa_nil)) pe_int) pa_nil)))))))))
            (pss_one (ps_ret pe_bl))
            (pss_one (ps_if (pt_cmpR (op_neD hr.units) (pe_lst (pa_cons (Sm.pe_mth0 m_things (hr.mono (by decide)) passL (pv 3)) (pa_cons (pe_lc (own := [("_law_thing", 10)]) (g := gName 10) rfl sc_law.nd (pi_list (pv 7)) (blkOk_by (N := ["_law_script", "_law_state", "_law_wide", "_law_row", "_law_m", "_law_cell", "_law_n", "_law_line", "_law_one", "_law_kept", "_law_thing", "_law_room_here", "_law_caught"]) (sc := defScope s_law) (by decide +kernel)) (fun _ _ _ _ _ => pg_name (i := 10) sc_law.nd rfl (Or.inl rfl)) (fun _ _ _ _ _ => pts_nil) (fun _ _ _ _ _ => by exact (Sm.pe_mth m_mark (hr.mono (by decide)) passL (pv 3) (pa_cons (pv 10) pa_nil)))) (pa_cons (Sm.pe_mth0 m_purse (hr.mono (by decide)) passL (pv 3)) pa_nil)))) (pv 9) (nomark _))
              (pss_one (ps_ret pe_bl))
              pss_nil))))))))))))))
      (pss_cons (ps_set (i := 7) sc_law.nd rfl (by first | exact Or.inl rfl | exact Or.inr rfl) (pe_dget (hu_of hr) (pv 4) pe_str (fun _ _ => rfl)))
      (pss_cons (ps_while PassesOwn.never (pt_val (Sm.pe_def d__law_too_many (hr.mono (by decide)) passL (pa_cons (pv 2) (pa_cons (pe_op op_add (pe_callB call_len_seq (by rfl) T.n_len PySem.boot_len (pa_cons (pv 7) pa_nil)) pe_int) pa_nil))))
        (pss_one (ps_expr (Sm.pe_mth m_take (hr.mono (by decide)) passL (pv 3) (pa_cons (pe_bm0 PySem.F.plainAttrs_list PySem.F.slot_list_pop PySem.F.type_list_pop mt_pop (pv 7)) pa_nil)))))
      (pss_cons (ps_set (i := 8) sc_law.nd rfl (by first | exact Or.inl rfl | exact Or.inr rfl) (pe_ix ix_list (pe_op op_cat (pv 7) (pe_lst (pa_cons pe_non pa_nil))) pe_int (fun _ _ => rfl)))
      (pss_one (ps_ret (pe_and (pe_cmpR op_eq (pe_ix ix_tup (Sm.pe_mth m_put (hr.mono (by decide)) passL (pv 3) (pa_cons (pv 8) pa_nil)) pe_int (fun _ _ => rfl)) (pe_dget (hu_of hr) (pv 4) pe_str (fun _ _ => rfl)) (nomark _)) (pe_one (pe_cmpR op_eq (pe_callB call_len_seq (by rfl) T.n_len PySem.boot_len (pa_cons (Sm.pe_mth0 m_things (hr.mono (by decide)) passL (pv 3)) pa_nil)) (pe_op op_add (pe_callB call_len_seq (by rfl) T.n_len PySem.boot_len (pa_cons (pv 7) pa_nil)) pe_int) (nomark _)))))))))))))), ?_⟩
    -- the numbers' state
    intro st hst
    refine ⟨_, rfl, upd_same, stK a 0, rfl, (show 2 ≤ 15 by decide), ?_⟩
    rw [merge_st, upd_upd]
    have X1 := ((Scr.of hx).add hst).same (upd_new (o := .dK (stK a 0)) hst)
    have hs1 : (upd H st (.dK (stK a 0))) st = some (.dK (stK a 0)) := upd_same
    generalize upd H st (.dK (stK a 0)) = H1 at X1 hs1
    -- _law_wide
    refine ⟨_, rfl, st, a, ns, 0, rfl, hs1, X1.sq, by omega, by omega, by omega, fun z H2 hz0 hz1 hs2 f2 => ?_⟩
    have X2 := X1.keep fun o e nb => f2 _ _ e fun z => nb (by rw [z]; simp)
    refine ⟨_, _, rfl, rfl, ⟨by decide, by decide⟩, _, _, rfl, rfl, (show (0 : Int) < 6 by decide), _, _, rfl, rfl, ?_⟩
    obtain ⟨wd, hwd, hw1, hw2⟩ : ∃ wd : Nat, 4 + z / 3 % 6 = (wd : Int) ∧ 4 ≤ wd ∧ wd ≤ 9 := ⟨(4 + z / 3 % 6).toNat, by omega, by omega, by omega⟩
    refine ⟨_, rfl, ?_⟩
    intro p dx hp hdx ndx
    have X3 := (X2.add hp).same ((upd_new (o := .own p) hdx).trans (upd_new (o := .ins CR dx []) (by rw [upd_ne ndx.symm]; exact hp)))
    have hs3 : (upd (upd H2 dx (.own p)) p (.ins CR dx [])) st = some (.dK (stK a (0 + 1))) := by rw [upd_ne (ne_of_none hs2 hp), upd_ne (ne_of_none hs2 hdx)]; exact hs2
    refine ⟨p, dx, _, rfl, upd_same, .int, fun w' ew h4 h60 l d H4 hl0 hd0 R4 f4 => ⟨rfl, ?_⟩, fun zz => ?_⟩
    rotate_left
    · have : amongV (.int (4 + z / 3 % 6)) 4 60 = true := among_int.mpr (by omega)
      rw [zz] at this; cases this
    have X4 := ((X3.add hl0).add hd0).keep fun o e nb => f4 _ _ e fun z => nb (by rw [z]; simp)
    have hpst : p ≠ st := (ne_of_none hs2 hp).symm
    have hs4 := f4 _ _ hs3 hpst.symm
    have ndst : d ≠ st := (ne_of_none hs3 hd0).symm
    have hw' : w' = wd := by have := V.int.inj ew; omega
    subst hw'
    -- m = {..}
    intro mm hmm
    refine ⟨(by show 0 ≤ sizeLine; decide), fun ll hll => ?_⟩
    have nml : mm ≠ ll := ne_of_none (o := .dK []) upd_same hll
    refine ⟨by rw [upd_ne nml]; exact upd_same, mK ll 0, rfl, (show 2 ≤ 15 by decide), ?_⟩
    rw [merge_m]
    have hll4 : H4 ll = none := by rw [upd_ne nml.symm] at hll; exact hll
    have s5 : Same H4 (upd (upd (upd H4 mm (.dK [])) ll (.lst [])) mm (.dK (mK ll 0))) := fun b o h => by
      rw [upd_ne (ne_of_none h hmm), upd_ne (ne_of_none h hll4), upd_ne (ne_of_none h hmm)]; exact h
    have I5 : LI K CR a st p l d mm ll [(a, ns.map V.int)] ⟨w', [], fun _ => 0, 0, 0⟩ [] 0 (0 + 1) (upd (upd (upd H4 mm (.dK [])) ll (.lst [])) mm (.dK (mK ll 0))) := by
      refine ⟨s5 _ _ hs4, fun q hq => ?_, by omega, R4.same s5, ⟨h4, h60, List.nodup_nil, Nat.zero_le _, fun x hx => by simp at hx, by show (0 : Int) ≤ 0; omega, fun x hx => by simp at hx⟩, upd_same, by rw [upd_ne nml.symm]; exact upd_same, ndst, ?_, ne_of_none hs4 hmm, ne_of_none R4.ln hll4⟩
      · rw [List.mem_singleton.mp hq]
        exact (((X4.add hmm).add hll4).same s5).sub fun x hx => by
          simp only [List.mem_cons, List.not_mem_nil, or_false] at hx ⊢
          rcases hx with z | z | z | z | z | z <;> simp [z]
      · obtain ⟨kv, h, _⟩ := R4.dc
        exact ne_of_none h hmm
    generalize upd (upd (upd H4 mm (.dK [])) ll (.lst [])) mm (.dK (mK ll 0)) = H7 at I5
    have I7 := I5
    -- for _law_cell in _law_script[:60]
    refine ⟨_, rfl, _, rfl, a, _, rfl, (I7.hx _ List.mem_cons_self).sq, fun ql hql => ?_⟩
    obtain ⟨ms, hms, _⟩ := cut_map (l := ns) (lo := none) (hi := some ((60 : Nat) : Int))
    have hml : ms.length ≤ 60 := by
      have := cut60 (l := ns.map V.int) (k := 60)
      rw [hms, List.length_map] at this; exact this
    refine ⟨ql, rfl, ⟨_, SqL.of upd_same⟩, ?_⟩
    have I8 : LI K CR a st p l d mm ll [(ql, ms.map V.int), (a, ns.map V.int)] ⟨w', [], fun _ => 0, 0, 0⟩ [] 0 (0 + 1) (upd H7 ql (.lst (cutV (ns.map V.int) none (some 60)))) := by
      have J := I7.addq (xs := ms.map V.int) hql
      rw [← hms] at J ⊢
      exact J
    generalize upd H7 ql (.lst (cutV (ns.map V.int) none (some 60))) = H8 at I8
    refine for_list (K := K) (a := ql) (xs := ms.map V.int) (fun i σ H' => ∃ (S : RS) (k : Int) (v5 v6 v7 v8 v9 v10 v11 v12 : Option V), σ = [some (.ref a), some (.ref st), some (.int S.w), some (.ref p), some (.ref mm), v5, v6, v7, v8, v9, v10, v11, v12] ∧
        LI K CR a st p l d mm ll [(ql, ms.map V.int), (a, ns.map V.int)] S S.line S.told k H' ∧ S.w ≤ 9 ∧ S.line.length ≤ i ∧ k ≤ 1 + 2 * (i : Int))
      ⟨_, _, none, none, none, none, none, none, none, none, by show ([some (V.ref a), some (V.ref st), some (V.int (4 + z / 3 % 6)), some (V.ref p), some (V.ref mm), none, none, none, none, none, none, none, none] : L2.St) = _; rw [hwd], I8, hw2, Nat.zero_le _, by omega⟩ (fun i σ H' _ ⟨_, _, _, _, _, _, _, _, _, _, _, I, _⟩ => (I.hx _ List.mem_cons_self).sq) ?_ ?_
    · rintro i y σ H9 hi ⟨S, k, v5, v6, v7, v8, v9, v10, v11, v12, rfl, I9, hSw, hSl, hkk⟩
      obtain ⟨c, rfl, _, _, hil⟩ := getI hi
      have hk0 := I9.hk
      refine ⟨_, rfl, st, a, ns, k, rfl, I9.hs, (I9.hx _ (List.mem_cons_of_mem _ List.mem_cons_self)).sq, by omega, hk0, by omega, fun z H10 hz0 hz1 hs10 f10 => ?_⟩
      have I10 := I9.next (by omega) hs10 f10
      refine ⟨_, _, rfl, rfl, ⟨by decide, by decide⟩, _, rfl, _, _, rfl, rfl, (show (0 : Int) < 5 by decide), _, _, rfl, rfl, _, rfl, mm, _, rfl, dget_of (k := .inr "line") I10.hm mK_line, ?_⟩
      -- a taking, and on
      refine ⟨fun σ H' => σ = [some (.ref a), some (.ref st), some (.int S.w), some (.ref p), some (.ref mm), some (.int c), some (.int (z / 3 + c % 5)), some (.ref ll), v8, v9, v10, v11, v12] ∧ LI K CR a st p l d mm ll [(ql, ms.map V.int), (a, ns.map V.int)] S S.line S.told (k + 1) H', ?_, ?_⟩
      · refine ifs_join (fun b H' => Same H10 H' ∧ (b = true → S.line ≠ [])) (fun Q' kk => ?_) ?_ ?_
        · refine ⟨_, rfl, _, _, rfl, rfl, (show (0 : Int) < 7 by decide), rfl, _, rfl, ?_⟩
          refine ite2 (fun _ => ?_) (fun _ => kk _ _ ⟨Same.refl _, fun z => by cases z⟩)
          refine ⟨_, rfl, (by show 0 ≤ sizeLine; decide), fun e1 he1 => ⟨_, _, dp_ints (SqL.of (upd_new he1 _ _ I10.hl)), dp_ints (ns := []) (SqL.of upd_same), sh_ints _, sh_ints _, _, rfl, ?_⟩⟩
          rw [eqv_ints]
          exact kk _ _ ⟨upd_new he1, fun z => by simpa using z⟩
        · rintro H11 ⟨s11, hne⟩
          have I11 := I10.same s11
          have hpos : 0 < S.line.length := List.length_pos_iff.mpr (hne rfl)
          obtain ⟨j, hj, hjz⟩ := at_ix (line := S.line) (z := (z / 3 + c % 5) / 7) hpos
          have hxj : S.line[j]? = some S.line[j] := List.getElem?_eq_getElem hj
          have hxm : S.line[j] ∈ S.line := List.getElem_mem hj
          obtain ⟨dx11, o11⟩ := I11.R.ob
          have I12 := I11.line (L' := S.line.eraseIdx j)
          have hml2 : (S.line.map V.int).eraseIdx j = (S.line.eraseIdx j).map V.int := erase_map _ _ _
          refine ⟨_, rfl, p, _, _, rfl, o11, no_take, _, rfl, .inl ⟨rfl, _, SqL.of I11.hl⟩, _, rfl, _, _, rfl, rfl, ⟨by decide, by decide⟩, _, rfl, ll, _, rfl, .inl (SqL.of I11.hl), _, _, rfl, rfl, (by show (0 : Int) < ((S.line.map V.int).length : Int); rw [List.length_map]; omega),
            ll, _, _, j, .int S.line[j], rfl, rfl, I11.hl, ?_, ?_, ?_, ?_, ?_⟩
          · rw [List.length_map, hjz]; omega
          · rw [List.length_map, hjz]; omega
          · rw [List.length_map, hjz]; exact seq_nat hj
          · rw [List.getElem?_map, hxj]; rfl
          rw [hml2]
          refine ⟨S, p, l, d, .int S.line[j], rfl, I12.R, I12.ok, .int, fun x' ex hx' H13 R13 f13 => ?_, fun zz => by rw [show inLine (.int S.line[j]) S.line = true from decide_eq_true hxm] at zz; cases zz⟩
          obtain rfl : S.line[j] = x' := V.int.inj ex
          have I13 := I12.row R13 (I12.ok.taken S.line[j]) f13
          rw [erase_ix I11.ok.nd hxj] at I13
          have hle := List.length_erase_of_mem hxm
          exact ⟨S.taken S.line[j], _, _, _, _, _, _, _, _, _, rfl, I13, hSw, by show (S.line.erase S.line[j]).length ≤ _; omega, by omega⟩
        · rintro H11 ⟨s11, _⟩
          exact ⟨rfl, I10.same s11⟩
      rintro σ H11 ⟨rfl, I11⟩
      have hk1 := I11.hk
      refine ⟨_, rfl, _, rfl, st, a, mm, ll, ns, S.line, k + 1, S.told, _, rfl, I11.hs, (I11.hx _ (List.mem_cons_of_mem _ List.mem_cons_self)).sq, by omega, hk1, by omega, I11.smm.symm, I11.hm, mK_line, mK_next, I11.hl, by omega, fun v H12 hv hs12 f12 => ?_⟩
      have I12 := I11.next (by omega) hs12 f12
      obtain ⟨dx12, o12⟩ := I12.R.ob
      have hlt : S.line.length < 200 := by omega
      have kd0 : ∀ (S' : RS) (R : RowAt CR S' p l d H12), True := fun _ _ => trivial
      -- kept
      refine ⟨_, rfl, p, _, _, rfl, o12, no_things, S, p, l, d, rfl, I12.R, fun fq H13 hfq s13 a13 => ?_⟩
      have I13 := I12.same s13
      refine ⟨_, rfl, ll, rfl, ⟨_, SqL.of I13.hl⟩, fun D hD => lc_fm (K := K) (a := ll) (line := S.line) (fun _ => true) (fun x => .int (S.m x)) hD (SqL.of I13.hl) (by omega) (fun _ => rfl) (fun x hx H' s Q' k => tyes (k H' (Same.refl _))) ?_ ?_⟩
      · intro x hx _ H14 s14 Q' k2
        have I14 := I13.same s14
        obtain ⟨dx14, o14⟩ := I14.R.ob
        refine ⟨_, rfl, p, _, _, rfl, o14, no_mark, _, rfl, S, p, l, d, .int x, rfl, I14.R, I14.ok, .int, fun x' ex _ => ?_, fun zz => by rw [show inLine (.int x) S.line = true from decide_eq_true hx] at zz; cases zz⟩
        obtain rfl : x = x' := V.int.inj ex
        exact k2 H14 (Same.refl _)
      intro H14 s14 a14
      rw [filter_yes] at a14
      have I14 := I13.same s14
      obtain ⟨dx14, o14⟩ := I14.R.ob
      refine ⟨_, rfl, p, _, _, rfl, o14, no_purse, S, p, l, d, rfl, I14.R, ?_⟩
      refine tnil ⟨(by show 3 ≤ sizeLine; decide), fun kd hkd => ?_⟩
      have U := upd_new (o := .lst [.ref fq, .ref D, .int S.coins]) hkd
      have I15 := I14.same U
      have dpk : Dp K (upd H14 kd (.lst [.ref fq, .ref D, .int S.coins])) (.ref kd) (.list [.list (S.line.map PyData.int), .list ((S.line.map S.m).map PyData.int), .int S.coins]) :=
        .lst (SqL.of upd_same) (.cons (dp_ints (SqL.of (U _ _ (s14 _ _ a13)))) (.cons (dp_ints (SqL.of (by rw [U _ _ a14, List.map_map]; rfl))) (.cons (.int _) .nil)))
      have fqk := U _ _ (s14 _ _ a13)
      have Dk := U _ _ a14
      have kdk : (upd H14 kd (.lst [.ref fq, .ref D, .int S.coins])) kd = some (.lst [.ref fq, .ref D, .int S.coins]) := upd_same
      clear dpk
      generalize upd H14 kd (.lst [.ref fq, .ref D, .int S.coins]) = H15 at I15 fqk Dk kdk U
      refine ⟨_, rfl, _, rfl, _, rfl, _, rfl, S, p, l, d, ll, v, rfl, I15.R, I15.ok, I15.hl, hv, by omega, ?_⟩
      refine ⟨_, rfl, _, rfl, S, p, l, d, v, rfl, I15.R, I15.ok, hv, hlt, fun m' sv ch hP H16 R16 f16 => ?_, fun hF e H16 he s16 ha => ?_⟩
      · -- put
        have I16 := I15.row R16 (I15.ok.put (at_le hv) hlt hP) f16
        refine ⟨_, rfl, rfl, _, rfl, ifT rfl ?_⟩
        refine ⟨fun σ H' => ∃ v9 v10 v11 v12 : Option V, σ = [some (.ref a), some (.ref st), some (.int S.w), some (.ref p), some (.ref mm), some (.int c), some (.int (z / 3 + c % 5)), some (.ref ll), some v, v9, v10, v11, v12] ∧
          LI K CR a st p l d mm ll [(ql, ms.map V.int), (a, ns.map V.int)] (S.put (atOf S.line v) m' ch) (insAt S.line (atOf S.line v) S.told) S.told (k + 1 + 1) H', ?_, ?_⟩
        · refine ⟨_, rfl, .inl ⟨rfl, _, SqL.of I16.hl⟩, _, rfl, rfl, _, rfl, ?_⟩
          have hil2 : (S.line.map V.int).length ≤ 1000 := by rw [List.length_map]; omega
          rcases good_cases hv with rfl | ⟨x, rfl, hx⟩
          · refine ifT rfl ⟨_, rfl, mm, _, rfl, dget_of (k := .inr "next") I16.hm mK_next, ll, _, _, _, rfl, rfl, I16.hl, small1000 hil2, by decide, by decide, ?_⟩
            rw [ins_map]
            exact ⟨_, _, _, _, rfl, I16.line⟩
          · obtain ⟨jx, j1, j2, j3, j4⟩ := first_at hx
            refine ifF (by intro zz; cases zz) ⟨_, rfl, .inl ⟨rfl, _, SqL.of I16.hl⟩, _, rfl, ll, _, .int x, jx, .int x, rfl, rfl, SqL.of I16.hl, rfl, all_flat _, ?_, ?_, fun kx z' hk hz => ?_, _, _, rfl, rfl, _, rfl, mm, _, rfl, dget_of (k := .inr "next") I16.hm mK_next, ll, _, _, _, rfl, rfl, I16.hl, small1000 hil2, by omega, ?_, ?_⟩
            · rw [List.getElem?_map, j1]; rfl
            · exact beq_self_eq_true x
            · obtain ⟨zz, rfl, hz1, _, _⟩ := getI hz
              have : zz ≠ x := fun e => j2 kx hk (e ▸ hz1)
              show (zz == x) = false
              simpa using this
            · have := (List.getElem?_eq_some_iff.mp j1).1; omega
            · rw [show ((jx : Int) + 1).toNat = atOf S.line (.int x) by show _ = S.line.idxOf x + 1; rw [j4]; omega, ins_map]
              exact ⟨_, _, _, _, rfl, I16.line⟩
        rintro σ H17 ⟨v9, v10, v11, v12, rfl, I17⟩
        refine ⟨_, rfl, mm, _, rfl, dget_of (k := .inr "next") I17.hm mK_next, _, _, rfl, rfl, _, rfl, mm, _, rfl, dput_of (k := .inr "next") I17.hm (show 2 ≤ 1000 by decide) mK_put, ?_⟩
        exact ⟨S.put (atOf S.line v) m' ch, _, _, _, _, _, _, _, _, _, rfl, I17.told, hSw, by show (insAt S.line (atOf S.line v) S.told).length ≤ _; rw [len_ins]; omega, by omega⟩
      · -- Full
        have I16 := I15.same s16
        refine ⟨_, rfl, rfl, _, rfl, ifF (by intro z; cases z) ?_⟩
        have top := full_top I15.ok (at_le hv) hF
        refine ⟨_, rfl, e, rfl, ha, fun H17 s17 => ⟨_, rfl, iteF ?_⟩⟩
        have I17 := I16.same s17
        refine ⟨_, rfl, _, _, rfl, rfl, _, rfl, ifF (by have := hF.1; omega) ?_⟩
        refine ⟨_, rfl, _, rfl, ll, _, rfl, .inl (SqL.of I17.hl), _, _, rfl, rfl, S.w, _, rfl, by omega, by rw [List.length_map]; omega, by rw [List.length_map]; omega, ?_⟩
        rw [List.length_map, top]
        refine ⟨_, rfl, iteF ?_⟩
        have s1517 := s16.trans s17
        obtain ⟨dx17, o17⟩ := I17.R.ob
        refine ⟨_, rfl, p, _, _, rfl, o17, no_things, S, p, l, d, rfl, I17.R, fun fq2 H18 hfq2 s18 a18 => ?_⟩
        have I18 := I17.same s18
        refine ⟨_, rfl, ll, rfl, ⟨_, SqL.of I18.hl⟩, fun D2 hD2 => lc_fm (K := K) (a := ll) (line := S.line) (fun _ => true) (fun x => .int (S.m x)) hD2 (SqL.of I18.hl) (by omega) (fun _ => rfl) (fun x hx H' s Q' k => tyes (k H' (Same.refl _))) ?_ ?_⟩
        · intro x hx _ H19 s19 Q' k2
          have I19 := I18.same s19
          obtain ⟨dx19, o19⟩ := I19.R.ob
          refine ⟨_, rfl, p, _, _, rfl, o19, no_mark, _, rfl, S, p, l, d, .int x, rfl, I19.R, I19.ok, .int, fun x' ex _ => ?_, fun zz => by rw [show inLine (.int x) S.line = true from decide_eq_true hx] at zz; cases zz⟩
          obtain rfl : x = x' := V.int.inj ex
          exact k2 H19 (Same.refl _)
        intro H19 s19 a19
        rw [filter_yes] at a19
        have I19 := I18.same s19
        obtain ⟨dx19, o19⟩ := I19.R.ob
        refine ⟨_, rfl, p, _, _, rfl, o19, no_purse, S, p, l, d, rfl, I19.R, ?_⟩
        refine tnil ⟨(by show 3 ≤ sizeLine; decide), fun kd2 hkd2 => ?_⟩
        have U2 := upd_new (o := .lst [.ref fq2, .ref D2, .int S.coins]) hkd2
        have sK := ((s1517.trans s18).trans s19).trans U2
        have dp3 : ∀ (X : Hp) (k1 f1 D1 : Addr), X k1 = some (.lst [.ref f1, .ref D1, .int S.coins]) → X f1 = some (.lst (S.line.map V.int)) → X D1 = some (.lst (S.line.map fun x => .int (S.m x))) →
            Dp K X (.ref k1) (.list [.list (S.line.map PyData.int), .list ((S.line.map S.m).map PyData.int), .int S.coins]) := fun X k1 f1 D1 g1 g2 g3 =>
          .lst (SqL.of g1) (.cons (dp_ints (SqL.of g2)) (.cons (dp_ints (SqL.of (by rw [g3, List.map_map]; rfl))) (.cons (.int _) .nil)))
        have sh3 : SeqAt.shaped (.list [.list (S.line.map PyData.int), .list ((S.line.map S.m).map PyData.int), .int S.coins]) = true := by
          have i1 := PySem.W.ke_canLayAll0 S.line
          have i2 := PySem.W.ke_depthAll S.line
          have j1 := PySem.W.ke_canLayAll0 (S.line.map S.m)
          have j2 := PySem.W.ke_depthAll (S.line.map S.m)
          unfold SeqAt.shaped
          rw [Bool.and_eq_true]
          refine ⟨?_, decide_eq_true ?_⟩
          · simp only [PyData.canLay0, PyData.canLayAll0, Bool.and_true, Bool.and_eq_true]
            exact ⟨i1, j1⟩
          · simp only [PyData.depth, PyData.depthAll]
            omega
        refine ⟨_, rfl, _, _, dp3 _ _ _ _ upd_same (U2 _ _ (s19 _ _ a18)) (U2 _ _ a19), dp3 _ _ _ _ (sK _ _ kdk) (sK _ _ fqk) (sK _ _ Dk), sh3, sh3, _, rfl, ?_⟩
        rw [eqv_self sh3]
        exact iteF ⟨S, _, _, _, _, _, _, _, _, _, rfl, I19.same U2, hSw, by omega, by omega⟩
    · rintro σ H9 ⟨S, k, v5, v6, v7, v8, v9, v10, v11, v12, rfl, I9, hSw, hSl, hkk⟩
      refine ⟨_, rfl, mm, _, rfl, dget_of (k := .inr "line") I9.hm mK_line, ?_⟩
      -- while there are too many
      refine ⟨fun m σ H' => ∃ S : RS, σ = [some (.ref a), some (.ref st), some (.int S.w), some (.ref p), some (.ref mm), v5, v6, some (.ref ll), v8, v9, v10, v11, v12] ∧
        LI K CR a st p l d mm ll [(ql, ms.map V.int), (a, ns.map V.int)] S S.line S.told k H' ∧ S.w ≤ 9 ∧ S.line.length ≤ 60 ∧ m = S.line.length, ⟨_, S, rfl, I9, hSw, by rw [List.length_map] at hSl; omega, rfl⟩, ?_⟩
      rintro m σ H10 ⟨S, rfl, I10, hSw, hSl, rfl⟩
      refine ⟨_, rfl, _, rfl, ll, _, rfl, .inl (SqL.of I10.hl), _, _, rfl, rfl, S.w, _, rfl, by omega, by rw [List.length_map]; omega, by rw [List.length_map]; omega, ?_⟩
      rw [List.length_map]
      refine ⟨_, rfl, ?_⟩
      refine ifB (fun ct => ?_) (fun ct => ?_)
      · -- the last one is taken
        have hpos : 0 < S.line.length := by
          rcases Nat.eq_zero_or_pos S.line.length with e | e
          · rw [e] at ct; rw [one_room] at ct; cases ct
          · exact e
        have hj : S.line.length - 1 < S.line.length := by omega
        have hxj : S.line[S.line.length - 1]? = some S.line[S.line.length - 1] := List.getElem?_eq_getElem hj
        have hxm : S.line[S.line.length - 1] ∈ S.line := List.getElem_mem hj
        refine ⟨fun σ H' => ∃ S' : RS, σ = [some (.ref a), some (.ref st), some (.int S'.w), some (.ref p), some (.ref mm), v5, v6, some (.ref ll), v8, v9, v10, v11, v12] ∧
          LI K CR a st p l d mm ll [(ql, ms.map V.int), (a, ns.map V.int)] S' S'.line S'.told k H' ∧ S'.w ≤ 9 ∧ S'.line.length < S.line.length, fun σ' H' ⟨S', h1, h2, h3, h4⟩ => ⟨_, h4, S', h1, h2, h3, by omega, rfl⟩, ?_⟩
        obtain ⟨dx10, o10⟩ := I10.R.ob
        have I11 := I10.line (L' := S.line.eraseIdx (S.line.length - 1))
        have hml2 : (S.line.map V.int).dropLast = (S.line.eraseIdx (S.line.length - 1)).map V.int := by
          rw [← List.map_dropLast, List.eraseIdx_eq_dropLast (by omega)]
        refine ⟨_, rfl, p, _, _, rfl, o10, no_take, _, rfl, .inl ⟨rfl, _, SqL.of I10.hl⟩, ll, _, .int S.line[S.line.length - 1], rfl, rfl, I10.hl, ?_, ?_⟩
        · rw [List.length_map, List.getElem?_map, hxj]; rfl
        rw [hml2]
        refine tnil ⟨S, p, l, d, .int S.line[S.line.length - 1], rfl, I11.R, I11.ok, .int, fun x' ex hx' H13 R13 f13 => ?_, fun zz => by rw [show inLine (.int S.line[S.line.length - 1]) S.line = true from decide_eq_true hxm] at zz; cases zz⟩
        obtain rfl : S.line[S.line.length - 1] = x' := V.int.inj ex
        have I13 := I11.row R13 (I11.ok.taken _) f13
        rw [erase_ix I10.ok.nd hxj] at I13
        have hle := List.length_erase_of_mem hxm
        exact ⟨S.taken S.line[S.line.length - 1], rfl, I13, hSw, by show (S.line.erase _).length < _; omega⟩
      · -- one more is put
        obtain ⟨v, hv, hat⟩ : ∃ v, goodX v S.line = true ∧ atI (S.line.map V.int ++ [V.non]) 0 = some v := by
          cases e : S.line with
          | nil => exact ⟨.non, rfl, atI_nat (j := 0) rfl⟩
          | cons x r => exact ⟨.int x, good_mem List.mem_cons_self, atI_nat (j := 0) rfl⟩
        have hlt : S.line.length < 200 := by omega
        refine ⟨_, rfl, (by show 1 ≤ sizeLine; exact Nat.le_of_lt (small1000 (by decide))), fun e1 he1 => ?_⟩
        refine ⟨ll, e1, _, _, rfl, rfl, upd_new he1 _ _ I10.hl, upd_same, ?_, fun e2 he2 => ?_⟩
        · refine Nat.le_of_lt (small1000 ?_)
          rw [List.length_map]; show S.line.length + 1 ≤ _; omega
        refine ⟨e2, _, _, v, rfl, rfl, SqL.of upd_same, hat, ?_⟩
        have I12 := (I10.same (upd_new (o := .lst [.non]) he1)).same (upd_new (o := .lst (S.line.map V.int ++ [V.non])) he2)
        generalize upd (upd H10 e1 (.lst [.non])) e2 (.lst (S.line.map V.int ++ [V.non])) = H12 at I12
        obtain ⟨dx12, o12⟩ := I12.R.ob
        refine ⟨_, rfl, p, _, _, rfl, o12, no_put, _, rfl, tnil (try_put I12.R I12.ok hv hlt (fun m' sv ch hP t cl v5' cs H13 ht0 hcl0 htc h4 h5 h6 h7 R13 f13 => ?_) (fun hF H' s => ?_))⟩
        · have I13 := I12.row R13 (I12.ok.put (at_le hv) hlt hP) f13
          refine ⟨t, _, _, .int S.told, rfl, rfl, SqT.of h4, rfl, _, rfl, mm, _, rfl, dget_of (k := .inr "next") I13.hm mK_next, rfl, _, rfl, ?_⟩
          refine ifT rfl ?_
          obtain ⟨dx13, o13⟩ := I13.R.ob
          refine ⟨_, rfl, p, _, _, rfl, o13, no_things, _, p, l, d, rfl, I13.R, fun fq H14 hfq s14 a14 => ?_⟩
          refine ⟨fq, _, rfl, .inl (SqL.of a14), _, rfl, ll, _, rfl, .inl (SqL.of (s14 _ _ I13.hl)), _, _, rfl, rfl, rfl, ?_⟩
          have : decide (V.int ((((S.put (atOf S.line v) m' ch).line.map V.int).length : Nat) : Int) = V.int (((S.line.map V.int).length : Int) + 1)) = true := by
            refine decide_eq_true ?_
            rw [List.length_map, List.length_map]
            show V.int (((insAt S.line (atOf S.line v) S.told).length : Nat) : Int) = _
            rw [len_ins]; rfl
          rw [this]
          exact q _
        · have := full_top I12.ok (at_le hv) hF
          rw [ct] at this; cases this
end
end Sm

namespace Sm
open PySem L2
theorem all_mk {l : PySem.W.OpenLaw} {w : World} {K : PySem.W.Frag} {h : Heap} {mg : Str → Option Value} {fa CB CN CT CF CS CR f_is_among f_need_among f_is_too_full f_stretch_at f_spread f_Row___init__ f_Row_need_thing f_Row_things f_Row_mark f_Row_purse f_Row_room_at f_Row_stretch_for f_Row_spread_on f_Row_put f_Row_take f__law_next f__law_too_many f__law_place f__law_refused f__law_is_full f__law_room f_law T_put : Addr} (X : K.In h) (G : h.Ns mainGlobals mg) (hfa : mg "law" = some (.ref fa))
    {od_is_among an_is_among od_need_among an_need_among od_is_too_full an_is_too_full od_stretch_at an_stretch_at od_spread an_spread od_Row___init__ an_Row___init__ od_Row_need_thing an_Row_need_thing od_Row_things an_Row_things od_Row_mark an_Row_mark od_Row_purse an_Row_purse od_Row_room_at an_Row_room_at od_Row_stretch_for an_Row_stretch_for od_Row_spread_on an_Row_spread_on od_Row_put an_Row_put od_Row_take an_Row_take od__law_next an__law_next od__law_too_many an__law_too_many od__law_place an__law_place od__law_refused an__law_refused od__law_is_full an__law_is_full od__law_room an__law_room od_law an_law : Option Addr} {sl_is_among sl_need_among sl_is_too_full sl_stretch_at sl_spread sl_Row___init__ sl_Row_need_thing sl_Row_things sl_Row_mark sl_Row_purse sl_Row_room_at sl_Row_stretch_for sl_Row_spread_on sl_Row_put sl_Row_take sl__law_next sl__law_too_many sl__law_place sl__law_refused sl__law_is_full sl__law_room sl_law : Array (Option Value)} {oc_is_among kV_is_among dc_is_among pm_is_among cd_is_among ct_is_among oc_need_among kV_need_among dc_need_among pm_need_among cd_need_among ct_need_among oc_is_too_full kV_is_too_full dc_is_too_full pm_is_too_full cd_is_too_full ct_is_too_full oc_stretch_at kV_stretch_at dc_stretch_at pm_stretch_at cd_stretch_at ct_stretch_at oc_spread kV_spread dc_spread pm_spread cd_spread ct_spread oc_Row___init__ kV_Row___init__ dc_Row___init__ pm_Row___init__ cd_Row___init__ ct_Row___init__ oc_Row_need_thing kV_Row_need_thing dc_Row_need_thing pm_Row_need_thing cd_Row_need_thing ct_Row_need_thing oc_Row_things kV_Row_things dc_Row_things pm_Row_things cd_Row_things ct_Row_things oc_Row_mark kV_Row_mark dc_Row_mark pm_Row_mark cd_Row_mark ct_Row_mark oc_Row_purse kV_Row_purse dc_Row_purse pm_Row_purse cd_Row_purse ct_Row_purse oc_Row_room_at kV_Row_room_at dc_Row_room_at pm_Row_room_at cd_Row_room_at ct_Row_room_at oc_Row_stretch_for kV_Row_stretch_for dc_Row_stretch_for pm_Row_stretch_for cd_Row_stretch_for ct_Row_stretch_for oc_Row_spread_on kV_Row_spread_on dc_Row_spread_on pm_Row_spread_on cd_Row_spread_on ct_Row_spread_on oc_Row_put kV_Row_put dc_Row_put pm_Row_put cd_Row_put ct_Row_put oc_Row_take kV_Row_take dc_Row_take pm_Row_take cd_Row_take ct_Row_take oc__law_next kV__law_next dc__law_next pm__law_next cd__law_next ct__law_next oc__law_too_many kV__law_too_many dc__law_too_many pm__law_too_many cd__law_too_many ct__law_too_many oc__law_place kV__law_place dc__law_place pm__law_place cd__law_place ct__law_place oc__law_refused kV__law_refused dc__law_refused pm__law_refused cd__law_refused ct__law_refused oc__law_is_full kV__law_is_full dc__law_is_full pm__law_is_full cd__law_is_full ct__law_is_full oc__law_room kV__law_room dc__law_room pm__law_room cd__law_room ct__law_room oc_law kV_law dc_law pm_law cd_law ct_law : Value} {tk_LEAST_WIDE tk_MOST_WIDE tk_MOST_THINGS tk_PAID : Tok} {ocT : Value} {odT : Option Addr} {nT : Nat} {slT : Array (Option Value)}
    (g_BadWide : PySem.W.nsIn K mainGlobals "BadWide" = some (some (.ref CB)))
    (x_BadWide : PySem.W.excIn K CB [.type "ValueError", .type "Exception", .type "BaseException", .type "object"] "ValueError.__new__" = true)
    (k_BadWide : PySem.W.keepIn K (.ref CB) = true)
    (b_BadWide : PySem.W.subIn K (.ref CB) (.type "BaseException") = some true)
    (t_BadWide : PySem.W.typeIn K (.ref CB) = some (.type "type"))
    (i_BadWide : PySem.W.isClsIn K CB = true)
    (g_NoThing : PySem.W.nsIn K mainGlobals "NoThing" = some (some (.ref CN)))
    (x_NoThing : PySem.W.excIn K CN [.type "ValueError", .type "Exception", .type "BaseException", .type "object"] "ValueError.__new__" = true)
    (k_NoThing : PySem.W.keepIn K (.ref CN) = true)
    (b_NoThing : PySem.W.subIn K (.ref CN) (.type "BaseException") = some true)
    (t_NoThing : PySem.W.typeIn K (.ref CN) = some (.type "type"))
    (i_NoThing : PySem.W.isClsIn K CN = true)
    (g_TooMany : PySem.W.nsIn K mainGlobals "TooMany" = some (some (.ref CT)))
    (x_TooMany : PySem.W.excIn K CT [.type "ValueError", .type "Exception", .type "BaseException", .type "object"] "ValueError.__new__" = true)
    (k_TooMany : PySem.W.keepIn K (.ref CT) = true)
    (b_TooMany : PySem.W.subIn K (.ref CT) (.type "BaseException") = some true)
    (t_TooMany : PySem.W.typeIn K (.ref CT) = some (.type "type"))
    (i_TooMany : PySem.W.isClsIn K CT = true)
    (g_Full : PySem.W.nsIn K mainGlobals "Full" = some (some (.ref CF)))
    (x_Full : PySem.W.excIn K CF [.type "ValueError", .type "Exception", .type "BaseException", .type "object"] "ValueError.__new__" = true)
    (k_Full : PySem.W.keepIn K (.ref CF) = true)
    (b_Full : PySem.W.subIn K (.ref CF) (.type "BaseException") = some true)
    (t_Full : PySem.W.typeIn K (.ref CF) = some (.type "type"))
    (i_Full : PySem.W.isClsIn K CF = true)
    (g_SeatError : PySem.W.nsIn K mainGlobals "SeatError" = some (some (.ref CS)))
    (x_SeatError : PySem.W.excIn K CS [.type "ValueError", .type "Exception", .type "BaseException", .type "object"] "ValueError.__new__" = true)
    (k_SeatError : PySem.W.keepIn K (.ref CS) = true)
    (b_SeatError : PySem.W.subIn K (.ref CS) (.type "BaseException") = some true)
    (t_SeatError : PySem.W.typeIn K (.ref CS) = some (.type "type"))
    (i_SeatError : PySem.W.isClsIn K CS = true)
    (s_Full_SeatError : PySem.W.subIn K (.ref CF) (.ref CS) = some true)
    (s_Full_Full : PySem.W.subIn K (.ref CF) (.ref CF) = some true)
    (s_Full_BadWide : PySem.W.subIn K (.ref CF) (.ref CB) = some false)
    (s_Full_NoThing : PySem.W.subIn K (.ref CF) (.ref CN) = some false)
    (s_Full_TooMany : PySem.W.subIn K (.ref CF) (.ref CT) = some false)
    (g_Row : PySem.W.nsIn K mainGlobals "Row" = some (some (.ref CR)))
    (pg : PySem.W.plainGet K CR Str.empty = true)
    (hd : PySem.W.hasDictIn K CR = true)
    (po : PySem.W.plainOver K CR = true)
    (sa : PySem.W.findIn K (.ref CR) "__setattr__" = some (some (.builtin "object.__setattr__")))
    (mk : PySem.W.makesIn K CR = true)
    (kc : PySem.W.keepIn K (.ref CR) = true)
    (na_wide : PySem.W.findIn K (.ref CR) "wide" = some none)
    (na_line : PySem.W.findIn K (.ref CR) "line" = some none)
    (na_marks : PySem.W.findIn K (.ref CR) "marks" = some none)
    (na_told : PySem.W.findIn K (.ref CR) "told" = some none)
    (na_coins : PySem.W.findIn K (.ref CR) "coins" = some none)
    (n_len : PySem.W.nsIn K mainGlobals "len" = some none)
    (n_isinstance : PySem.W.nsIn K mainGlobals "isinstance" = some none)
    (n_range : PySem.W.nsIn K mainGlobals "range" = some none)
    (n_min : PySem.W.nsIn K mainGlobals "min" = some none)
    (n_max : PySem.W.nsIn K mainGlobals "max" = some none)
    (n_list : PySem.W.nsIn K mainGlobals "list" = some none)
    (n_zip : PySem.W.nsIn K mainGlobals "zip" = some none)
    (n_int : PySem.W.nsIn K mainGlobals "int" = some none)
    (n_bool : PySem.W.nsIn K mainGlobals "bool" = some none)
    (n_ValueError : PySem.W.nsIn K mainGlobals "ValueError" = some none)
    (c_LEAST_WIDE : PySem.W.nsIn K mainGlobals "LEAST_WIDE" = some (some (.int 4 tk_LEAST_WIDE)))
    (c_MOST_WIDE : PySem.W.nsIn K mainGlobals "MOST_WIDE" = some (some (.int 60 tk_MOST_WIDE)))
    (c_MOST_THINGS : PySem.W.nsIn K mainGlobals "MOST_THINGS" = some (some (.int 200 tk_MOST_THINGS)))
    (c_PAID : PySem.W.nsIn K mainGlobals "PAID" = some (some (.int 8 tk_PAID)))
    (a_is_among : PySem.W.nsIn K mainGlobals "is_among" = some (some (.ref f_is_among)))
    (l_is_among : K.lookup f_is_among = some ⟨oc_is_among, od_is_among, .func (PySem.W.fnOf "is_among" "is_among" (defArgs s_is_among) (defBody s_is_among) (defScope s_is_among) .none kV_is_among dc_is_among pm_is_among an_is_among cd_is_among ct_is_among), sl_is_among⟩)
    (co_is_among : PySem.W.codeIn K cd_is_among "is_among" = true)
    (kp_is_among : PySem.W.keepIn K (.ref f_is_among) = true)
    (a_need_among : PySem.W.nsIn K mainGlobals "need_among" = some (some (.ref f_need_among)))
    (l_need_among : K.lookup f_need_among = some ⟨oc_need_among, od_need_among, .func (PySem.W.fnOf "need_among" "need_among" (defArgs s_need_among) (defBody s_need_among) (defScope s_need_among) .none kV_need_among dc_need_among pm_need_among an_need_among cd_need_among ct_need_among), sl_need_among⟩)
    (co_need_among : PySem.W.codeIn K cd_need_among "need_among" = true)
    (kp_need_among : PySem.W.keepIn K (.ref f_need_among) = true)
    (a_is_too_full : PySem.W.nsIn K mainGlobals "is_too_full" = some (some (.ref f_is_too_full)))
    (l_is_too_full : K.lookup f_is_too_full = some ⟨oc_is_too_full, od_is_too_full, .func (PySem.W.fnOf "is_too_full" "is_too_full" (defArgs s_is_too_full) (defBody s_is_too_full) (defScope s_is_too_full) .none kV_is_too_full dc_is_too_full pm_is_too_full an_is_too_full cd_is_too_full ct_is_too_full), sl_is_too_full⟩)
    (co_is_too_full : PySem.W.codeIn K cd_is_too_full "is_too_full" = true)
    (kp_is_too_full : PySem.W.keepIn K (.ref f_is_too_full) = true)
    (a_stretch_at : PySem.W.nsIn K mainGlobals "stretch_at" = some (some (.ref f_stretch_at)))
    (l_stretch_at : K.lookup f_stretch_at = some ⟨oc_stretch_at, od_stretch_at, .func (PySem.W.fnOf "stretch_at" "stretch_at" (defArgs s_stretch_at) (defBody s_stretch_at) (defScope s_stretch_at) .none kV_stretch_at dc_stretch_at pm_stretch_at an_stretch_at cd_stretch_at ct_stretch_at), sl_stretch_at⟩)
    (co_stretch_at : PySem.W.codeIn K cd_stretch_at "stretch_at" = true)
    (kp_stretch_at : PySem.W.keepIn K (.ref f_stretch_at) = true)
    (a_spread : PySem.W.nsIn K mainGlobals "spread" = some (some (.ref f_spread)))
    (l_spread : K.lookup f_spread = some ⟨oc_spread, od_spread, .func (PySem.W.fnOf "spread" "spread" (defArgs s_spread) (defBody s_spread) (defScope s_spread) .none kV_spread dc_spread pm_spread an_spread cd_spread ct_spread), sl_spread⟩)
    (co_spread : PySem.W.codeIn K cd_spread "spread" = true)
    (kp_spread : PySem.W.keepIn K (.ref f_spread) = true)
    (a_Row___init__ : PySem.W.findIn K (.ref CR) "__init__" = some (some (.ref f_Row___init__)))
    (fn_Row___init__ : PySem.W.isFn K (.ref f_Row___init__) = true)
    (l_Row___init__ : K.lookup f_Row___init__ = some ⟨oc_Row___init__, od_Row___init__, .func (PySem.W.fnOf "__init__" "Row.__init__" (defArgs s_Row_init) (defBody s_Row_init) (defScope s_Row_init) .none kV_Row___init__ dc_Row___init__ pm_Row___init__ an_Row___init__ cd_Row___init__ ct_Row___init__), sl_Row___init__⟩)
    (co_Row___init__ : PySem.W.codeIn K cd_Row___init__ "Row.__init__" = true)
    (kp_Row___init__ : PySem.W.keepIn K (.ref f_Row___init__) = true)
    (a_Row_need_thing : PySem.W.findIn K (.ref CR) "need_thing" = some (some (.ref f_Row_need_thing)))
    (fn_Row_need_thing : PySem.W.isFn K (.ref f_Row_need_thing) = true)
    (l_Row_need_thing : K.lookup f_Row_need_thing = some ⟨oc_Row_need_thing, od_Row_need_thing, .func (PySem.W.fnOf "need_thing" "Row.need_thing" (defArgs s_Row_need_thing) (defBody s_Row_need_thing) (defScope s_Row_need_thing) .none kV_Row_need_thing dc_Row_need_thing pm_Row_need_thing an_Row_need_thing cd_Row_need_thing ct_Row_need_thing), sl_Row_need_thing⟩)
    (co_Row_need_thing : PySem.W.codeIn K cd_Row_need_thing "Row.need_thing" = true)
    (kp_Row_need_thing : PySem.W.keepIn K (.ref f_Row_need_thing) = true)
    (a_Row_things : PySem.W.findIn K (.ref CR) "things" = some (some (.ref f_Row_things)))
    (fn_Row_things : PySem.W.isFn K (.ref f_Row_things) = true)
    (l_Row_things : K.lookup f_Row_things = some ⟨oc_Row_things, od_Row_things, .func (PySem.W.fnOf "things" "Row.things" (defArgs s_Row_things) (defBody s_Row_things) (defScope s_Row_things) .none kV_Row_things dc_Row_things pm_Row_things an_Row_things cd_Row_things ct_Row_things), sl_Row_things⟩)
    (co_Row_things : PySem.W.codeIn K cd_Row_things "Row.things" = true)
    (kp_Row_things : PySem.W.keepIn K (.ref f_Row_things) = true)
    (a_Row_mark : PySem.W.findIn K (.ref CR) "mark" = some (some (.ref f_Row_mark)))
    (fn_Row_mark : PySem.W.isFn K (.ref f_Row_mark) = true)
    (l_Row_mark : K.lookup f_Row_mark = some ⟨oc_Row_mark, od_Row_mark, .func (PySem.W.fnOf "mark" "Row.mark" (defArgs s_Row_mark) (defBody s_Row_mark) (defScope s_Row_mark) .none kV_Row_mark dc_Row_mark pm_Row_mark an_Row_mark cd_Row_mark ct_Row_mark), sl_Row_mark⟩)
    (co_Row_mark : PySem.W.codeIn K cd_Row_mark "Row.mark" = true)
    (kp_Row_mark : PySem.W.keepIn K (.ref f_Row_mark) = true)
    (a_Row_purse : PySem.W.findIn K (.ref CR) "purse" = some (some (.ref f_Row_purse)))
    (fn_Row_purse : PySem.W.isFn K (.ref f_Row_purse) = true)
    (l_Row_purse : K.lookup f_Row_purse = some ⟨oc_Row_purse, od_Row_purse, .func (PySem.W.fnOf "purse" "Row.purse" (defArgs s_Row_purse) (defBody s_Row_purse) (defScope s_Row_purse) .none kV_Row_purse dc_Row_purse pm_Row_purse an_Row_purse cd_Row_purse ct_Row_purse), sl_Row_purse⟩)
    (co_Row_purse : PySem.W.codeIn K cd_Row_purse "Row.purse" = true)
    (kp_Row_purse : PySem.W.keepIn K (.ref f_Row_purse) = true)
    (a_Row_room_at : PySem.W.findIn K (.ref CR) "room_at" = some (some (.ref f_Row_room_at)))
    (fn_Row_room_at : PySem.W.isFn K (.ref f_Row_room_at) = true)
    (l_Row_room_at : K.lookup f_Row_room_at = some ⟨oc_Row_room_at, od_Row_room_at, .func (PySem.W.fnOf "room_at" "Row.room_at" (defArgs s_Row_room_at) (defBody s_Row_room_at) (defScope s_Row_room_at) .none kV_Row_room_at dc_Row_room_at pm_Row_room_at an_Row_room_at cd_Row_room_at ct_Row_room_at), sl_Row_room_at⟩)
    (co_Row_room_at : PySem.W.codeIn K cd_Row_room_at "Row.room_at" = true)
    (kp_Row_room_at : PySem.W.keepIn K (.ref f_Row_room_at) = true)
    (a_Row_stretch_for : PySem.W.findIn K (.ref CR) "stretch_for" = some (some (.ref f_Row_stretch_for)))
    (fn_Row_stretch_for : PySem.W.isFn K (.ref f_Row_stretch_for) = true)
    (l_Row_stretch_for : K.lookup f_Row_stretch_for = some ⟨oc_Row_stretch_for, od_Row_stretch_for, .func (PySem.W.fnOf "stretch_for" "Row.stretch_for" (defArgs s_Row_stretch_for) (defBody s_Row_stretch_for) (defScope s_Row_stretch_for) .none kV_Row_stretch_for dc_Row_stretch_for pm_Row_stretch_for an_Row_stretch_for cd_Row_stretch_for ct_Row_stretch_for), sl_Row_stretch_for⟩)
    (co_Row_stretch_for : PySem.W.codeIn K cd_Row_stretch_for "Row.stretch_for" = true)
    (kp_Row_stretch_for : PySem.W.keepIn K (.ref f_Row_stretch_for) = true)
    (a_Row_spread_on : PySem.W.findIn K (.ref CR) "spread_on" = some (some (.ref f_Row_spread_on)))
    (fn_Row_spread_on : PySem.W.isFn K (.ref f_Row_spread_on) = true)
    (l_Row_spread_on : K.lookup f_Row_spread_on = some ⟨oc_Row_spread_on, od_Row_spread_on, .func (PySem.W.fnOf "spread_on" "Row.spread_on" (defArgs s_Row_spread_on) (defBody s_Row_spread_on) (defScope s_Row_spread_on) .none kV_Row_spread_on dc_Row_spread_on pm_Row_spread_on an_Row_spread_on cd_Row_spread_on ct_Row_spread_on), sl_Row_spread_on⟩)
    (co_Row_spread_on : PySem.W.codeIn K cd_Row_spread_on "Row.spread_on" = true)
    (kp_Row_spread_on : PySem.W.keepIn K (.ref f_Row_spread_on) = true)
    (a_Row_put : PySem.W.findIn K (.ref CR) "put" = some (some (.ref f_Row_put)))
    (fn_Row_put : PySem.W.isFn K (.ref f_Row_put) = true)
    (l_Row_put : K.lookup f_Row_put = some ⟨oc_Row_put, od_Row_put, .func (PySem.W.fnOf "put" "Row.put" (defArgs s_Row_put) (defBody s_Row_put) (defScope s_Row_put) (.ref T_put) kV_Row_put dc_Row_put pm_Row_put an_Row_put cd_Row_put ct_Row_put), sl_Row_put⟩)
    (co_Row_put : PySem.W.codeIn K cd_Row_put "Row.put" = true)
    (kp_Row_put : PySem.W.keepIn K (.ref f_Row_put) = true)
    (a_Row_take : PySem.W.findIn K (.ref CR) "take" = some (some (.ref f_Row_take)))
    (fn_Row_take : PySem.W.isFn K (.ref f_Row_take) = true)
    (l_Row_take : K.lookup f_Row_take = some ⟨oc_Row_take, od_Row_take, .func (PySem.W.fnOf "take" "Row.take" (defArgs s_Row_take) (defBody s_Row_take) (defScope s_Row_take) .none kV_Row_take dc_Row_take pm_Row_take an_Row_take cd_Row_take ct_Row_take), sl_Row_take⟩)
    (co_Row_take : PySem.W.codeIn K cd_Row_take "Row.take" = true)
    (kp_Row_take : PySem.W.keepIn K (.ref f_Row_take) = true)
    (a__law_next : PySem.W.nsIn K mainGlobals "_law_next" = some (some (.ref f__law_next)))
    (l__law_next : K.lookup f__law_next = some ⟨oc__law_next, od__law_next, .func (PySem.W.fnOf "_law_next" "_law_next" (defArgs s_l_next) (defBody s_l_next) (defScope s_l_next) .none kV__law_next dc__law_next pm__law_next an__law_next cd__law_next ct__law_next), sl__law_next⟩)
    (co__law_next : PySem.W.codeIn K cd__law_next "_law_next" = true)
    (kp__law_next : PySem.W.keepIn K (.ref f__law_next) = true)
    (a__law_too_many : PySem.W.nsIn K mainGlobals "_law_too_many" = some (some (.ref f__law_too_many)))
    (l__law_too_many : K.lookup f__law_too_many = some ⟨oc__law_too_many, od__law_too_many, .func (PySem.W.fnOf "_law_too_many" "_law_too_many" (defArgs s_l_too_many) (defBody s_l_too_many) (defScope s_l_too_many) .none kV__law_too_many dc__law_too_many pm__law_too_many an__law_too_many cd__law_too_many ct__law_too_many), sl__law_too_many⟩)
    (co__law_too_many : PySem.W.codeIn K cd__law_too_many "_law_too_many" = true)
    (kp__law_too_many : PySem.W.keepIn K (.ref f__law_too_many) = true)
    (a__law_place : PySem.W.nsIn K mainGlobals "_law_place" = some (some (.ref f__law_place)))
    (l__law_place : K.lookup f__law_place = some ⟨oc__law_place, od__law_place, .func (PySem.W.fnOf "_law_place" "_law_place" (defArgs s_l_place) (defBody s_l_place) (defScope s_l_place) .none kV__law_place dc__law_place pm__law_place an__law_place cd__law_place ct__law_place), sl__law_place⟩)
    (co__law_place : PySem.W.codeIn K cd__law_place "_law_place" = true)
    (kp__law_place : PySem.W.keepIn K (.ref f__law_place) = true)
    (a__law_refused : PySem.W.nsIn K mainGlobals "_law_refused" = some (some (.ref f__law_refused)))
    (l__law_refused : K.lookup f__law_refused = some ⟨oc__law_refused, od__law_refused, .func (PySem.W.fnOf "_law_refused" "_law_refused" (defArgs s_l_refused) (defBody s_l_refused) (defScope s_l_refused) .none kV__law_refused dc__law_refused pm__law_refused an__law_refused cd__law_refused ct__law_refused), sl__law_refused⟩)
    (co__law_refused : PySem.W.codeIn K cd__law_refused "_law_refused" = true)
    (kp__law_refused : PySem.W.keepIn K (.ref f__law_refused) = true)
    (a__law_is_full : PySem.W.nsIn K mainGlobals "_law_is_full" = some (some (.ref f__law_is_full)))
    (l__law_is_full : K.lookup f__law_is_full = some ⟨oc__law_is_full, od__law_is_full, .func (PySem.W.fnOf "_law_is_full" "_law_is_full" (defArgs s_l_is_full) (defBody s_l_is_full) (defScope s_l_is_full) .none kV__law_is_full dc__law_is_full pm__law_is_full an__law_is_full cd__law_is_full ct__law_is_full), sl__law_is_full⟩)
    (co__law_is_full : PySem.W.codeIn K cd__law_is_full "_law_is_full" = true)
    (kp__law_is_full : PySem.W.keepIn K (.ref f__law_is_full) = true)
    (a__law_room : PySem.W.nsIn K mainGlobals "_law_room" = some (some (.ref f__law_room)))
    (l__law_room : K.lookup f__law_room = some ⟨oc__law_room, od__law_room, .func (PySem.W.fnOf "_law_room" "_law_room" (defArgs s_l_room) (defBody s_l_room) (defScope s_l_room) .none kV__law_room dc__law_room pm__law_room an__law_room cd__law_room ct__law_room), sl__law_room⟩)
    (co__law_room : PySem.W.codeIn K cd__law_room "_law_room" = true)
    (kp__law_room : PySem.W.keepIn K (.ref f__law_room) = true)
    (a_law : PySem.W.nsIn K mainGlobals "law" = some (some (.ref f_law)))
    (l_law : K.lookup f_law = some ⟨oc_law, od_law, .func (PySem.W.fnOf "law" "law" (defArgs s_law) (defBody s_law) (defScope s_law) .none kV_law dc_law pm_law an_law cd_law ct_law), sl_law⟩)
    (co_law : PySem.W.codeIn K cd_law "law" = true)
    (kp_law : PySem.W.keepIn K (.ref f_law) = true)
    (ec_hg : PySem.W.findIn K (.ref CF) "__getattribute__" = some (some (.builtin "BaseException.__getattribute__")))
    (ec_hk : PySem.W.findIn K (.ref CF) "__getattr__" = some none)
    (ec_hd : PySem.W.hasDictIn K CF = true)
    (ec_ha : PySem.W.findIn K (.ref CF) "__class__" = some (some (.builtin "object.__class__")))
    (ec_hn : PySem.W.specialIn K (.builtin "object.__class__") "__get__" = some (some (.builtin "getset_descriptor.__get__")))
    (ec_ht : PySem.W.takesIn K (.builtin "object.__class__") = some true)
    (ec_hm : PySem.W.mroIn K CF (.type "object") = some true)
    (ec_fv : PySem.W.subIn K (.ref CF) (.type "ValueError") = some true)
    (lt_put : K.lookup T_put = some ⟨ocT, odT, .seq #[Value.none] nT, slT⟩) :
    ∃ fd : FuncData, (∀ (s : Shared) (v : Value), BindsTo s fd ⟨[v], []⟩ [("_law_script", v)]) ∧ ∀ base : Heap, K.In base → base.Ns mainGlobals mg → FnOk l.prog w K mg base CX0 10 fa fd ["_law_script"] (spLaw K) := by
  have e := hfa.symm.trans (PySem.W.mg_of X G a_law)
  cases e
  have T : Txt K mg CB CN CT CF CS := { n_len := PySem.W.mg_none_of X G n_len, n_isinstance := PySem.W.mg_none_of X G n_isinstance, n_range := PySem.W.mg_none_of X G n_range, n_min := PySem.W.mg_none_of X G n_min, n_max := PySem.W.mg_none_of X G n_max, n_list := PySem.W.mg_none_of X G n_list, n_zip := PySem.W.mg_none_of X G n_zip, n_int := PySem.W.mg_none_of X G n_int, n_bool := PySem.W.mg_none_of X G n_bool, n_ValueError := PySem.W.mg_none_of X G n_ValueError, g_LEAST_WIDE := ⟨_, PySem.W.mg_of X G c_LEAST_WIDE⟩, g_MOST_WIDE := ⟨_, PySem.W.mg_of X G c_MOST_WIDE⟩, g_MOST_THINGS := ⟨_, PySem.W.mg_of X G c_MOST_THINGS⟩, g_PAID := ⟨_, PySem.W.mg_of X G c_PAID⟩, x_BadWide := ⟨PySem.W.mg_of X G g_BadWide, x_BadWide, k_BadWide, b_BadWide, t_BadWide, i_BadWide⟩, x_NoThing := ⟨PySem.W.mg_of X G g_NoThing, x_NoThing, k_NoThing, b_NoThing, t_NoThing, i_NoThing⟩, x_TooMany := ⟨PySem.W.mg_of X G g_TooMany, x_TooMany, k_TooMany, b_TooMany, t_TooMany, i_TooMany⟩, x_Full := ⟨PySem.W.mg_of X G g_Full, x_Full, k_Full, b_Full, t_Full, i_Full⟩, x_SeatError := ⟨PySem.W.mg_of X G g_SeatError, x_SeatError, k_SeatError, b_SeatError, t_SeatError, i_SeatError⟩ }
  have TC : ClsT K CR := { cl := ⟨pg, hd, po, sa⟩, na_wide := na_wide, na_line := na_line, na_marks := na_marks, na_told := na_told, na_coins := na_coins }
  have fsub : FullSub K CB CN CT CF := ⟨⟨ec_hg, ec_hk, b_Full, ec_hd, ec_ha, ec_hn, ec_ht, ec_hm⟩, s_Full_Full, s_Full_BadWide, s_Full_NoThing, s_Full_TooMany, ec_fv⟩
  have F_is_among := fun_mk (st := s_is_among) l_is_among co_is_among kp_is_among
  have b_is_among := F_is_among.binds (ps := ["thing", "least", "most"]) fun _ _ _ _ _ _ us hl => match us, hl with | [_, _, _], _ => rfl
  have F_need_among := fun_mk (st := s_need_among) l_need_among co_need_among kp_need_among
  have b_need_among := F_need_among.binds (ps := ["thing", "least", "most"]) fun _ _ _ _ _ _ us hl => match us, hl with | [_, _, _], _ => rfl
  have F_is_too_full := fun_mk (st := s_is_too_full) l_is_too_full co_is_too_full kp_is_too_full
  have b_is_too_full := F_is_too_full.binds (ps := ["level", "many"]) fun _ _ _ _ _ _ us hl => match us, hl with | [_, _], _ => rfl
  have F_stretch_at := fun_mk (st := s_stretch_at) l_stretch_at co_stretch_at kp_stretch_at
  have b_stretch_at := F_stretch_at.binds (ps := ["level", "mark"]) fun _ _ _ _ _ _ us hl => match us, hl with | [_, _], _ => rfl
  have F_spread := fun_mk (st := s_spread) l_spread co_spread kp_spread
  have b_spread := F_spread.binds (ps := ["level", "start", "many"]) fun _ _ _ _ _ _ us hl => match us, hl with | [_, _, _], _ => rfl
  have F_Row___init__ := fun_mk (st := s_Row_init) l_Row___init__ co_Row___init__ kp_Row___init__
  have b_Row___init__ := F_Row___init__.binds (ps := ["self", "wide"]) fun _ _ _ _ _ _ us hl => match us, hl with | [_, _], _ => rfl
  have F_Row_need_thing := fun_mk (st := s_Row_need_thing) l_Row_need_thing co_Row_need_thing kp_Row_need_thing
  have b_Row_need_thing := F_Row_need_thing.binds (ps := ["self", "one"]) fun _ _ _ _ _ _ us hl => match us, hl with | [_, _], _ => rfl
  have F_Row_things := fun_mk (st := s_Row_things) l_Row_things co_Row_things kp_Row_things
  have b_Row_things := F_Row_things.binds (ps := ["self"]) fun _ _ _ _ _ _ us hl => match us, hl with | [_], _ => rfl
  have F_Row_mark := fun_mk (st := s_Row_mark) l_Row_mark co_Row_mark kp_Row_mark
  have b_Row_mark := F_Row_mark.binds (ps := ["self", "one"]) fun _ _ _ _ _ _ us hl => match us, hl with | [_, _], _ => rfl
  have F_Row_purse := fun_mk (st := s_Row_purse) l_Row_purse co_Row_purse kp_Row_purse
  have b_Row_purse := F_Row_purse.binds (ps := ["self"]) fun _ _ _ _ _ _ us hl => match us, hl with | [_], _ => rfl
  have F_Row_room_at := fun_mk (st := s_Row_room_at) l_Row_room_at co_Row_room_at kp_Row_room_at
  have b_Row_room_at := F_Row_room_at.binds (ps := ["self", "at"]) fun _ _ _ _ _ _ us hl => match us, hl with | [_, _], _ => rfl
  have F_Row_stretch_for := fun_mk (st := s_Row_stretch_for) l_Row_stretch_for co_Row_stretch_for kp_Row_stretch_for
  have b_Row_stretch_for := F_Row_stretch_for.binds (ps := ["self", "mark"]) fun _ _ _ _ _ _ us hl => match us, hl with | [_, _], _ => rfl
  have F_Row_spread_on := fun_mk (st := s_Row_spread_on) l_Row_spread_on co_Row_spread_on kp_Row_spread_on
  have b_Row_spread_on := F_Row_spread_on.binds (ps := ["self", "stretch", "number"]) fun _ _ _ _ _ _ us hl => match us, hl with | [_, _, _], _ => rfl
  have FD_put : FunD K "put" "Row.put" (defArgs s_Row_put) (defBody s_Row_put) (defScope s_Row_put) [.non] [] f_Row_put _ := ⟨⟨_, _, _, _, _, _, _, _, _, _, rfl, l_Row_put, co_Row_put, .inr ⟨by simp, T_put, _, [Value.none], _, rfl, lt_put, rfl, .cons rfl .nil⟩, .inl rfl⟩, kp_Row_put⟩
  obtain ⟨ds2, v2, b2⟩ := FD_put.binds1 (ps := ["self", "one"]) 2 1 (by simp) rfl (fun _ _ _ _ _ _ _ us its h1 h2 => match us, its, h1, h2 with | [_, _], [_], _, _ => ⟨_, rfl, rfl⟩)
  obtain ⟨ds1, v1, b1⟩ := FD_put.binds1 (ps := ["self", "one"]) 1 0 (by simp) rfl (fun _ _ _ _ _ _ _ us its h1 h2 => match us, its, h1, h2 with | [_], [_], _, _ => ⟨_, rfl, rfl⟩)
  have F_Row_take := fun_mk (st := s_Row_take) l_Row_take co_Row_take kp_Row_take
  have b_Row_take := F_Row_take.binds (ps := ["self", "one"]) fun _ _ _ _ _ _ us hl => match us, hl with | [_, _], _ => rfl
  have F__law_next := fun_mk (st := s_l_next) l__law_next co__law_next kp__law_next
  have b__law_next := F__law_next.binds (ps := ["_law_state"]) fun _ _ _ _ _ _ us hl => match us, hl with | [_], _ => rfl
  have F__law_too_many := fun_mk (st := s_l_too_many) l__law_too_many co__law_too_many kp__law_too_many
  have b__law_too_many := F__law_too_many.binds (ps := ["_law_level", "_law_many"]) fun _ _ _ _ _ _ us hl => match us, hl with | [_, _], _ => rfl
  have F__law_place := fun_mk (st := s_l_place) l__law_place co__law_place kp__law_place
  have b__law_place := F__law_place.binds (ps := ["_law_state", "_law_m"]) fun _ _ _ _ _ _ us hl => match us, hl with | [_, _], _ => rfl
  have F__law_refused := fun_mk (st := s_l_refused) l__law_refused co__law_refused kp__law_refused
  have b__law_refused := F__law_refused.binds (ps := ["_law_row", "_law_one"]) fun _ _ _ _ _ _ us hl => match us, hl with | [_, _], _ => rfl
  have F__law_is_full := fun_mk (st := s_l_is_full) l__law_is_full co__law_is_full kp__law_is_full
  have b__law_is_full := F__law_is_full.binds (ps := ["_law_caught"]) fun _ _ _ _ _ _ us hl => match us, hl with | [_], _ => rfl
  have F__law_room := fun_mk (st := s_l_room) l__law_room co__law_room kp__law_room
  have b__law_room := F__law_room.binds (ps := ["_law_row", "_law_line", "_law_wide", "_law_one"]) fun _ _ _ _ _ _ us hl => match us, hl with | [_, _, _, _], _ => rfl
  have F_law := fun_mk (st := s_law) l_law co_law kp_law
  refine ⟨PySem.W.fnOf "law" "law" (defArgs s_law) (defBody s_law) (defScope s_law) .none kV_law dc_law pm_law an_law cd_law ct_law, fun s v => .of_eq rfl, fun base _ _ => ?_⟩
  have d_is_among : Dfn l.prog w K mg base 1 "is_among" [] (spAmong K) := ⟨_, _, _, [], ok_is_among F_is_among T , PySem.W.mg_of X G a_is_among, kp_is_among, b_is_among, .nil⟩
  have d_need_among : Dfn l.prog w K mg base 2 "need_among" [] (spNeed K CB) := ⟨_, _, _, [], ok_need_among F_need_among T d_is_among, PySem.W.mg_of X G a_need_among, kp_need_among, b_need_among, .nil⟩
  have d_is_too_full : Dfn l.prog w K mg base 3 "is_too_full" [] (spFull K CB) := ⟨_, _, _, [], ok_is_too_full F_is_too_full T d_need_among, PySem.W.mg_of X G a_is_too_full, kp_is_too_full, b_is_too_full, .nil⟩
  have d_stretch_at : Dfn l.prog w K mg base 3 "stretch_at" [] (spAt K CB) := ⟨_, _, _, [], ok_stretch_at F_stretch_at T d_need_among, PySem.W.mg_of X G a_stretch_at, kp_stretch_at, b_stretch_at, .nil⟩
  have d_spread : Dfn l.prog w K mg base 3 "spread" [] (spSpread K CB) := ⟨_, _, _, [], ok_spread F_spread T d_need_among, PySem.W.mg_of X G a_spread, kp_spread, b_spread, .nil⟩
  have k_Row : Mke l.prog w K mg base 3 CR "Row" (spInit K CR CB) := ⟨_, _, _, ok_init F_Row___init__ T TC d_need_among, ⟨mk, a_Row___init__, fn_Row___init__, kc⟩, PySem.W.mg_of X G g_Row, b_Row___init__⟩
  have m_need_thing : Mth l.prog w K mg base 2 CR "need_thing" [] (spThing K CR CN) := ⟨⟨_, _, _, [], ok_thing F_Row_need_thing T TC d_is_among, ⟨a_Row_need_thing, fn_Row_need_thing, kp_Row_need_thing⟩, b_Row_need_thing, .nil⟩, TC.cl⟩
  have m_things : Mth l.prog w K mg base 1 CR "things" [] (spThings CR) := ⟨⟨_, _, _, [], ok_things F_Row_things T TC , ⟨a_Row_things, fn_Row_things, kp_Row_things⟩, b_Row_things, .nil⟩, TC.cl⟩
  have m_mark : Mth l.prog w K mg base 3 CR "mark" [] (spMark K CR CN) := ⟨⟨_, _, _, [], ok_mark F_Row_mark T TC m_need_thing, ⟨a_Row_mark, fn_Row_mark, kp_Row_mark⟩, b_Row_mark, .nil⟩, TC.cl⟩
  have m_purse : Mth l.prog w K mg base 1 CR "purse" [] (spPurse CR) := ⟨⟨_, _, _, [], ok_purse F_Row_purse T TC , ⟨a_Row_purse, fn_Row_purse, kp_Row_purse⟩, b_Row_purse, .nil⟩, TC.cl⟩
  have m_room_at : Mth l.prog w K mg base 1 CR "room_at" [] (spRoom CR) := ⟨⟨_, _, _, [], ok_room F_Row_room_at T TC , ⟨a_Row_room_at, fn_Row_room_at, kp_Row_room_at⟩, b_Row_room_at, .nil⟩, TC.cl⟩
  have m_stretch_for : Mth l.prog w K mg base 4 CR "stretch_for" [] (spStretch CR CF) := ⟨⟨_, _, _, [], ok_stretch F_Row_stretch_for T TC d_stretch_at d_is_too_full, ⟨a_Row_stretch_for, fn_Row_stretch_for, kp_Row_stretch_for⟩, b_Row_stretch_for, .nil⟩, TC.cl⟩
  have m_spread_on : Mth l.prog w K mg base 4 CR "spread_on" [] (spSpreadOn CR) := ⟨⟨_, _, _, [], ok_spread_on F_Row_spread_on T TC d_spread, ⟨a_Row_spread_on, fn_Row_spread_on, kp_Row_spread_on⟩, b_Row_spread_on, .nil⟩, TC.cl⟩
  have G_put : FnOk l.prog w K mg base (L2.CX l.prog w) 5 f_Row_put _ ["self", "one"] (spPut K CR CN CT CF) := ok_put (fun N ps k sp S len hb => FD_put.ok S len hb) T TC m_need_thing m_room_at m_stretch_for m_spread_on
  have m_put : Mth l.prog w K mg base 5 CR "put" [] (spPut K CR CN CT CF) := ⟨⟨_, _, _, ds2, G_put, ⟨a_Row_put, fn_Row_put, kp_Row_put⟩, b2, v2⟩, TC.cl⟩
  have m_put0 : Mth l.prog w K mg base 5 CR "put" [.non] (spPut K CR CN CT CF) := ⟨⟨_, _, _, ds1, G_put, ⟨a_Row_put, fn_Row_put, kp_Row_put⟩, b1, v1⟩, TC.cl⟩
  have m_take : Mth l.prog w K mg base 3 CR "take" [] (spTake K CR CN) := ⟨⟨_, _, _, [], ok_take F_Row_take T TC m_need_thing, ⟨a_Row_take, fn_Row_take, kp_Row_take⟩, b_Row_take, .nil⟩, TC.cl⟩
  have d__law_next : Dfn l.prog w K mg base 1 "_law_next" [] (spNext K) := ⟨_, _, _, [], ok_l_next F__law_next T , PySem.W.mg_of X G a__law_next, kp__law_next, b__law_next, .nil⟩
  have d__law_too_many : Dfn l.prog w K mg base 1 "_law_too_many" [] (spTooMany) := ⟨_, _, _, [], ok_l_too_many F__law_too_many T , PySem.W.mg_of X G a__law_too_many, kp__law_too_many, b__law_too_many, .nil⟩
  have d__law_place : Dfn l.prog w K mg base 2 "_law_place" [] (spPlace K) := ⟨_, _, _, [], ok_l_place F__law_place T d__law_next, PySem.W.mg_of X G a__law_place, kp__law_place, b__law_place, .nil⟩
  have d__law_refused : Dfn l.prog w K mg base 6 "_law_refused" [] (spRefused CR CF) := ⟨_, _, _, [], ok_l_refused F__law_refused T TC s_Full_SeatError m_put, PySem.W.mg_of X G a__law_refused, kp__law_refused, b__law_refused, .nil⟩
  have d__law_is_full : Dfn l.prog w K mg base 1 "_law_is_full" [] (spIsFull CF) := ⟨_, _, _, [], ok_l_is_full F__law_is_full T fsub, PySem.W.mg_of X G a__law_is_full, kp__law_is_full, b__law_is_full, .nil⟩
  have d__law_room : Dfn l.prog w K mg base 4 "_law_room" [] (spRoomOf CR) := ⟨_, _, _, [], ok_l_room F__law_room T TC m_mark, PySem.W.mg_of X G a__law_room, kp__law_room, b__law_room, .nil⟩
  exact ok_law F_law T TC d__law_next d__law_place d__law_too_many d__law_refused d__law_is_full d__law_room k_Row m_things m_take m_mark m_purse m_put
end Sm
namespace Sm
open PySem L2
theorem walk {l : PySem.W.OpenLaw} {q : Program} {loose : List Str} {XP : (Str → Option Value) → Heap → Prop} {YP : World → Heap → Prop} {d : DefRec} {K : Params → PySem.W.Frag} (hn : l.most = some 63) (hdf : d.params.defaults = [])
    (hY : ∀ (w : World) (h : Heap), YP w h → (K w.params).In h)
    (F : ∀ (w : World) (mg : Str → Option Value) (fa : Addr) (h : Heap), (K w.params).In h → h.Ns mainGlobals mg → mg d.name = some (.ref fa) →
      ∃ fd : FuncData, (∀ (s : Shared) (u : Value), BindsTo s fd ⟨[u], []⟩ [("_law_script", u)]) ∧ ∀ base : Heap, (K w.params).In base → base.Ns mainGlobals mg → FnOk l.prog w (K w.params) mg base CX0 10 fa fd ["_law_script"] (spLaw (K w.params))) :
    PySem.W.WalkO q loose XP YP l.row.toRowW d [] (fun f vs => PySem.call f vs) :=
  L2.walk_of (n := 63) (k := 10) (x := "_law_script") (CX := fun _ => CX0) (sp := fun w => spLaw (K w.params)) hn (by decide) hdf ⟨rfl, by decide, by decide⟩ hY F (fun _ _ a ns hl _ hS => ⟨a, ns, rfl, hS, hl, fun _ => rfl⟩) fun _ _ _ _ _ z => z
end Sm
open PySem PySem.W PyProof.Rows
set_option maxRecDepth 100000 in
set_option maxHeartbeats 0 in
theorem PySem.Challenge.cw_seatmarks_k09_full_rows_holds : PySem.Challenge.rw_seatmarks_k09_full_rows.Holds := by
  w_on; o_law; k_head; (case hw => w_witness2)
  k_fill
  refine Sm.walk (l := PySem.Challenge.rw_seatmarks_k09_full_rows) rfl rfl (fun w h Y => PySem.W.kIn_of Y) ?F
  case F =>
    intro w mg fa h KX G hmg
    refine' Sm.all_mk KX G hmg ?g_BadWide ?x_BadWide ?k_BadWide ?b_BadWide ?t_BadWide ?i_BadWide ?g_NoThing ?x_NoThing ?k_NoThing ?b_NoThing ?t_NoThing ?i_NoThing ?g_TooMany ?x_TooMany ?k_TooMany ?b_TooMany ?t_TooMany ?i_TooMany ?g_Full ?x_Full ?k_Full ?b_Full ?t_Full ?i_Full ?g_SeatError ?x_SeatError ?k_SeatError ?b_SeatError ?t_SeatError ?i_SeatError ?s_Full_SeatError ?s_Full_Full ?s_Full_BadWide ?s_Full_NoThing ?s_Full_TooMany ?g_Row ?pg ?hd ?po ?sa ?mk ?kc ?na_wide ?na_line ?na_marks ?na_told ?na_coins ?n_len ?n_isinstance ?n_range ?n_min ?n_max ?n_list ?n_zip ?n_int ?n_bool ?n_ValueError ?c_LEAST_WIDE ?c_MOST_WIDE ?c_MOST_THINGS ?c_PAID ?a_is_among ?l_is_among ?co_is_among ?kp_is_among ?a_need_among ?l_need_among ?co_need_among ?kp_need_among ?a_is_too_full ?l_is_too_full ?co_is_too_full ?kp_is_too_full ?a_stretch_at ?l_stretch_at ?co_stretch_at ?kp_stretch_at ?a_spread ?l_spread ?co_spread ?kp_spread ?a_Row___init__ ?fn_Row___init__ ?l_Row___init__ ?co_Row___init__ ?kp_Row___init__ ?a_Row_need_thing ?fn_Row_need_thing ?l_Row_need_thing ?co_Row_need_thing ?kp_Row_need_thing ?a_Row_things ?fn_Row_things ?l_Row_things ?co_Row_things ?kp_Row_things ?a_Row_mark ?fn_Row_mark ?l_Row_mark ?co_Row_mark ?kp_Row_mark ?a_Row_purse ?fn_Row_purse ?l_Row_purse ?co_Row_purse ?kp_Row_purse ?a_Row_room_at ?fn_Row_room_at ?l_Row_room_at ?co_Row_room_at ?kp_Row_room_at ?a_Row_stretch_for ?fn_Row_stretch_for ?l_Row_stretch_for ?co_Row_stretch_for ?kp_Row_stretch_for ?a_Row_spread_on ?fn_Row_spread_on ?l_Row_spread_on ?co_Row_spread_on ?kp_Row_spread_on ?a_Row_put ?fn_Row_put ?l_Row_put ?co_Row_put ?kp_Row_put ?a_Row_take ?fn_Row_take ?l_Row_take ?co_Row_take ?kp_Row_take ?a__law_next ?l__law_next ?co__law_next ?kp__law_next ?a__law_too_many ?l__law_too_many ?co__law_too_many ?kp__law_too_many ?a__law_place ?l__law_place ?co__law_place ?kp__law_place ?a__law_refused ?l__law_refused ?co__law_refused ?kp__law_refused ?a__law_is_full ?l__law_is_full ?co__law_is_full ?kp__law_is_full ?a__law_room ?l__law_room ?co__law_room ?kp__law_room ?a_law ?l_law ?co_law ?kp_law ?ec_hg ?ec_hk ?ec_hd ?ec_ha ?ec_hn ?ec_ht ?ec_hm ?ec_fv ?lt_put
    (case g_BadWide => k_is)
    (case x_BadWide => k_exc)
    (case k_BadWide => k_is)
    (case b_BadWide => k_is)
    (case t_BadWide => k_is)
    (case i_BadWide => k_is)
    (case g_NoThing => k_is)
    (case x_NoThing => k_exc)
    (case k_NoThing => k_is)
    (case b_NoThing => k_is)
    (case t_NoThing => k_is)
    (case i_NoThing => k_is)
    (case g_TooMany => k_is)
    (case x_TooMany => k_exc)
    (case k_TooMany => k_is)
    (case b_TooMany => k_is)
    (case t_TooMany => k_is)
    (case i_TooMany => k_is)
    (case g_Full => k_is)
    (case x_Full => k_exc)
    (case k_Full => k_is)
    (case b_Full => k_is)
    (case t_Full => k_is)
    (case i_Full => k_is)
    (case g_SeatError => k_is)
    (case x_SeatError => k_exc)
    (case k_SeatError => k_is)
    (case b_SeatError => k_is)
    (case t_SeatError => k_is)
    (case i_SeatError => k_is)
    (case s_Full_SeatError => first | rfl | k_is)
    (case s_Full_Full => first | rfl | k_is)
    (case s_Full_BadWide => first | rfl | k_is)
    (case s_Full_NoThing => first | rfl | k_is)
    (case s_Full_TooMany => first | rfl | k_is)
    (case g_Row => k_is)
    (case pg => k_is)
    (case hd => k_is)
    (case po => k_is)
    (case sa => k_is)
    (case mk => k_is)
    (case kc => k_is)
    (case na_wide => k_is)
    (case na_line => k_is)
    (case na_marks => k_is)
    (case na_told => k_is)
    (case na_coins => k_is)
    (case n_len => k_is)
    (case n_isinstance => k_is)
    (case n_range => k_is)
    (case n_min => k_is)
    (case n_max => k_is)
    (case n_list => k_is)
    (case n_zip => k_is)
    (case n_int => k_is)
    (case n_bool => k_is)
    (case n_ValueError => k_is)
    (case c_LEAST_WIDE => k_is)
    (case c_MOST_WIDE => k_is)
    (case c_MOST_THINGS => k_is)
    (case c_PAID => k_is)
    (case a_is_among => k_is)
    (case l_is_among => k_is)
    (case co_is_among => k_is)
    (case kp_is_among => k_is)
    (case a_need_among => k_is)
    (case l_need_among => k_is)
    (case co_need_among => k_is)
    (case kp_need_among => k_is)
    (case a_is_too_full => k_is)
    (case l_is_too_full => k_is)
    (case co_is_too_full => k_is)
    (case kp_is_too_full => k_is)
    (case a_stretch_at => k_is)
    (case l_stretch_at => k_is)
    (case co_stretch_at => k_is)
    (case kp_stretch_at => k_is)
    (case a_spread => k_is)
    (case l_spread => k_is)
    (case co_spread => k_is)
    (case kp_spread => k_is)
    (case a_Row___init__ => k_is)
    (case fn_Row___init__ => k_is)
    (case l_Row___init__ => k_is)
    (case co_Row___init__ => k_is)
    (case kp_Row___init__ => k_is)
    (case a_Row_need_thing => k_is)
    (case fn_Row_need_thing => k_is)
    (case l_Row_need_thing => k_is)
    (case co_Row_need_thing => k_is)
    (case kp_Row_need_thing => k_is)
    (case a_Row_things => k_is)
    (case fn_Row_things => k_is)
    (case l_Row_things => k_is)
    (case co_Row_things => k_is)
    (case kp_Row_things => k_is)
    (case a_Row_mark => k_is)
    (case fn_Row_mark => k_is)
    (case l_Row_mark => k_is)
    (case co_Row_mark => k_is)
    (case kp_Row_mark => k_is)
    (case a_Row_purse => k_is)
    (case fn_Row_purse => k_is)
    (case l_Row_purse => k_is)
    (case co_Row_purse => k_is)
    (case kp_Row_purse => k_is)
    (case a_Row_room_at => k_is)
    (case fn_Row_room_at => k_is)
    (case l_Row_room_at => k_is)
    (case co_Row_room_at => k_is)
    (case kp_Row_room_at => k_is)
    (case a_Row_stretch_for => k_is)
    (case fn_Row_stretch_for => k_is)
    (case l_Row_stretch_for => k_is)
    (case co_Row_stretch_for => k_is)
    (case kp_Row_stretch_for => k_is)
    (case a_Row_spread_on => k_is)
    (case fn_Row_spread_on => k_is)
    (case l_Row_spread_on => k_is)
    (case co_Row_spread_on => k_is)
    (case kp_Row_spread_on => k_is)
    (case a_Row_put => k_is)
    (case fn_Row_put => k_is)
    (case l_Row_put => k_is)
    (case co_Row_put => k_is)
    (case kp_Row_put => k_is)
    (case a_Row_take => k_is)
    (case fn_Row_take => k_is)
    (case l_Row_take => k_is)
    (case co_Row_take => k_is)
    (case kp_Row_take => k_is)
    (case a__law_next => k_is)
    (case l__law_next => k_is)
    (case co__law_next => k_is)
    (case kp__law_next => k_is)
    (case a__law_too_many => k_is)
    (case l__law_too_many => k_is)
    (case co__law_too_many => k_is)
    (case kp__law_too_many => k_is)
    (case a__law_place => k_is)
    (case l__law_place => k_is)
    (case co__law_place => k_is)
    (case kp__law_place => k_is)
    (case a__law_refused => k_is)
    (case l__law_refused => k_is)
    (case co__law_refused => k_is)
    (case kp__law_refused => k_is)
    (case a__law_is_full => k_is)
    (case l__law_is_full => k_is)
    (case co__law_is_full => k_is)
    (case kp__law_is_full => k_is)
    (case a__law_room => k_is)
    (case l__law_room => k_is)
    (case co__law_room => k_is)
    (case kp__law_room => k_is)
    (case a_law => k_is)
    (case l_law => k_is)
    (case co_law => k_is)
    (case kp_law => k_is)
    (case ec_hg => first | rfl | k_is)
    (case ec_hk => first | rfl | k_is)
    (case ec_hd => first | rfl | k_is)
    (case ec_ha => first | rfl | k_is)
    (case ec_hn => first | rfl | k_is)
    (case ec_ht => first | rfl | k_is)
    (case ec_hm => first | rfl | k_is)
    (case ec_fv => first | rfl | k_is)
    (case lt_put => k_is)
#print axioms PySem.Challenge.cw_seatmarks_k09_full_rows_holds

