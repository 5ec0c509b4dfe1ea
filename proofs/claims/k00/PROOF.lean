import PyProof.Rows.All
import Wide.All
import OpenK.AllK
import Wide.FinOn
import HandS.ForMost
import HandS.ForExc
import HandS.TryMany
import HandS.IsInst
import HandS.Defaults
import HandS.Style
import HandS.Evl
import PySem.Challenge.RW_truealarms_k00_whole_lots_and_their_stan
set_option Elab.async false
set_option linter.all false
set_option maxRecDepth 100000
set_option maxHeartbeats 4000000
/-! Part A: words, promises, plain mathematics. -/
namespace Lot
open PySem PySem.Spec PyProof.Rows L2

def top (i : Nat) : Stmt := PySem.Challenge.pw_truealarms_k00_whole_lots_and_their_stan.main.body.getD i (.Pass ⟨0, 0, 0, 0⟩)

/-! ### the things that the law hands around, by the name of their built-in type -/
inductive Th (H : Hp) : V → String → Prop
  | non : Th H .non "NoneType"
  | bl (b : Bool) : Th H (.bl b) "bool"
  | int (i : Int) : Th H (.int i) "int"
  | str (z : Str) : Th H (.str z) "str"
  | tup {a : Addr} {xs : List V} (h : H a = some (.tup xs)) : Th H (.ref a) "tuple"
  | lst {a : Addr} {xs : List V} (h : H a = some (.lst xs)) : Th H (.ref a) "list"
  | dct {a : Addr} {kvs : List (Key × V)} (h : H a = some (.dK kvs)) : Th H (.ref a) "dict"
/-- those that are no list and no dict; a tuple is (0,) -/
inductive Fl (H : Hp) : V → Prop
  | non : Fl H .non
  | bl (b : Bool) : Fl H (.bl b)
  | int (i : Int) : Fl H (.int i)
  | str (z : Str) (ok : PyData.strOk z = true) : Fl H (.str z)
  | t0 {a : Addr} (h : H a = some (.tup [.int 0])) : Fl H (.ref a)
theorem Fl.th {H : Hp} {v : V} (f : Fl H v) : ∃ T, Th H v T := by
  cases f with
  | non => exact ⟨_, .non⟩
  | bl b => exact ⟨_, .bl b⟩
  | int i => exact ⟨_, .int i⟩
  | str z _ => exact ⟨_, .str z⟩
  | t0 h => exact ⟨_, .tup h⟩
theorem Th.same {H H' : Hp} {v : V} {T : String} (s : Same H H') (t : Th H v T) : Th H' v T := by
  cases t with
  | non => exact .non
  | bl b => exact .bl b
  | int i => exact .int i
  | str z => exact .str z
  | tup h => exact .tup (s _ _ h)
  | lst h => exact .lst (s _ _ h)
  | dct h => exact .dct (s _ _ h)
theorem Fl.same {H H' : Hp} {v : V} (s : Same H H') (t : Fl H v) : Fl H' v := by
  cases t with
  | non => exact .non
  | bl b => exact .bl b
  | int i => exact .int i
  | str z ok => exact .str z ok
  | t0 h => exact .t0 (s _ _ h)
theorem Th.tyx {K : PySem.W.Frag} {H : Hp} {v : V} {T : String} (t : Th H v T) : TyX K H v (.type T) := by
  cases t with
  | non => exact .base .non
  | bl b => exact .base (.bl b)
  | int i => exact .base (.int i)
  | str z => exact .base (.str z)
  | tup h => exact .base (.tup h)
  | lst h => exact .base (.lst h)
  | dct h => exact .base (.dK h)

def isB : V → Bool
  | .bl _ => true
  | _ => false
def isI : V → Bool
  | .int _ => true
  | _ => false
def isS : V → Bool
  | .str _ => true
  | _ => false
/-- isinstance(thing, bool), (thing, int), (thing, str): by the type's name -/
theorem th_bool {H : Hp} {v : V} {T : String} (t : Th H v T) : kitB T "bool" = some (isB v) := by
  cases t <;> first | (show kitB _ _ = some true; decide +kernel) | (show kitB _ _ = some false; decide +kernel)
theorem th_int {H : Hp} {v : V} {T : String} (t : Th H v T) : kitB T "int" = some (isB v || isI v) := by
  cases t <;> first | (show kitB _ _ = some true; decide +kernel) | (show kitB _ _ = some false; decide +kernel)
theorem th_str {H : Hp} {v : V} {T : String} (t : Th H v T) : kitB T "str" = some (isS v) := by
  cases t <;> first | (show kitB _ _ = some true; decide +kernel) | (show kitB _ _ = some false; decide +kernel)
def sqn (T : String) : Bool := T == "list" || T == "tuple"
theorem th_seq {K : PySem.W.Frag} {H : Hp} {v : V} {T : String} (t : Th H v T) : PySem.W.kitAny K (.type T) [.type "list", .type "tuple"] = some (sqn T) := by
  have l : kitB T "list" = some (T == "list") := by cases t <;> decide +kernel
  have u : kitB T "tuple" = some (T == "tuple") := by cases t <;> decide +kernel
  refine kitAny_cons (b := T == "list") (kit_ty l) (fun e => ?_) (fun e => ?_)
  · refine kitAny_cons (b := T == "tuple") (kit_ty u) (fun e2 => ?_) (fun e2 => ?_)
    · rw [kitAny_nil]; unfold sqn; rw [e, e2]; rfl
    · unfold sqn; rw [e2]; simp
  · unfold sqn; rw [e]; rfl

/-! ### whole numbers between bounds -/
def oV : Option Int → V
  | none => .non
  | some i => .int i
def inB (i : Int) (lo hi : Option Int) : Bool := (match lo with | none => true | some l => decide (l ≤ i)) && (match hi with | none => true | some h => decide (i ≤ h))
def whB : V → Option Int → Option Int → Bool
  | .int i, lo, hi => inB i lo hi
  | _, _, _ => false
theorem whB_int {v : V} {lo hi : Int} (h : whB v (some lo) (some hi) = true) : ∃ i, v = .int i ∧ lo ≤ i ∧ i ≤ hi := by
  cases v with
  | int i =>
    have h' : (decide (lo ≤ i) && decide (i ≤ hi)) = true := h
    rw [Bool.and_eq_true, decide_eq_true_eq, decide_eq_true_eq] at h'
    exact ⟨i, rfl, h'.1, h'.2⟩
  | _ => cases h
theorem whB_of {i lo hi : Int} (h1 : lo ≤ i) (h2 : i ≤ hi) : whB (.int i) (some lo) (some hi) = true := by
  show (decide (lo ≤ i) && decide (i ≤ hi)) = true
  rw [decide_eq_true h1, decide_eq_true h2]; rfl
theorem whB_no {v : V} {lo hi : Option Int} (h : isI v = false) : whB v lo hi = false := by
  cases v with
  | int i => cases h
  | _ => rfl
/-- the lot of all stands -/
def evI (n : Int) : Int := 1 * 2 ^ n.toNat - 1

/-! ### the hand that is drawn from -/
/-- all that was tracked but h stands as it was -/
def Kp (h : Addr) (H H' : Hp) : Prop := ∀ b o, H b = some o → b ≠ h → H' b = some o
structure HandAt (H : Hp) (h c : Addr) : Prop where
  ex : ∃ (ns : List Int) (i r t : Int), H h = some (.lst [.ref c, .int i, .int r, .int t]) ∧ H c = some (.lst (ns.map V.int)) ∧ 0 ≤ i ∧ 0 ≤ r ∧ (∀ n ∈ ns, 0 ≤ n)
theorem Same.kp {H H' : Hp} (s : Same H H') (h : Addr) : Kp h H H' := fun b o e _ => s b o e
theorem Kp.trans {h : Addr} {H H1 H2 : Hp} (a : Kp h H H1) (b : Kp h H1 H2) : Kp h H H2 := fun c o e n => b c o (a c o e n) n
theorem Kp.refl (h : Addr) (H : Hp) : Kp h H H := fun _ _ e _ => e
theorem HandAt.same {H H' : Hp} {h c : Addr} (s : Same H H') (k : HandAt H h c) : HandAt H' h c := by
  obtain ⟨ns, i, r, t, e1, e2, q⟩ := k.ex
  exact ⟨ns, i, r, t, s _ _ e1, s _ _ e2, q⟩
theorem HandAt.not_tup {H : Hp} {h c a : Addr} {xs : List V} (k : HandAt H h c) (e : H a = some (.tup xs)) : a ≠ h := by
  obtain ⟨ns, i, r, t, e1, e2, q⟩ := k.ex
  exact ne_of e e1 (by intro z; cases z)
theorem Fl.kp {H H' : Hp} {h c : Addr} {v : V} (k : HandAt H h c) (s : Kp h H H') (t : Fl H v) : Fl H' v := by
  cases t with
  | non => exact .non
  | bl b => exact .bl b
  | int i => exact .int i
  | str z ok => exact .str z ok
  | t0 e => exact .t0 (s _ _ e (k.not_tup e))
theorem HandAt.fresh {H : Hp} {h c p : Addr} (k : HandAt H h c) (e : H p = none) : p ≠ h := by
  obtain ⟨ns, i, r, t, e1, e2, q⟩ := k.ex
  exact (ne_of_none e1 e).symm
theorem HandAt.freshC {H : Hp} {h c p : Addr} (k : HandAt H h c) (e : H p = none) : p ≠ c := by
  obtain ⟨ns, i, r, t, e1, e2, q⟩ := k.ex
  exact (ne_of_none e2 e).symm
/-- a thing of one's own is stored -/
theorem HandAt.updO {H : Hp} {h c D : Addr} {o : HO} (k : HandAt H h c) (n1 : D ≠ h) (n2 : D ≠ c) : HandAt (upd H D o) h c := by
  obtain ⟨ns, i, r, t, e1, e2, q⟩ := k.ex
  exact ⟨ns, i, r, t, by rw [upd_ne n1.symm]; exact e1, by rw [upd_ne n2.symm]; exact e2, q⟩
theorem Fl.updL {H : Hp} {D : Addr} {xs ys : List V} {v : V} (e : H D = some (.lst xs)) (t : Fl H v) : Fl (upd H D (.lst ys)) v := by
  cases t with
  | non => exact .non
  | bl b => exact .bl b
  | int i => exact .int i
  | str z ok => exact .str z ok
  | t0 h => exact .t0 (by rw [upd_ne (ne_of h e (by intro z; cases z))]; exact h)
theorem Kp.updO {H H1 : Hp} {h D : Addr} {o : HO} (k : Kp h H H1) (e : H D = none) : Kp h H (upd H1 D o) := fun b u z n => by
  rw [upd_ne (ne_of_none z e)]
  exact k b u z n
theorem same_upd {H : Hp} {p : Addr} {o : HO} (e : H p = none) : Same H (upd H p o) := fun b u z => by
  rw [upd_ne (ne_of_none z e)]; exact z
theorem same_upd' {H H1 : Hp} {p : Addr} {o : HO} (s : Same H H1) (e : H1 p = none) : Same H (upd H1 p o) := Same.trans s (same_upd e)

/-! ### what may be called: a def of the top with its promise -/
structure Cal (P : Program) (w : World) (K : PySem.W.Frag) (mg : Str → Option Value) (base : Heap) (CX : CXT) (k : Nat) (x : Str) (ps : List Str) (sp : Sp) : Prop where
  ex : ∃ (f : Addr) (fd : FuncData), FnOk P w K mg base CX k f fd ps sp ∧ mg x = some (.ref f) ∧ PySem.W.keepIn K (.ref f) = true ∧ Binds K fd ps []
section
variable {X : Cx} {CX : CXT} {k j : Nat} {ps : List Str} {sp : Sp} {E : XK} {x : Str} {p pos : Pos} {e : Expr} {es : List Expr} {t : TA}
theorem pc (C : Cal X.prog X.w X.K X.mg X.base CX k x ps sp) (hr : Room j X.A) (hk : k ≤ j) (hg : Gl X x) (hx : Passes CX X E) (ha : PA X (e :: es) t)
    (hdb : (x == ("__debug__" : Str)) = false := by decide) (he : starEach (e :: es) X.env = (false, eval e X.env) :: starEach es X.env := by rfl) (hpl : (backTo pos (starEach es X.env)).any (·.1) = false := by rfl) :
    PE X (.Call (.Name x p) (e :: es) [] pos) (tCall sp [] E t) := by
  obtain ⟨f, fd, F, m, kp, b⟩ := C.ex
  exact pe_call F (hr.mono hk) hg m kp b .nil hx ha hdb he hpl
theorem pcS {E : L2.St → XK} (C : Cal X.prog X.w X.K X.mg X.base CX k x ps sp) (hr : Room j X.A) (hk : k ≤ j) (hg : Gl X x) (hx : ∀ σ, PassesAt CX X σ (E σ)) (ha : PA X (e :: es) t)
    (hdb : (x == ("__debug__" : Str)) = false := by decide) (he : starEach (e :: es) X.env = (false, eval e X.env) :: starEach es X.env := by rfl) (hpl : (backTo pos (starEach es X.env)).any (·.1) = false := by rfl) :
    PE X (.Call (.Name x p) (e :: es) [] pos) (tCallS sp E t) := by
  obtain ⟨f, fd, F, m, kp, b⟩ := C.ex
  exact pe_callS F (hr.mono hk) hg m kp b hx ha hdb he hpl
end
/-- a def of the top by its place -/
structure DefAt (K : PySem.W.Frag) (mg : Str → Option Value) (x : Str) (st : Stmt) (f : Addr) (fd : FuncData) : Prop where
  g : mg x = some (.ref f)
  F : Fun K x x st f fd
/-- an own class of exceptions without anything of its own -/
structure ErrAt (K : PySem.W.Frag) (mg : Str → Option Value) (x : Str) (C : Addr) : Prop where
  g : mg x = some (.ref C)
  ex : PySem.W.excIn K C [.type "ValueError", .type "Exception", .type "BaseException", .type "object"] "ValueError.__new__" = true
  kp : PySem.W.keepIn K (.ref C) = true
  sb : PySem.W.subIn K (.ref C) (.type "BaseException") = some true
  ty : PySem.W.typeIn K (.ref C) = some (.type "type")
  im : PySem.W.exmOne K (.ref C) (.ref C) = some true
/-- raise x() -/
theorem pmk_own0 {X : Cx} {C : Addr} {x : Str} {p pos : Pos} (T : ErrAt X.K X.mg x C) (hg : Gl X x) (hdb : (x == ("__debug__" : Str)) = false := by decide) :
    PMk X (.Call (.Name x p) [] [] pos) (fun _ H Q => Q (.ref C) none H) := by
  intro pins s σ H Q I h
  refine wpAny_Call_Name_kw (ld_glob I hg T.g ?_ hdb)
  refine PySem.W.callWith_K0 I.kIn T.kp ?_
  obtain ⟨bm, N, nm, qn, bs, hdct, sn, sub, ab, col, dd, k0, k1, k2, k3, k5, mN, hC, hN, hni, T'⟩ := exc_obj I.kIn T.ex
  refine wpAny_call_exc_subT PySem.F.excBase_ValueError T' hC hN hni (fun h' e hm => ?_) (Nat.zero_le _)
  exact mk_of I hm (raises_own T.sb T.ty) h (I.hok.gone hm.new)
end Lot

/-! Part B: the program's own checks. -/
namespace Lot
open PySem PySem.Spec PyProof.Rows L2

/-- the names of built-ins that the text does not bind -/
structure Bt (mg : Str → Option Value) : Prop where
  isi : mg "isinstance" = none
  list : mg "list" = none
  tuple : mg "tuple" = none
  bool : mg "bool" = none
  int : mg "int" = none
  str : mg "str" = none
  len : mg "len" = none
  range : mg "range" = none
  abs : mg "abs" = none

theorem two_line : 2 ≤ sizeLine := by decide
theorem sz (n : Nat) (h : n ≤ 1000 := by decide) : n ≤ sizeLine := Nat.le_trans h (by decide)

/-- isinstance(v, T) at a thing, from what its type's name says -/
theorem r_isi {K : PySem.W.Frag} {H : Hp} {v : V} {T c : String} {b : Bool} {Q : VK} (t : Th H v T) (h : kitB T c = some b) (q : Q (.bl b) H) : rIsi K [v, .ty c] H Q :=
  ⟨v, .ty c, .type T, .type c, b, rfl, .ty _, t.tyx, kit_ty h, q⟩

/-! ### is_sequence -/
abbrev sSeq : Stmt := top 5
abbrev sWh : Stmt := top 6
abbrev sCS : Stmt := top 8
abbrev sAS : Stmt := top 9
abbrev sCL : Stmt := top 10
def spSeq : Sp := fun vs H Q _ => ∃ (v : V) (T : String), vs = [v] ∧ Th H v T ∧ ∀ H', Same H H' → Q (.bl (sqn T)) H'
/-- is_whole(thing, low, high): the three are given (defaults None) -/
def spWh : Sp := fun vs H Q _ => ∃ (v : V) (T : String) (lo hi : Option Int), vs = [v, oV lo, oV hi] ∧ Th H v T ∧ Q (.bl (whB v lo hi)) H
section
variable {P : Program} {w : World} {K : PySem.W.Frag} {mg : Str → Option Value} {base : Heap}
theorem scSeq : FnScope ["thing"] ["thing"] (defScope sSeq) := ⟨rfl, rfl, rfl, by decide +kernel, rfl, by decide +kernel, by decide +kernel⟩
theorem ok_seq {f : Addr} {fd : FuncData} (F : Fun K "is_sequence" "is_sequence" sSeq f fd) (B : Bt mg) : FnOk P w K mg base CX0 1 f fd ["thing"] spSeq := by
  refine F.ok scSeq (fun vs H Q E h => ?_) (fun cdv A outer s H vs Q E hr h => ?_)
  · obtain ⟨v, T, rfl, _⟩ := h
    rfl
  · obtain ⟨v, T, rfl, t, k⟩ := h
    refine ⟨_, pss_one (ps_ret (pe_callB call_isiT (by rfl) B.isi (by decide +kernel) (pa_cons (pv 0) (pa_cons (pe_tup (pa_cons (pe_bltn (v := .ty "list") (by rfl) B.list (by decide +kernel) rfl) (pa_cons (pe_bltn (v := .ty "tuple") (by rfl) B.tuple (by decide +kernel) rfl) pa_nil))) pa_nil)))), ?_⟩
    refine ⟨v, rfl, two_line, fun p hp => ?_⟩
    exact ⟨v, p, [.ty "list", .ty "tuple"], .type T, [.type "list", .type "tuple"], sqn T, rfl, upd_same, .cons (.ty _) (.cons (.ty _) .nil), (t.same (same_upd hp)).tyx, th_seq t, k _ (same_upd hp)⟩

/-! ### is_whole -/
theorem scWh : FnScope ["thing", "low", "high"] ["thing", "low", "high"] (defScope sWh) := ⟨rfl, rfl, rfl, by decide +kernel, rfl, by decide +kernel, by decide +kernel⟩
theorem ok_wh {f : Addr} {fd : FuncData} (F : FunD K "is_whole" "is_whole" (defArgs sWh) (defBody sWh) (defScope sWh) [.non, .non] [] f fd) (B : Bt mg) : FnOk P w K mg base CX0 1 f fd ["thing", "low", "high"] spWh := by
  refine F.ok scWh (fun vs H Q E h => ?_) (fun cdv A outer s H vs Q E hr h => ?_)
  · obtain ⟨v, T, lo, hi, rfl, _⟩ := h
    rfl
  · obtain ⟨v, T, lo, hi, rfl, t, k⟩ := h
    refine ⟨_, pss_cons (ps_if (PW.pt (pw_or (pt_val (pe_callB call_isi (by rfl) B.isi (by decide +kernel) (pa_cons (pv 0) (pa_cons (pe_bltn (v := .ty "bool") (by rfl) B.bool (by decide +kernel) rfl) pa_nil))))
        (pw_or1 (pt_not (pt_val (pe_callB call_isi (by rfl) B.isi (by decide +kernel) (pa_cons (pv 0) (pa_cons (pe_bltn (v := .ty "int") (by rfl) B.int (by decide +kernel) rfl) pa_nil)))))))) (pss_one (ps_ret pe_bl)) pss_nil)
      (pss_cons (ps_if (PW.pt (pw_and (pt_cmpR op_notN (pv 1) pe_non (nomark _)) (pw_and1 (pt_cmpR op_lt (pv 0) (pv 1) (nomark _))))) (pss_one (ps_ret pe_bl)) pss_nil)
      (pss_one (ps_ret (pe_or (pe_cmpR op_isN (pv 2) pe_non (nomark _)) (pe_one (pe_cmpR op_le (pv 0) (pv 2) (nomark _))))))), ?_⟩
    refine ⟨v, rfl, v, _, _, _, _, rfl, .ty _, t.tyx, kit_ty (th_bool t), _, rfl, ?_⟩
    cases e : isB v with
    | true =>
      refine iteT (iteT ?_)
      have z : whB v lo hi = false := by cases v <;> first | rfl | (cases e)
      rw [z] at k
      exact k
    | false =>
      refine iteF ⟨v, rfl, v, _, _, _, _, rfl, .ty _, t.tyx, kit_ty (th_int t), _, rfl, ?_⟩
      rw [e]
      cases e2 : isI v with
      | false =>
        refine iteT ?_
        rw [whB_no e2] at k
        exact k
      | true =>
        refine iteF ?_
        obtain ⟨i, rfl⟩ : ∃ i, v = .int i := by cases v <;> first | exact ⟨_, rfl⟩ | (cases e2)
        have k' : Q (.bl (inB i lo hi)) H := k
        -- low is not None and thing < low
        refine ⟨_, rfl, rfl, _, rfl, ?_⟩
        cases lo with
        | none =>
          refine iteF (iteF ?_)
          refine ⟨_, rfl, rfl, _, rfl, ?_⟩
          cases hi with
          | none => exact iteT k'
          | some h => exact iteF ⟨_, rfl, _, rfl, _, _, rfl, rfl, by simpa [inB] using k'⟩
        | some l =>
          refine iteT ⟨_, rfl, _, rfl, _, _, rfl, rfl, _, rfl, ?_⟩
          by_cases c : i < l
          · rw [decide_eq_true c]
            refine iteT ?_
            have z : inB i (some l) hi = false := by unfold inB; simp only []; rw [decide_eq_false (by omega)]; rfl
            rw [z] at k'
            exact k'
          · rw [decide_eq_false c]
            refine iteF ?_
            have z : inB i (some l) hi = inB i none hi := by unfold inB; simp only []; rw [decide_eq_true (by omega)]
            rw [z] at k'
            refine ⟨_, rfl, rfl, _, rfl, ?_⟩
            cases hi with
            | none => exact iteT k'
            | some h => exact iteF ⟨_, rfl, _, rfl, _, _, rfl, rfl, by simpa [inB] using k'⟩

/-! ### check_stands, all_stands, check_lot: CS, CL the classes BadStands, BadLot -/
def spCS (CS : Addr) : Sp := fun vs H Q E => ∃ (v : V) (T : String), vs = [v] ∧ Th H v T ∧ (whB v (some 1) (some 6) = true → Q v H) ∧ (whB v (some 1) (some 6) = false → E (.ref CS) none H)
def spAS (CS : Addr) : Sp := fun vs H Q E => ∃ (v : V) (T : String), vs = [v] ∧ Th H v T ∧ (∀ n : Int, v = .int n → 1 ≤ n → n ≤ 6 → Q (.int (evI n)) H) ∧ (whB v (some 1) (some 6) = false → E (.ref CS) none H)
def spCL (CS CL : Addr) : Sp := fun vs H Q E => ∃ (v : V) (T : String) (y : V) (U : String), vs = [v, y] ∧ Th H v T ∧ Th H y U ∧ (whB v (some 1) (some 6) = false → E (.ref CS) none H) ∧
  ∀ n : Int, v = .int n → 1 ≤ n → n ≤ 6 → (whB y (some 0) (some (evI n)) = true → Q y H) ∧ (whB y (some 0) (some (evI n)) = false → E (.ref CL) none H)
theorem scCS : FnScope ["v"] ["v"] (defScope sCS) := ⟨rfl, rfl, rfl, by decide +kernel, rfl, by decide +kernel, by decide +kernel⟩
theorem ok_cs {f : Addr} {fd : FuncData} {CS : Addr} (F : Fun K "check_stands" "check_stands" sCS f fd) (Z : ErrAt K mg "BadStands" CS)
    (W : Cal P w K mg base CX0 1 "is_whole" ["thing", "low", "high"] spWh) : FnOk P w K mg base (L2.CX P w) 2 f fd ["v"] (spCS CS) := by
  refine F.okX scCS (fun vs H Q E h => ?_) (fun cdv A outer s H vs Q E hr h => ?_)
  · obtain ⟨v, T, rfl, _⟩ := h
    rfl
  · obtain ⟨v, T, rfl, t, k1, k2⟩ := h
    refine ⟨_, pss_cons (ps_if (pt_not (pt_val (pc W hr (by decide) (by rfl) pass0 (pa_cons (pv 0) (pa_cons pe_int (pa_cons pe_int pa_nil)))))) (pss_one (ps_raise rfl (takes_of rfl rfl rfl rfl) (pmk_own0 Z (by rfl)))) pss_nil) (pss_one (ps_ret (pv 0))), ?_⟩
    refine ⟨v, rfl, v, T, some 1, some 6, rfl, t, _, rfl, ?_⟩
    cases e : whB v (some 1) (some 6) with
    | true => exact iteF ⟨v, rfl, k1 e⟩
    | false => exact iteT (k2 e)
theorem scAS : FnScope ["v"] ["v"] (defScope sAS) := ⟨rfl, rfl, rfl, by decide +kernel, rfl, by decide +kernel, by decide +kernel⟩
theorem ok_as {f : Addr} {fd : FuncData} {CS : Addr} (F : Fun K "all_stands" "all_stands" sAS f fd)
    (W : Cal P w K mg base (L2.CX P w) 2 "check_stands" ["v"] (spCS CS)) : FnOk P w K mg base (L2.CX P w) 3 f fd ["v"] (spAS CS) := by
  refine F.okX scAS (fun vs H Q E h => ?_) (fun cdv A outer s H vs Q E hr h => ?_)
  · obtain ⟨v, T, rfl, _⟩ := h
    rfl
  · obtain ⟨v, T, rfl, t, k1, k2⟩ := h
    refine ⟨_, pss_one (ps_ret (pe_op op_sub (pe_op op_shl pe_int (pc W hr (by decide) (by rfl) (passes_call (takes_of rfl rfl rfl rfl) (fun _ _ _ _ h => h)) (pa_cons (pv 0) pa_nil))) pe_int)), ?_⟩
    refine ⟨v, rfl, v, T, rfl, t, fun e => ?_, k2⟩
    obtain ⟨n, rfl, h1, h2⟩ := whB_int e
    exact ⟨_, _, rfl, rfl, ⟨by omega, by omega, by decide⟩, _, _, rfl, rfl, k1 n rfl h1 h2⟩
theorem scCL : FnScope ["v", "lot"] ["v", "lot"] (defScope sCL) := ⟨rfl, rfl, rfl, by decide +kernel, rfl, by decide +kernel, by decide +kernel⟩
theorem ok_cl {f : Addr} {fd : FuncData} {CS CL : Addr} (F : Fun K "check_lot" "check_lot" sCL f fd) (Z : ErrAt K mg "BadLot" CL)
    (W : Cal P w K mg base CX0 1 "is_whole" ["thing", "low", "high"] spWh) (W2 : Cal P w K mg base (L2.CX P w) 3 "all_stands" ["v"] (spAS CS)) : FnOk P w K mg base (L2.CX P w) 4 f fd ["v", "lot"] (spCL CS CL) := by
  refine F.okX scCL (fun vs H Q E h => ?_) (fun cdv A outer s H vs Q E hr h => ?_)
  · obtain ⟨v, T, y, U, rfl, _⟩ := h
    rfl
  · obtain ⟨v, T, y, U, rfl, t, u, k2, k⟩ := h
    refine ⟨_, pss_cons (ps_if (pt_not (pt_val (pc W hr (by decide) (by rfl) pass0 (pa_cons (pv 1) (pa_cons pe_int (pa_cons (pc W2 hr (by decide) (by rfl) (passes_call (takes_of rfl rfl rfl rfl) (fun _ _ _ _ h => h)) (pa_cons (pv 0) pa_nil)) pa_nil)))))) (pss_one (ps_raise rfl (takes_of rfl rfl rfl rfl) (pmk_own0 Z (by rfl)))) pss_nil) (pss_one (ps_ret (pv 1))), ?_⟩
    refine ⟨y, rfl, v, rfl, v, T, rfl, t, fun n ev h1 h2 => ?_, k2⟩
    obtain ⟨c1, c2⟩ := k n ev h1 h2
    refine ⟨y, U, some 0, some (evI n), rfl, u, _, rfl, ?_⟩
    cases e : whB y (some 0) (some (evI n)) with
    | true => exact iteF ⟨y, rfl, c1 e⟩
    | false => exact iteT (c2 e)
end
end Lot

/-! Part C: check_lots, lot_of. -/
namespace Lot
open PySem PySem.Spec PyProof.Rows L2

/-! ### a for over a name that holds a list or a tuple -/
def iSeq (K : PySem.W.Frag) (i : Nat) : TI := fun σ H R => ∃ a : Addr, σ[i]? = some (some (.ref a)) ∧ (((∃ xs, SqL K H a xs) ∧ R (Itl K a) H) ∨ ((∃ xs, SqT K H a xs) ∧ R (Itt K a) H))
theorem pi_seq {X : Cx} {tg e : Expr} {i : Nat} (he : PE X e (tVar i)) : PI X tg e (iSeq X.K i) := by
  refine ⟨fun pins s σ H R I h => ?_⟩
  obtain ⟨a, ha, h | h⟩ := h
  · exact (pi_list he).run pins s σ H R I ⟨_, ha, a, rfl, h.1, h.2⟩
  · exact (pi_tup he).run pins s σ H R I ⟨_, ha, a, rfl, h.1, h.2⟩
def loopOf (J : It) (g : TG) (tb : TS) (D : Ends) (σ : L2.St) (H : Hp) : Prop := ∃ W : Nat → Nat → L2.St → Hp → Prop, (∃ m, W 0 m σ H) ∧ ∀ i m σ H, W i m σ H →
  (J.stop i H ∧ D.nx σ H) ∨ (J.go i H ∧ ∃ N : L2.St → Hp → Prop, (∀ σ' H', N σ' H' → ∃ m', m' < m ∧ W (i + 1) m' σ' H') ∧ ∀ x H', J.yld i H x H' → g x σ H' fun σ2 H2 => tb { D with nx := N, ct := N, bk := D.nx } σ2 H2)
def SqA (K : PySem.W.Frag) (H : Hp) (a : Addr) (xs : List V) : Prop := H a = some (.lst xs) ∨ H a = some (.tup xs)
theorem SqA.same {K : PySem.W.Frag} {H H' : Hp} {a : Addr} {xs : List V} (s : Same H H') (h : SqA K H a xs) : SqA K H' a xs := by
  rcases h with h | h
  · exact .inl (s _ _ h)
  · exact .inr (s _ _ h)
theorem for_seq {K : PySem.W.Frag} {a : Addr} {xs : List V} {g : TG} {tb : TS} {D : Ends} {σ : L2.St} {H : Hp} (hq : SqA K H a xs) (Pv : Nat → L2.St → Hp → Prop) (h0 : Pv 0 σ H) (hl : ∀ i σ H', Pv i σ H' → Same H H')
    (hs : ∀ i x σ H, xs[i]? = some x → Pv i σ H → g x σ H fun σ2 H2 => tb { D with nx := Pv (i + 1), ct := Pv (i + 1), bk := D.nx } σ2 H2) (hd : ∀ σ H, Pv xs.length σ H → D.nx σ H) :
    ((∃ xs, SqL K H a xs) ∧ loopOf (Itl K a) g tb D σ H) ∨ ((∃ xs, SqT K H a xs) ∧ loopOf (Itt K a) g tb D σ H) := by
  rcases hq with hq | hq
  · exact .inl ⟨⟨xs, .inl (.inl hq)⟩, for_list Pv h0 (fun i σ H' _ p => .inl (.inl (hl _ _ _ p _ _ hq))) hs hd⟩
  · exact .inr ⟨⟨xs, .inl (.inl hq)⟩, for_tup Pv h0 (fun i σ H' _ p => .inl (.inl (hl _ _ _ p _ _ hq))) hs hd⟩
theorem Th.of_sqA {K : PySem.W.Frag} {H : Hp} {a : Addr} {xs : List V} (h : SqA K H a xs) : ∃ T, Th H (.ref a) T ∧ sqn T = true := by
  rcases h with h | h
  · exact ⟨_, .lst h, rfl⟩
  · exact ⟨_, .tup h, rfl⟩
theorem SqA.len {K : PySem.W.Frag} {H : Hp} {a : Addr} {xs : List V} (h : SqA K H a xs) : LenV K (.ref a) H xs.length := by
  rcases h with h | h
  · exact .inl ⟨xs, .inl (.inl h), rfl⟩
  · exact .inr ⟨xs, .inl (.inl h), rfl⟩
theorem take_more {α : Type} : ∀ {l : List α} {i : Nat} {x : α}, l[i]? = some x → l.take (i + 1) = l.take i ++ [x]
  | [], i, x, h => by simp at h
  | a :: l, 0, x, h => by
    have e : a = x := Option.some.inj h
    subst e
    rfl
  | a :: l, i + 1, x, h => by
    have ih := take_more (l := l) (i := i) (x := x) h
    show a :: l.take (i + 1) = a :: l.take i ++ [x]
    rw [ih]
    rfl
theorem mem_of_get {α : Type} {l : List α} {i : Nat} {x : α} (h : l[i]? = some x) : x ∈ l := List.mem_of_getElem? h

abbrev sCLs : Stmt := top 11
abbrev sLO : Stmt := top 12
def good (lo hi : Int) (xs : List V) : Bool := xs.all fun x => whB x (some lo) (some hi)
def spCLs (K : PySem.W.Frag) (CS CL : Addr) : Sp := fun vs H Q E => ∃ (v : V) (T : String) (y : V), vs = [v, y] ∧ Th H v T ∧ (whB v (some 1) (some 6) = false → E (.ref CS) none H) ∧
  ∀ n : Int, v = .int n → 1 ≤ n → n ≤ 6 →
    ((∃ U, Th H y U ∧ sqn U = false) ∧ ∀ H', Same H H' → E (.ref CL) none H') ∨
    (∃ (a : Addr) (xs : List V), y = .ref a ∧ SqA K H a xs ∧ (∀ x ∈ xs, ∃ U, Th H x U) ∧
      (xs.length ≤ 64 → good 0 (evI n) xs = true → ∀ p H', Same H H' → H' p = some (.tup xs) → Q (.ref p) H') ∧
      (¬ (xs.length ≤ 64 ∧ good 0 (evI n) xs = true) → ∀ H', Same H H' → E (.ref CL) none H'))
def iv : V → Int
  | .int i => i
  | _ => 0
/-- the lots of single stands, joined -/
def orA (xs : List V) : Int := xs.foldl (fun l x => Builtin.bitOr l (1 * 2 ^ (iv x).toNat)) 0
def spLO (K : PySem.W.Frag) (CL : Addr) : Sp := fun vs H Q E => ∃ y : V, vs = [y] ∧
    (((∃ U, Th H y U ∧ sqn U = false) ∧ ∀ H', Same H H' → E (.ref CL) none H') ∨
    (∃ (a : Addr) (xs : List V), y = .ref a ∧ SqA K H a xs ∧ (∀ x ∈ xs, ∃ U, Th H x U) ∧
      (good 0 5 xs = true → ∀ H', Same H H' → Q (.int (orA xs)) H') ∧
      (good 0 5 xs = false → ∀ H', Same H H' → E (.ref CL) none H')))
theorem good_more {lo hi : Int} {xs : List V} {i : Nat} {x : V} (h : xs[i]? = some x) (g : good lo hi (xs.take i) = true) (w : whB x (some lo) (some hi) = true) : good lo hi (xs.take (i + 1)) = true := by
  unfold good at *
  rw [take_more h, List.all_append, g]
  simp [w]
theorem good_bad {lo hi : Int} {xs : List V} {i : Nat} {x : V} (h : xs[i]? = some x) (w : whB x (some lo) (some hi) = false) : good lo hi xs = false := by
  cases e : good lo hi xs with
  | false => rfl
  | true =>
    have z := List.all_eq_true.mp e x (mem_of_get h)
    rw [w] at z
    cases z
theorem orA_more {xs : List V} {i : Nat} {x : V} (h : xs[i]? = some x) : orA (xs.take (i + 1)) = Builtin.bitOr (orA (xs.take i)) (1 * 2 ^ (iv x).toNat) := by
  unfold orA
  rw [take_more h, List.foldl_append]
  rfl
section
variable {P : Program} {w : World} {K : PySem.W.Frag} {mg : Str → Option Value} {base : Heap}
theorem scCLs : FnScope ["v", "lots", "every", "lot"] ["v", "lots"] (defScope sCLs) := ⟨rfl, rfl, rfl, by decide +kernel, rfl, by decide +kernel, by decide +kernel⟩
theorem ok_cls {f : Addr} {fd : FuncData} {CS CL : Addr} (F : Fun K "check_lots" "check_lots" sCLs f fd) (B : Bt mg) (Z : ErrAt K mg "BadLot" CL)
    (W : Cal P w K mg base CX0 1 "is_whole" ["thing", "low", "high"] spWh) (W2 : Cal P w K mg base (L2.CX P w) 3 "all_stands" ["v"] (spAS CS)) (W3 : Cal P w K mg base CX0 1 "is_sequence" ["thing"] spSeq) :
    FnOk P w K mg base (L2.CX P w) 4 f fd ["v", "lots"] (spCLs K CS CL) := by
  refine F.okX scCLs (fun vs H Q E h => ?_) (fun cdv A outer s H vs Q E hr h => ?_)
  · obtain ⟨v, T, y, rfl, _⟩ := h
    rfl
  · obtain ⟨v, T, y, rfl, t, kS, k⟩ := h
    refine ⟨_, pss_cons (ps_set (i := 2) scCLs.nd rfl (Or.inl rfl) (pc W2 hr (by decide) (by rfl) (passes_call (takes_of rfl rfl rfl rfl) (fun _ _ _ _ h => h)) (pa_cons (pv 0) pa_nil)))
      (pss_cons (ps_if (PW.pt (pw_or (pt_not (pt_val (pc W3 hr (by decide) (by rfl) pass0 (pa_cons (pv 1) pa_nil))))
          (pw_or1 (pt_cmpR op_gt (pe_callB call_len (by rfl) B.len PySem.boot_len (pa_cons (pv 1) pa_nil)) pe_int (nomark _))))) (pss_one (ps_raise rfl (takes_of rfl rfl rfl rfl) (pmk_own0 Z (by rfl)))) pss_nil)
      (pss_cons (ps_for (passes_of rfl) rfl (pi_seq (pv 1)) (pg_name (i := 3) scCLs.nd rfl (Or.inl rfl))
          (pss_one (ps_if (pt_not (pt_val (pc W hr (by decide) (by rfl) pass0 (pa_cons (pv 3) (pa_cons pe_int (pa_cons (pv 2) pa_nil)))))) (pss_one (ps_raise rfl (takes_of rfl rfl rfl rfl) (pmk_own0 Z (by rfl)))) pss_nil)))
      (pss_one (ps_ret (pe_callTy call_tuple_of (by rfl) B.tuple (by decide +kernel) (pa_cons (pv 1) pa_nil)))))), ?_⟩
    refine ⟨v, rfl, v, T, rfl, t, fun n ev h1 h2 => ?_, kS⟩
    rcases k n ev h1 h2 with ⟨⟨U, u, hU⟩, kE⟩ | ⟨a, xs, rfl, hq, hx, kT, kE⟩
    · refine ⟨y, rfl, y, U, rfl, u, fun H' s' => ⟨_, rfl, ?_⟩⟩
      rw [hU]
      exact iteT (iteT (kE H' s'))
    · obtain ⟨U, u, hU⟩ := Th.of_sqA hq
      refine ⟨_, rfl, _, U, rfl, u, fun H1 s1 => ⟨_, rfl, ?_⟩⟩
      rw [hU]
      refine iteF ⟨_, rfl, _, _, rfl, (hq.same s1).len, _, _, rfl, rfl, _, rfl, ?_⟩
      by_cases c : (64 : Int) < (xs.length : Int)
      · rw [decide_eq_true c]
        exact iteT (kE (fun z => by omega) H1 s1)
      · rw [decide_eq_false c]
        refine iteF ?_
        refine ⟨a, rfl, for_seq (xs := xs) (hq.same s1) (fun i σ H' => ∃ v0 : Option V, σ = [some v, some (.ref a), some (.int (evI n)), v0] ∧ Same H1 H' ∧ good 0 (evI n) (xs.take i) = true) ⟨_, rfl, Same.refl _, rfl⟩ (fun i σ H' ⟨_, _, q, _⟩ => q) ?_ ?_⟩
        · rintro i x σ H' hi ⟨v0, rfl, s', g⟩
          obtain ⟨Ux, ux⟩ := hx x (mem_of_get hi)
          refine ⟨x, rfl, _, rfl, x, Ux, some 0, some (evI n), rfl, ux.same (s1.trans s'), _, rfl, ?_⟩
          cases e : whB x (some 0) (some (evI n)) with
          | true => exact iteF ⟨_, rfl, s', good_more hi g e⟩
          | false => exact iteT (kE (fun z => by rw [good_bad hi e] at z; cases z.2) H' (s1.trans s'))
        · rintro σ H' ⟨v0, rfl, s', g⟩
          rw [List.take_length] at g
          have kT' := kT (by omega) g
          rcases hq with hq | hq
          · exact ⟨_, rfl, a, xs, rfl, .inl ⟨.inl (.inl (s' _ _ (s1 _ _ hq))), fun l hl => kT' l _ (same_upd' (s1.trans s') hl) upd_same⟩⟩
          · exact ⟨_, rfl, a, xs, rfl, .inr ⟨.inl (.inl (s' _ _ (s1 _ _ hq))), kT' a H' (s1.trans s') (s' _ _ (s1 _ _ hq))⟩⟩
end
end Lot

/-! Part D: lot_of, stands_of, size_of, is_within, lot_text. -/
namespace Lot
open PySem PySem.Spec PyProof.Rows L2

abbrev sSO : Stmt := top 13
abbrev sZO : Stmt := top 14
abbrev sIW : Stmt := top 15
abbrev sLT : Stmt := top 16
theorem iteD {c A B : Prop} [Decidable c] (h1 : c → A) (h2 : ¬ c → B) : if decide c = true then A else B := by
  by_cases h : c
  · rw [decide_eq_true h]
    exact iteT (h1 h)
  · rw [decide_eq_false h]
    exact iteF (h2 h)
theorem same_updD {H H' : Hp} {D : Addr} {o : HO} (s : Same H H') (e : H D = none) : Same H (upd H' D o) := fun b u z => by
  rw [upd_ne (ne_of_none z e)]
  exact s b u z
def bitS (n : Int) (s : Nat) : Bool := decide (Builtin.bitAnd (n / 2 ^ s) 1 = 1)
/-- the stands of a lot, below i -/
def sofN (n : Int) (i : Nat) : List Int := ((List.range i).filter (bitS n)).map (fun (s : Nat) => (s : Int))
abbrev sof (n : Int) : List Int := sofN n 6
theorem sofN_yes {n : Int} {i : Nat} (h : bitS n i = true) : sofN n (i + 1) = sofN n i ++ [(i : Int)] := by
  unfold sofN
  rw [List.range_succ, List.filter_append, List.map_append]
  simp [List.filter_cons, h]
theorem sofN_no {n : Int} {i : Nat} (h : bitS n i = false) : sofN n (i + 1) = sofN n i := by
  unfold sofN
  rw [List.range_succ, List.filter_append, List.map_append]
  simp [List.filter_cons, h]
theorem sofN_len {n : Int} {i : Nat} : (sofN n i).length ≤ i := by
  unfold sofN
  rw [List.length_map]
  exact Nat.le_trans (List.length_filter_le _ _) (by simp)
theorem sofN_mem {n : Int} {i : Nat} {z : Int} (h : z ∈ sofN n i) : 0 ≤ z ∧ z < (i : Int) := by
  unfold sofN at h
  obtain ⟨s, hs, rfl⟩ := List.mem_map.mp h
  have := List.mem_range.mp (List.mem_filter.mp hs).1
  omega
/-- a stand's sign -/
def dg (i : Int) : Str := (toString i : String)
def txtL (l : List Int) : Str := ("{" : Str) ++ Txt.join (", " : Str) (l.map dg) ++ ("}" : Str)
theorem dg_len {i : Int} (h0 : 0 ≤ i) (h1 : i < 6) : (dg i).length = 1 := by
  have : i = 0 ∨ i = 1 ∨ i = 2 ∨ i = 3 ∨ i = 4 ∨ i = 5 := by omega
  rcases this with rfl | rfl | rfl | rfl | rfl | rfl <;> decide +kernel

def spSO (CL : Addr) : Sp := fun vs H Q E => ∃ (y : V) (U : String), vs = [y] ∧ Th H y U ∧ (whB y (some 0) (some 63) = false → E (.ref CL) none H) ∧
  ∀ n : Int, y = .int n → 0 ≤ n → n ≤ 63 → ∀ p H', Same H H' → H' p = some (.tup ((sof n).map V.int)) → Q (.ref p) H'
def spZO (CL : Addr) : Sp := fun vs H Q E => ∃ (y : V) (U : String), vs = [y] ∧ Th H y U ∧ (whB y (some 0) (some 63) = false → E (.ref CL) none H) ∧
  ∀ n : Int, y = .int n → 0 ≤ n → n ≤ 63 → ∀ H', Same H H' → Q (.int ((sof n).length : Int)) H'
def spLT (CL : Addr) : Sp := fun vs H Q E => ∃ (y : V) (U : String), vs = [y] ∧ Th H y U ∧ (whB y (some 0) (some 63) = false → E (.ref CL) none H) ∧
  ∀ n : Int, y = .int n → 0 ≤ n → n ≤ 63 → ∀ H', Same H H' → Q (.str (txtL (sof n))) H'
def spIW (CL : Addr) : Sp := fun vs H Q E => ∃ (x : V) (T : String) (y : V) (U : String), vs = [x, y] ∧ Th H x T ∧ Th H y U ∧ (whB x (some 0) (some 63) = false ∨ whB y (some 0) (some 63) = false → E (.ref CL) none H) ∧
  ∀ n m : Int, x = .int n → y = .int m → 0 ≤ n → n ≤ 63 → 0 ≤ m → m ≤ 63 → Q (.bl (decide (Builtin.bitAnd n m = n))) H
section
variable {P : Program} {w : World} {K : PySem.W.Frag} {mg : Str → Option Value} {base : Heap}
theorem scLO : FnScope ["stands", "lot", "stand"] ["stands"] (defScope sLO) := ⟨rfl, rfl, rfl, by decide +kernel, rfl, by decide +kernel, by decide +kernel⟩
theorem ok_lo {f : Addr} {fd : FuncData} {CL : Addr} (F : Fun K "lot_of" "lot_of" sLO f fd) (Z : ErrAt K mg "BadLot" CL)
    (W : Cal P w K mg base CX0 1 "is_whole" ["thing", "low", "high"] spWh) (W3 : Cal P w K mg base CX0 1 "is_sequence" ["thing"] spSeq) :
    FnOk P w K mg base (L2.CX P w) 2 f fd ["stands"] (spLO K CL) := by
  refine F.okX scLO (fun vs H Q E h => ?_) (fun cdv A outer s H vs Q E hr h => ?_)
  · obtain ⟨y, rfl, _⟩ := h
    rfl
  · obtain ⟨y, rfl, k⟩ := h
    refine ⟨_, pss_cons (ps_if (pt_not (pt_val (pc W3 hr (by decide) (by rfl) pass0 (pa_cons (pv 0) pa_nil)))) (pss_one (ps_raise rfl (takes_of rfl rfl rfl rfl) (pmk_own0 Z (by rfl)))) pss_nil)
      (pss_cons (ps_set (i := 1) scLO.nd rfl (Or.inl rfl) pe_int)
      (pss_cons (ps_for (passes_of rfl) rfl (pi_seq (pv 0)) (pg_name (i := 2) scLO.nd rfl (Or.inl rfl))
          (pss_cons (ps_if (pt_not (pt_val (pc W hr (by decide) (by rfl) pass0 (pa_cons (pv 2) (pa_cons pe_int (pa_cons pe_int pa_nil)))))) (pss_one (ps_raise rfl (takes_of rfl rfl rfl rfl) (pmk_own0 Z (by rfl)))) pss_nil)
          (pss_one (ps_set (i := 1) scLO.nd rfl (Or.inl rfl) (pe_op op_or (pv 1) (pe_op op_shl pe_int (pv 2)))))))
      (pss_one (ps_ret (pv 1))))), ?_⟩
    rcases k with ⟨⟨U, u, hU⟩, kE⟩ | ⟨a, xs, rfl, hq, hx, kT, kE⟩
    · refine ⟨y, rfl, y, U, rfl, u, fun H' s' => ⟨_, rfl, ?_⟩⟩
      rw [hU]
      exact iteT (kE H' s')
    · obtain ⟨U, u, hU⟩ := Th.of_sqA hq
      refine ⟨_, rfl, _, U, rfl, u, fun H1 s1 => ⟨_, rfl, ?_⟩⟩
      rw [hU]
      refine iteF ?_
      refine ⟨a, rfl, for_seq (xs := xs) (hq.same s1) (fun i σ H' => ∃ v0 : Option V, σ = [some (.ref a), some (.int (orA (xs.take i))), v0] ∧ Same H1 H' ∧ good 0 5 (xs.take i) = true) ⟨_, rfl, Same.refl _, rfl⟩ (fun i σ H' ⟨_, _, q, _⟩ => q) ?_ ?_⟩
      · rintro i x σ H' hi ⟨v0, rfl, s', g⟩
        obtain ⟨Ux, ux⟩ := hx x (mem_of_get hi)
        refine ⟨x, rfl, x, Ux, some 0, some 5, rfl, ux.same (s1.trans s'), _, rfl, ?_⟩
        cases e : whB x (some 0) (some 5) with
        | true =>
          obtain ⟨z, rfl, h1, h2⟩ := whB_int e
          refine iteF ⟨_, rfl, _, rfl, _, _, rfl, rfl, ⟨by omega, by omega, by decide⟩, _, _, rfl, rfl, ?_⟩
          exact ⟨_, by rw [orA_more hi]; rfl, s', good_more hi g e⟩
        | false => exact iteT (kE (good_bad hi e) H' (s1.trans s'))
      · rintro σ H' ⟨v0, rfl, s', g⟩
        rw [List.take_length] at g
        rw [List.take_length]
        exact ⟨_, rfl, kT g H' (s1.trans s')⟩

theorem scSO : FnScope ["lot", "stand"] ["lot"] (defScope sSO) := ⟨rfl, rfl, rfl, by decide +kernel, rfl, by decide +kernel, by decide +kernel⟩
theorem ok_so {f : Addr} {fd : FuncData} {CS CL : Addr} (F : Fun K "stands_of" "stands_of" sSO f fd) (B : Bt mg)
    (W : Cal P w K mg base (L2.CX P w) 4 "check_lot" ["v", "lot"] (spCL CS CL)) : FnOk P w K mg base (L2.CX P w) 5 f fd ["lot"] (spSO CL) := by
  refine F.okX scSO (fun vs H Q E h => ?_) (fun cdv A outer s H vs Q E hr h => ?_)
  · obtain ⟨y, U, rfl, _⟩ := h
    rfl
  · obtain ⟨y, U, rfl, u, kE, k⟩ := h
    refine ⟨_, pss_cons (ps_expr (pc W hr (by decide) (by rfl) (passes_call (takes_of rfl rfl rfl rfl) (fun _ _ _ _ h => h)) (pa_cons pe_int (pa_cons (pv 0) pa_nil))))
      (pss_one (ps_ret (pe_callTy call_tuple_of (by rfl) B.tuple (by decide +kernel) (pa_cons (pe_lc (own := [("stand", 1)]) (g := gName 1) (by rfl) scSO.nd (pi_range1 (by rfl) B.range (pa_cons pe_int pa_nil))
        (blkOk_by (own := [("stand", 1)]) (N := ["lot", "stand"]) (sc := defScope sSO) (by decide +kernel)) (fun _ _ _ _ _ => pg_name (i := 1) scSO.nd rfl (Or.inl rfl))
        (fun _ _ _ _ _ => pts_one (pt_cmpR op_eq (pe_op op_and (pe_op op_shr (pv 0) (pv 1)) pe_int) pe_int (nomark _))) (fun _ _ _ _ _ => pv 1)) pa_nil)))), ?_⟩
    refine ⟨y, rfl, .int 6, "int", y, U, rfl, .int 6, u, (fun e => by cases e), fun n6 e6 h1 h2 => ?_⟩
    cases e6
    refine ⟨fun e => ?_, fun e => kE e⟩
    obtain ⟨n, rfl, n0, n1⟩ := whB_int e
    have n1 : n ≤ 63 := n1
    have k := k n rfl n0 n1
    refine ⟨6, rfl, by decide, by decide, fun D hD => lc_range (lo := 0) (n := 6) (fun i H' => H' D = some (.lst ((sofN n i).map V.int)) ∧ Same H H') ⟨upd_same, same_upd hD⟩ ?_ ?_⟩
    · rintro i H' hi ⟨hd, s'⟩
      have ei : (0 : Int) + (i : Nat) = (i : Int) := Int.zero_add _
      rw [ei]
      refine ⟨rfl, _, rfl, _, rfl, _, _, rfl, rfl, (by omega), _, _, rfl, rfl, rfl, _, rfl, ?_⟩
      refine iteD (fun c => ?_) (fun c => ?_)
      · have b : bitS n i = true := decide_eq_true (V.int.inj c)
        refine ⟨_, rfl, _, hd, ?_, ?_⟩
        · rw [List.length_map]
          exact Nat.lt_of_le_of_lt sofN_len (Nat.lt_trans hi (by decide))
        · refine ⟨?_, same_updD s' hD⟩
          rw [upd_same, sofN_yes b, List.map_append]
          rfl
      · have b : bitS n i = false := decide_eq_false (fun z => c (congrArg V.int z))
        rw [sofN_no b]
        exact ⟨hd, s'⟩
    · rintro H' ⟨hd, s'⟩
      exact ⟨D, _, rfl, .inl ⟨.inl (.inl hd), fun l hl => k l _ (same_upd' s' hl) upd_same⟩⟩
end
end Lot

/-! Part E: size_of, is_within, lot_text. -/
namespace Lot
open PySem PySem.Spec PyProof.Rows L2
section
variable {P : Program} {w : World} {K : PySem.W.Frag} {mg : Str → Option Value} {base : Heap}
theorem scZO : FnScope ["lot"] ["lot"] (defScope sZO) := ⟨rfl, rfl, rfl, by decide +kernel, rfl, by decide +kernel, by decide +kernel⟩
theorem ok_zo {f : Addr} {fd : FuncData} {CL : Addr} (F : Fun K "size_of" "size_of" sZO f fd) (B : Bt mg)
    (W : Cal P w K mg base (L2.CX P w) 5 "stands_of" ["lot"] (spSO CL)) : FnOk P w K mg base (L2.CX P w) 6 f fd ["lot"] (spZO CL) := by
  refine F.okX scZO (fun vs H Q E h => ?_) (fun cdv A outer s H vs Q E hr h => ?_)
  · obtain ⟨y, U, rfl, _⟩ := h
    rfl
  · obtain ⟨y, U, rfl, u, kE, k⟩ := h
    refine ⟨_, pss_one (ps_ret (pe_callB call_len (by rfl) B.len PySem.boot_len (pa_cons (pc W hr (by decide) (by rfl) (passes_call (takes_of rfl rfl rfl rfl) (fun _ _ _ _ h => h)) (pa_cons (pv 0) pa_nil)) pa_nil))), ?_⟩
    refine ⟨y, rfl, y, U, rfl, u, kE, fun n e n0 n1 p H' s' hp => ?_⟩
    refine ⟨_, (sof n).length, rfl, .inr ⟨_, .inl (.inl hp), by rw [List.length_map]⟩, k n e n0 n1 H' s'⟩
theorem scIW : FnScope ["one", "other"] ["one", "other"] (defScope sIW) := ⟨rfl, rfl, rfl, by decide +kernel, rfl, by decide +kernel, by decide +kernel⟩
theorem ok_iw {f : Addr} {fd : FuncData} {CS CL : Addr} (F : Fun K "is_within" "is_within" sIW f fd)
    (W : Cal P w K mg base (L2.CX P w) 4 "check_lot" ["v", "lot"] (spCL CS CL)) : FnOk P w K mg base (L2.CX P w) 5 f fd ["one", "other"] (spIW CL) := by
  refine F.okX scIW (fun vs H Q E h => ?_) (fun cdv A outer s H vs Q E hr h => ?_)
  · obtain ⟨x, T, y, U, rfl, _⟩ := h
    rfl
  · obtain ⟨x, T, y, U, rfl, t, u, kE, k⟩ := h
    refine ⟨_, pss_cons (ps_expr (pc W hr (by decide) (by rfl) (passes_call (takes_of rfl rfl rfl rfl) (fun _ _ _ _ h => h)) (pa_cons pe_int (pa_cons (pv 0) pa_nil))))
      (pss_cons (ps_expr (pc W hr (by decide) (by rfl) (passes_call (takes_of rfl rfl rfl rfl) (fun _ _ _ _ h => h)) (pa_cons pe_int (pa_cons (pv 1) pa_nil))))
      (pss_one (ps_ret (pe_cmpR op_eq (pe_op op_and (pv 0) (pv 1)) (pv 0) (nomark _))))), ?_⟩
    refine ⟨x, rfl, .int 6, "int", x, T, rfl, .int 6, t, (fun e => by cases e), fun n6 e6 h1 h2 => ?_⟩
    cases e6
    refine ⟨fun e => ?_, fun e => kE (.inl e)⟩
    refine ⟨y, rfl, .int 6, "int", y, U, rfl, .int 6, u, (fun e => by cases e), fun n6 e6 h1 h2 => ?_⟩
    cases e6
    refine ⟨fun e' => ?_, fun e' => kE (.inr e')⟩
    obtain ⟨n, rfl, n0, n1⟩ := whB_int e
    obtain ⟨m, rfl, m0, m1⟩ := whB_int e'
    have n1 : n ≤ 63 := n1
    have m1 : m ≤ 63 := m1
    have k := k n m rfl rfl n0 n1 m0 m1
    refine ⟨_, rfl, _, rfl, _, _, rfl, rfl, _, rfl, rfl, ?_⟩
    have z : decide (V.int (Builtin.bitAnd n m) = V.int n) = decide (Builtin.bitAnd n m = n) := by
      by_cases c : Builtin.bitAnd n m = n
      · rw [decide_eq_true c, decide_eq_true (congrArg V.int c)]
      · rw [decide_eq_false c, decide_eq_false (fun q => c (V.int.inj q))]
    rw [z]
    exact k
theorem sofN_get {n : Int} {i j : Nat} {z : Int} (h : (sofN n i)[j]? = some z) : 0 ≤ z ∧ z < (i : Int) := sofN_mem (List.mem_of_getElem? h)
theorem dgs_len : ∀ {l : List Int}, (∀ z ∈ l, 0 ≤ z ∧ z < 6) → ((l.map dg).map (·.length)).sum = l.length
  | [], _ => rfl
  | z :: l, h => by
    have h1 := h z (List.mem_cons_self ..)
    have ih := dgs_len (l := l) fun y hy => h y (List.mem_cons_of_mem _ hy)
    rw [List.map_cons, List.map_cons, List.sum_cons, ih, dg_len h1.1 h1.2, List.length_cons]
    omega
theorem log2_small {i : Int} (h0 : 0 ≤ i) (h1 : i < 6) : i.natAbs.log2 < 1920 := by
  have : i = 0 ∨ i = 1 ∨ i = 2 ∨ i = 3 ∨ i = 4 ∨ i = 5 := by omega
  rcases this with rfl | rfl | rfl | rfl | rfl | rfl <;> decide +kernel
theorem strlen_app (a b : Str) : (a ++ b).length = a.length + b.length := by
  show (a.cps ++ b.cps).size = _
  rw [Array.size_append]
  rfl
theorem tj (sep : Str) (l : List Str) : Txt.join sep l = Str.join sep l := eq_of_beq (join_plain_closes sep l)
theorem join_len (a : Str) (l : List Str) : (Txt.join a l).length ≤ (l.map (·.length)).sum + l.length * a.length := by
  rw [tj]
  exact StrLaws.join_length_le a l
theorem scLT : FnScope ["lot", "stand"] ["lot"] (defScope sLT) := ⟨rfl, rfl, rfl, by decide +kernel, rfl, by decide +kernel, by decide +kernel⟩
theorem ok_lt {f : Addr} {fd : FuncData} {CL : Addr} (F : Fun K "lot_text" "lot_text" sLT f fd) (B : Bt mg)
    (W : Cal P w K mg base (L2.CX P w) 5 "stands_of" ["lot"] (spSO CL)) : FnOk P w K mg base (L2.CX P w) 6 f fd ["lot"] (spLT CL) := by
  refine F.okX scLT (fun vs H Q E h => ?_) (fun cdv A outer s H vs Q E hr h => ?_)
  · obtain ⟨y, U, rfl, _⟩ := h
    rfl
  · obtain ⟨y, U, rfl, u, kE, k⟩ := h
    refine ⟨_, pss_one (ps_ret (pe_op op_add_str (pe_op op_add_str pe_str (pe_join pe_str (pe_lc (own := [("stand", 1)]) (g := gName 1) (tt := tYes) (by rfl) scLT.nd
        (pi_tup (pc W hr (by decide) (by rfl) (passes_call (takes_of rfl rfl rfl rfl) (fun _ _ _ _ h => h)) (pa_cons (pv 0) pa_nil)))
        (blkOk_by (own := [("stand", 1)]) (N := ["lot", "stand"]) (sc := defScope sLT) (by decide +kernel)) (fun _ _ _ _ _ => pg_name (i := 1) scLT.nd rfl (Or.inl rfl))
        (fun _ _ _ _ _ => pts_nil) (fun _ _ _ _ _ => pe_callTy call_str_int (by rfl) B.str (by decide +kernel) (pa_cons (pv 1) pa_nil))))) pe_str)), ?_⟩
    refine ⟨⟨_, rfl⟩, y, rfl, y, U, rfl, u, kE, fun n e n0 n1 p H1 s1 hp => ?_⟩
    have k := k n e n0 n1
    have hsm : (sof n).length ≤ 6 := sofN_len
    refine ⟨p, rfl, ⟨_, .inl (.inl hp)⟩, fun D hD => lc_tup (K := K) (a := p) (xs := (sof n).map V.int) (fun i H' => H' D = some (.lst ((((sof n).take i).map dg).map V.str)) ∧ Same H1 H') ⟨upd_same, same_upd hD⟩ (fun i H' _ q => .inl (.inl (q.2 _ _ hp))) ?_ ?_⟩
    · rintro i x H' hi ⟨hd, s'⟩
      obtain ⟨z, hz, rfl⟩ : ∃ z, (sof n)[i]? = some z ∧ x = V.int z := by
        rw [List.getElem?_map] at hi
        cases q : (sof n)[i]? with
        | none => rw [q] at hi; cases hi
        | some z => rw [q] at hi; exact ⟨z, rfl, (Option.some.inj hi).symm⟩
      obtain ⟨z0, z1⟩ := sofN_get hz
      refine ⟨rfl, ?_⟩
      refine ⟨_, rfl, _, rfl, log2_small z0 z1, _, hd, ?_, ?_, same_updD s' hD⟩
      · rw [List.length_map, List.length_map]
        exact Nat.lt_of_le_of_lt (List.length_take_le _ _) (Nat.lt_of_le_of_lt (Nat.le_trans (Nat.le_of_lt (List.getElem?_eq_some_iff.mp hz).1) hsm) (by decide))
      · rw [upd_same, take_more hz, List.map_append, List.map_append]
        rfl
    · rintro H' ⟨hd, s'⟩
      rw [List.length_map, List.take_length] at hd
      have hl := dgs_len (l := sof n) fun z hz => sofN_mem hz
      refine ⟨_, D, (sof n).map dg, rfl, rfl, .inl (.inl (.inl hd)), ?_, _, _, rfl, rfl, ?_, _, _, rfl, rfl, ?_, k H' (s1.trans s')⟩
      · rw [hl, List.length_map]
        have : ((", " : Str)).length = 2 := by decide +kernel
        rw [this]
        omega
      · have q := join_len (", " : Str) ((sof n).map dg)
        rw [hl, List.length_map] at q
        have e2 : ((", " : Str)).length = 2 := by decide +kernel
        have e1 : (("{" : Str)).length = 1 := by decide +kernel
        rw [e2] at q
        rw [e1]
        exact sz _ (by omega)
      · have q := join_len (", " : Str) ((sof n).map dg)
        rw [hl, List.length_map] at q
        have e2 : ((", " : Str)).length = 2 := by decide +kernel
        have e1 : (("{" : Str)).length = 1 := by decide +kernel
        have e3 : (("}" : Str)).length = 1 := by decide +kernel
        rw [e2] at q
        rw [strlen_app, e1, e3]
        exact sz _ (by omega)
end
end Lot

/-! Part F: the law's hand. -/
namespace Lot
open PySem PySem.Spec PyProof.Rows L2
abbrev sHd : Stmt := top 18
abbrev sMx : Stmt := top 19
abbrev sTk : Stmt := top 20
abbrev sEv : Stmt := top 21
abbrev sLs : Stmt := top 22
abbrev sIn : Stmt := top 23
def spHd (K : PySem.W.Frag) : Sp := fun vs H Q _ => ∃ (a : Addr) (ns : List Int), vs = [.ref a] ∧ SqL K H a (ns.map V.int) ∧ ns.length ≤ 63 ∧ ∀ (h c : Addr) (H' : Hp), Same H H' → HandAt H' h c → Q (.ref h) H'
def spMx : Sp := fun vs H Q _ => ∃ a b : Int, vs = [.int a, .int b] ∧ ∀ m : Int, Q (.int m) H
def spTk : Sp := fun vs H Q _ => ∃ (h c : Addr) (n : Int), vs = [.ref h, .int n] ∧ 0 < n ∧ n < 1073741824 ∧ HandAt H h c ∧ ∀ (r : Int) (H' : Hp), 0 ≤ r → r < n → HandAt H' h c → Kp h H H' → Q (.int r) H'
def spEv : Sp := fun vs H Q _ => ∃ n : Int, vs = [.int n] ∧ 0 ≤ n ∧ n ≤ 1000 ∧ Q (.int (evI n)) H
def spLs : Sp := fun vs H Q _ => ∃ (h c a : Addr) (xs : List V), vs = [.ref h, .ref a] ∧ HandAt H h c ∧ H a = some (.lst xs) ∧ a ≠ h ∧ ∀ (p : Addr) (H' : Hp), HandAt H' h c → Kp h H H' → p ≠ h → (H' p = some (.lst xs) ∨ H' p = some (.tup xs)) → Q (.ref p) H'
def spIn : Sp := fun vs H Q _ => ∃ (v : V) (T : String), vs = [v] ∧ Th H v T ∧ Q (.bl (isI v)) H
theorem HandAt.mk' {H : Hp} {h c : Addr} {ns : List Int} {i r t : Int} (hc : H c = some (.lst (ns.map V.int))) (hne : c ≠ h) (h0 : 0 ≤ i) (h1 : 0 ≤ r) (hn : ∀ n ∈ ns, 0 ≤ n) : HandAt (upd H h (.lst [.ref c, .int i, .int r, .int t])) h c :=
  ⟨ns, i, r, t, upd_same, by rw [upd_ne hne]; exact hc, h0, h1, hn⟩
theorem kp_upd {H : Hp} {h : Addr} {o : HO} : Kp h H (upd H h o) := fun b u z n => by rw [upd_ne n]; exact z
theorem Kp.upd {H H1 : Hp} {h : Addr} {o : HO} (k : Kp h H H1) : Kp h H (L2.upd H1 h o) := k.trans kp_upd
section
variable {P : Program} {w : World} {K : PySem.W.Frag} {mg : Str → Option Value} {base : Heap}
theorem scHd : FnScope ["_law_script", "_law_total", "_law_cells", "_law_cell"] ["_law_script"] (defScope sHd) := ⟨rfl, rfl, rfl, by decide +kernel, rfl, by decide +kernel, by decide +kernel⟩
theorem ok_hd {f : Addr} {fd : FuncData} (F : Fun K "_law_hand" "_law_hand" sHd f fd) (B : Bt mg) : FnOk P w K mg base CX0 1 f fd ["_law_script"] (spHd K) := by
  refine F.ok scHd (fun vs H Q E h => ?_) (fun cdv A outer s H vs Q E hr h => ?_)
  · obtain ⟨a, ns, rfl, _⟩ := h
    rfl
  · obtain ⟨a, ns, rfl, hS, hlen, k⟩ := h
    refine ⟨_, pss_cons (ps_set (i := 1) scHd.nd rfl (Or.inl rfl) (pe_op op_add (pe_callB call_len (by rfl) B.len PySem.boot_len (pa_cons (pv 0) pa_nil)) pe_int))
      (pss_cons (ps_set (i := 2) scHd.nd rfl (Or.inl rfl) (pe_lst pa_nil))
      (pss_cons (ps_for PassesOwn.never rfl (pi_list (pv 0)) (pg_name (i := 3) scHd.nd rfl (Or.inl rfl))
        (pss_cons (ps_set (i := 1) scHd.nd rfl (Or.inl rfl) (pe_op op_mod (pe_callTy call_int1 (by rfl) B.int (by decide +kernel) (pa_cons (pe_op op_add (pe_op op_mul (pv 1) pe_int) (pe_callTy call_int1 (by rfl) B.int (by decide +kernel) (pa_cons (pv 3) pa_nil))) pa_nil)) pe_int))
        (pss_one (ps_expr (pe_bm PySem.F.plainAttrs_list PySem.F.slot_list_append PySem.F.type_list_append mt_append (pv 2) (pa_cons (pe_callB call_abs (by rfl) B.abs (by decide +kernel) (pa_cons (pe_callTy call_int1 (by rfl) B.int (by decide +kernel) (pa_cons (pv 3) pa_nil)) pa_nil)) pa_nil))))))
      (pss_one (ps_ret (pe_lst (pa_cons (pv 2) (pa_cons pe_int (pa_cons pe_int (pa_cons (pv 1) pa_nil))))))))), ?_⟩
    refine ⟨_, rfl, _, ns.length, rfl, .inl ⟨_, hS, by rw [List.length_map]⟩, _, _, rfl, rfl, sz 0, fun c hc => ?_⟩
    refine ⟨_, rfl, a, rfl, ⟨_, (same_upd hc).seq hS⟩, for_list (K := K) (a := a) (xs := ns.map V.int) (fun i σ H' => ∃ (t : Int) (v0 : Option V) (cs : List Int), σ = [some (.ref a), some (.int t), some (.ref c), v0] ∧ H' c = some (.lst (cs.map V.int)) ∧ cs.length ≤ i ∧ (∀ n ∈ cs, 0 ≤ n) ∧ Same H H')
      ⟨_, _, [], rfl, upd_same, Nat.le_refl _, (fun _ h => by cases h), same_upd hc⟩ (fun i σ H' _ ⟨_, _, _, _, _, _, _, s'⟩ => s'.seq hS) ?_ ?_⟩
    · rintro i x σ H' hi ⟨t, v0, cs, rfl, hcs, hl, hpos, s'⟩
      obtain ⟨z, hz, rfl⟩ : ∃ z, ns[i]? = some z ∧ x = V.int z := by
        rw [List.getElem?_map] at hi
        cases q : ns[i]? with
        | none => rw [q] at hi; cases hi
        | some z => rw [q] at hi; exact ⟨z, rfl, (Option.some.inj hi).symm⟩
      have hi' : i < ns.length := (List.getElem?_eq_some_iff.mp hz).1
      refine ⟨_, rfl, _, _, rfl, rfl, .inr ⟨by decide, by decide⟩, _, rfl, .inl ⟨_, rfl, _, _, rfl, rfl, .inl ⟨_, rfl, _, _, rfl, rfl, (by show (0 : Int) < 2147483549; decide), ?_⟩⟩⟩
      refine ⟨_, rfl, .inl ⟨rfl, _, .inl (.inl hcs)⟩, _, rfl, .inl ⟨_, rfl, _, rfl, c, _, _, rfl, rfl, hcs, ?_, ?_⟩⟩
      · rw [List.length_map]
        exact small1000 (by omega)
      · refine ⟨_, _, cs ++ [if z < 0 then -z else z], rfl, ?_, ?_, ?_, same_updD s' hc⟩
        · rw [upd_same, List.map_append]
          rfl
        · rw [List.length_append]
          exact Nat.succ_le_succ hl
        · intro n hn
          rcases List.mem_append.mp hn with hn | hn
          · exact hpos n hn
          · rw [List.mem_singleton] at hn
            subst hn
            split <;> omega
    · rintro σ H' ⟨t, v0, cs, rfl, hcs, hl, hpos, s'⟩
      refine ⟨_, rfl, _, rfl, sz 4, fun p hp => k p c _ (same_upd' s' hp) ?_⟩
      exact HandAt.mk' hcs (ne_of_none hcs hp) (by omega) (by omega) hpos
theorem scMx : FnScope ["_law_number", "_law_turn", "_law_once", "_law_twice"] ["_law_number", "_law_turn"] (defScope sMx) := ⟨rfl, rfl, rfl, by decide +kernel, rfl, by decide +kernel, by decide +kernel⟩
theorem ok_mx {f : Addr} {fd : FuncData} (F : Fun K "_law_mixed" "_law_mixed" sMx f fd) (B : Bt mg) : FnOk P w K mg base CX0 1 f fd ["_law_number", "_law_turn"] spMx := by
  refine F.ok scMx (fun vs H Q E h => ?_) (fun cdv A outer s H vs Q E hr h => ?_)
  · obtain ⟨a, b, rfl, _⟩ := h
    rfl
  · obtain ⟨a, b, rfl, k⟩ := h
    refine ⟨_, pss_cons (ps_set (i := 2) scMx.nd rfl (Or.inl rfl) (pe_op op_mod (pe_callTy call_int1 (by rfl) B.int (by decide +kernel) (pa_cons (pe_op op_add (pe_op op_add (pe_op op_mul (pv 0) pe_int) (pe_op op_mul (pv 1) pe_int)) pe_int) pa_nil)) pe_int))
      (pss_cons (ps_set (i := 3) scMx.nd rfl (Or.inl rfl) (pe_op op_mod (pe_callTy call_int1 (by rfl) B.int (by decide +kernel) (pa_cons (pe_op op_add (pe_op op_add (pe_op op_mul (pv 2) (pv 2)) (pe_op op_mul (pv 1) pe_int)) (pe_op op_fdiv (pv 2) pe_int)) pa_nil)) pe_int))
      (pss_one (ps_ret (pe_op op_fdiv (pe_callTy call_int1 (by rfl) B.int (by decide +kernel) (pa_cons (pe_op op_mod (pe_callTy call_int1 (by rfl) B.int (by decide +kernel) (pa_cons (pe_op op_add (pe_op op_mul (pv 3) pe_int) (pe_op op_fdiv (pv 2) pe_int)) pa_nil)) pe_int) pa_nil)) pe_int)))), ?_⟩
    refine ⟨_, rfl, _, _, rfl, rfl, .inr ⟨by decide, by decide⟩, _, rfl, _, _, rfl, rfl, .inr ⟨by decide, by decide⟩, _, _, rfl, rfl, _, _, rfl, rfl, .inl ⟨_, rfl, _, _, rfl, rfl, (by show (0 : Int) < 2147483399; decide), ?_⟩⟩
    generalize ho : (a * 48271 + b * 7919 + 30011) % 2147483399 = o
    have o0 : 0 ≤ o := by rw [← ho]; exact Int.emod_nonneg _ (by decide)
    have o1 : o < 2147483399 := by rw [← ho]; exact Int.emod_lt_of_pos _ (by decide)
    refine ⟨_, rfl, _, rfl, _, _, rfl, rfl, .inl ⟨by omega, by omega⟩, _, rfl, _, _, rfl, rfl, .inr ⟨by decide, by decide⟩, _, _, rfl, rfl, _, rfl, _, _, rfl, rfl, ⟨by decide, by decide⟩, _, _, rfl, rfl, .inl ⟨_, rfl, _, _, rfl, rfl, (by show (0 : Int) < 2147483629; decide), ?_⟩⟩
    refine ⟨_, rfl, _, _, rfl, rfl, .inr ⟨by decide, by decide⟩, _, rfl, _, _, rfl, rfl, ⟨by decide, by decide⟩, _, _, rfl, rfl, .inl ⟨_, rfl, _, _, rfl, rfl, (by show (0 : Int) < 2147483587; decide), .inl ⟨_, rfl, _, _, rfl, rfl, ⟨by decide, by decide⟩, k _⟩⟩⟩
theorem scEv : FnScope ["_law_v"] ["_law_v"] (defScope sEv) := ⟨rfl, rfl, rfl, by decide +kernel, rfl, by decide +kernel, by decide +kernel⟩
theorem ok_ev {f : Addr} {fd : FuncData} (F : Fun K "_law_every" "_law_every" sEv f fd) : FnOk P w K mg base CX0 1 f fd ["_law_v"] spEv := by
  refine F.ok scEv (fun vs H Q E h => ?_) (fun cdv A outer s H vs Q E hr h => ?_)
  · obtain ⟨n, rfl, _⟩ := h
    rfl
  · obtain ⟨n, rfl, h0, h1, k⟩ := h
    refine ⟨_, pss_one (ps_ret (pe_op op_sub (pe_op op_shl pe_int (pv 0)) pe_int)), ?_⟩
    exact ⟨_, rfl, _, _, rfl, rfl, ⟨h0, by omega, by decide⟩, _, _, rfl, rfl, k⟩
theorem scIn : FnScope ["_law_thing_here"] ["_law_thing_here"] (defScope sIn) := ⟨rfl, rfl, rfl, by decide +kernel, rfl, by decide +kernel, by decide +kernel⟩
theorem ok_in {f : Addr} {fd : FuncData} (F : Fun K "_law_int" "_law_int" sIn f fd) (B : Bt mg) : FnOk P w K mg base CX0 1 f fd ["_law_thing_here"] spIn := by
  refine F.ok scIn (fun vs H Q E h => ?_) (fun cdv A outer s H vs Q E hr h => ?_)
  · obtain ⟨v, T, rfl, _⟩ := h
    rfl
  · obtain ⟨v, T, rfl, t, k⟩ := h
    refine ⟨_, pss_one (ps_ret (pe_and (pe_callB call_isi (by rfl) B.isi (by decide +kernel) (pa_cons (pv 0) (pa_cons (pe_bltn (v := .ty "int") (by rfl) B.int (by decide +kernel) rfl) pa_nil)))
      (pe_one (pe_not (pe_callB call_isi (by rfl) B.isi (by decide +kernel) (pa_cons (pv 0) (pa_cons (pe_bltn (v := .ty "bool") (by rfl) B.bool (by decide +kernel) rfl) pa_nil))))))), ?_⟩
    refine ⟨v, rfl, v, _, _, _, _, rfl, .ty _, t.tyx, kit_ty (th_int t), _, rfl, ?_⟩
    cases eb : isB v with
    | true =>
      have ei : isI v = false := by cases v <;> first | rfl | (cases eb)
      rw [ei] at k
      refine iteT ⟨v, rfl, v, _, _, _, _, rfl, .ty _, t.tyx, kit_ty (th_bool t), _, rfl, ?_⟩
      rw [eb]
      exact k
    | false =>
      cases ei : isI v with
      | true =>
        rw [ei] at k
        refine iteT ⟨v, rfl, v, _, _, _, _, rfl, .ty _, t.tyx, kit_ty (th_bool t), _, rfl, ?_⟩
        rw [eb]
        exact k
      | false =>
        rw [ei] at k
        exact iteF k
end
end Lot

/-! Part G: what is drawn from the hand. -/
namespace Lot
open PySem PySem.Spec PyProof.Rows L2
section
variable {P : Program} {w : World} {K : PySem.W.Frag} {mg : Str → Option Value} {base : Heap}
theorem at0 {a b c d : V} : atI [a, b, c, d] 0 = some a := rfl
theorem at1 {a b c d : V} : atI [a, b, c, d] 1 = some b := rfl
theorem at2 {a b c d : V} : atI [a, b, c, d] 2 = some c := rfl
theorem at3 {a b c d : V} : atI [a, b, c, d] 3 = some d := rfl
theorem scTk : FnScope ["_law_hand_here", "_law_many", "_law_cell", "_law_rest"] ["_law_hand_here", "_law_many"] (defScope sTk) := ⟨rfl, rfl, rfl, by decide +kernel, rfl, by decide +kernel, by decide +kernel⟩
theorem ok_tk {f : Addr} {fd : FuncData} (F : Fun K "_law_take" "_law_take" sTk f fd) (B : Bt mg) (W : Cal P w K mg base CX0 1 "_law_mixed" ["_law_number", "_law_turn"] spMx) : FnOk P w K mg base CX0 2 f fd ["_law_hand_here", "_law_many"] spTk := by
  refine F.ok scTk (fun vs H Q E h => ?_) (fun cdv A outer s H vs Q E hr h => ?_)
  · obtain ⟨h, c, n, rfl, _⟩ := h
    rfl
  · obtain ⟨h, c, n, rfl, n0, n1, hd, k⟩ := h
    obtain ⟨ns, i, r, t, eh, ec, i0, r0, hpos⟩ := hd.ex
    have hne : c ≠ h := ne_of ec eh (by intro z; cases ns <;> cases z)
    refine ⟨_, Evl.pss_cut (ps_if (PW.pt (pw_and (pt_cmpR op_eq (pe_ix ix_list (pv 0) pe_int (fun _ _ => rfl)) pe_int (nomark _))
          (pw_and1 (pt_cmpR op_lt (pe_ix ix_list (pv 0) pe_int (fun _ _ => rfl)) (pe_callB call_len (by rfl) B.len PySem.boot_len (pa_cons (pe_ix ix_list (pv 0) pe_int (fun _ _ => rfl)) pa_nil)) (nomark _)))))
        (pss_cons (ps_set (i := 2) scTk.nd rfl (Or.inl rfl) (pe_ix ix_list (pe_ix ix_list (pv 0) pe_int (fun _ _ => rfl)) (pe_ix ix_list (pv 0) pe_int (fun _ _ => rfl)) (fun _ _ => rfl)))
        (pss_cons (ps_asg (pe_op op_add (pe_ix ix_list (pv 0) pe_int (fun _ _ => rfl)) pe_int) (pg_sub (pv 0) pe_int set_list))
        (pss_cons (ps_if (pt_cmpR op_lt (pv 2) (pe_op op_pow pe_int pe_int) (nomark _))
            (pss_one (ps_ret (pe_op op_mod (pe_callTy call_int1 (by rfl) B.int (by decide +kernel) (pa_cons (pc W hr (by decide) (by rfl) pass0 (pa_cons (pe_op op_mod (pe_callTy call_int1 (by rfl) B.int (by decide +kernel) (pa_cons (pv 2) pa_nil)) pe_int) (pa_cons (pe_ix ix_list (pv 0) pe_int (fun _ _ => rfl)) pa_nil))) pa_nil)) (pv 1)))) pss_nil)
        (pss_one (ps_asg (pv 2) (pg_sub (pv 0) pe_int set_list)))))) pss_nil)
      (pss_cons (ps_if (pt_cmpR op_gt (pe_ix ix_list (pv 0) pe_int (fun _ _ => rfl)) pe_int (nomark _))
        (pss_cons (ps_set (i := 3) scTk.nd rfl (Or.inl rfl) (pe_ix ix_list (pv 0) pe_int (fun _ _ => rfl)))
        (pss_cons (ps_asg (pe_op op_fdiv (pe_callTy call_int1 (by rfl) B.int (by decide +kernel) (pa_cons (pv 3) pa_nil)) (pv 1)) (pg_sub (pv 0) pe_int set_list))
        (pss_one (ps_ret (pe_op op_mod (pe_callTy call_int1 (by rfl) B.int (by decide +kernel) (pa_cons (pv 3) pa_nil)) (pv 1)))))) pss_nil)
      (pss_cons (ps_asg (pe_op op_mod (pe_callTy call_int1 (by rfl) B.int (by decide +kernel) (pa_cons (pe_op op_add (pe_ix ix_list (pv 0) pe_int (fun _ _ => rfl)) pe_int) pa_nil)) pe_int) (pg_sub (pv 0) pe_int set_list))
      (pss_one (ps_ret (pe_op op_mod (pe_callTy call_int1 (by rfl) B.int (by decide +kernel) (pa_cons (pc W hr (by decide) (by rfl) pass0 (pa_cons (pe_ix ix_list (pv 0) pe_int (fun _ _ => rfl)) (pa_cons (pe_ix ix_list (pv 0) pe_int (fun _ _ => rfl)) pa_nil))) pa_nil)) (pv 1)))))), ?_⟩
    -- what stands behind the first if: from any i, r (the cell may be the new rest)
    have e0 : ∀ m : Int, 0 ≤ m % n := fun m => Int.emod_nonneg _ (by omega)
    have e1 : ∀ m : Int, m % n < n := fun m => Int.emod_lt_of_pos _ n0
    have sL : SqL K H h [.ref c, .int i, .int r, .int t] := .inl (.inl eh)
    refine ⟨fun σ' H' => ∃ (i' r' : Int) (v2 : Option V), σ' = [some (.ref h), some (.int n), v2, none] ∧ H' h = some (.lst [.ref c, .int i', .int r', .int t]) ∧ H' c = some (.lst (ns.map V.int)) ∧ 0 ≤ i' ∧ 0 ≤ r' ∧ Kp h H H', ?_, ?_⟩
    · refine ⟨_, rfl, h, _, _, _, rfl, rfl, sL, at2, rfl, _, rfl, ?_⟩
      refine iteD (fun cr => ?_) (fun cr => iteF ⟨i, r, none, rfl, eh, ec, i0, r0, Kp.refl h H⟩)
      refine ⟨_, rfl, h, _, _, _, rfl, rfl, sL, at1, _, rfl, h, _, _, _, rfl, rfl, sL, at0, _, ns.length, rfl, .inl ⟨_, .inl (.inl ec), by rw [List.length_map]⟩, _, _, rfl, rfl, _, rfl, ?_⟩
      refine iteD (fun cl => ?_) (fun cl => ⟨i, r, none, rfl, eh, ec, i0, r0, Kp.refl h H⟩)
      have hi : i.toNat < ns.length := by omega
      have hget : (ns.map V.int)[i.toNat]? = some (V.int ns[i.toNat]) := by
        rw [List.getElem?_map, List.getElem?_eq_getElem hi]
        rfl
      have hat : atI (ns.map V.int) i = some (V.int ns[i.toNat]) := by
        have := atI_nat hget
        rwa [Int.toNat_of_nonneg i0] at this
      have hz : 0 ≤ ns[i.toNat] := hpos _ (List.getElem_mem hi)
      generalize hzz : ns[i.toNat] = z at hat hz
      refine ⟨_, rfl, h, _, _, _, rfl, rfl, sL, at0, _, rfl, h, _, _, _, rfl, rfl, sL, at1, c, _, _, _, rfl, rfl, .inl (.inl ec), hat, ?_⟩
      refine ⟨_, rfl, h, _, _, _, rfl, rfl, sL, at1, _, _, rfl, rfl, _, rfl, h, _, 1, 1, rfl, rfl, eh, rfl, ?_⟩
      refine ⟨_, rfl, _, _, rfl, rfl, ⟨by decide, by decide, by decide⟩, _, _, rfl, rfl, _, rfl, ?_⟩
      refine iteD (fun cz => ?_) (fun cz => ?_)
      · refine ⟨_, rfl, .inl ⟨_, rfl, _, _, rfl, rfl, (by show (0 : Int) < 2147483399; decide), _, rfl, h, _, _, _, rfl, rfl, .inl (.inl upd_same), at1, _, _, rfl, fun m => .inl ⟨_, rfl, _, rfl, _, _, rfl, rfl, n0, ?_⟩⟩⟩
        exact k _ _ (e0 _) (e1 _) (HandAt.mk' ec hne (by omega) r0 hpos) kp_upd
      · exact ⟨_, rfl, _, rfl, h, _, 2, 2, rfl, rfl, upd_same, rfl, i + 1, z, _, rfl, upd_same, by rw [upd_ne hne, upd_ne hne]; exact ec, by omega, hz, kp_upd.upd⟩
    · rintro σ' H' ⟨i', r', v2, rfl, eh', ec', i0', r0', kp⟩
      have sL' : SqL K H' h [.ref c, .int i', .int r', .int t] := .inl (.inl eh')
      refine ⟨_, rfl, h, _, _, _, rfl, rfl, sL', at2, _, _, rfl, rfl, _, rfl, ?_⟩
      refine iteD (fun cr => ?_) (fun cr => ?_)
      · refine ⟨_, rfl, h, _, _, _, rfl, rfl, sL', at2, _, rfl, .inl ⟨_, rfl, _, rfl, _, _, rfl, rfl, ⟨n0, n1⟩, _, rfl, h, _, 2, 2, rfl, rfl, eh', rfl, _, rfl, .inl ⟨_, rfl, _, rfl, _, _, rfl, rfl, n0, ?_⟩⟩⟩
        exact k _ _ (e0 _) (e1 _) (HandAt.mk' ec' hne i0' (Int.ediv_nonneg r0' (by omega)) hpos) kp.upd
      · refine ⟨_, rfl, h, _, _, _, rfl, rfl, sL', at3, _, _, rfl, rfl, .inl ⟨_, rfl, _, _, rfl, rfl, (by show (0 : Int) < 2147483549; decide), _, rfl, h, _, 3, 3, rfl, rfl, eh', rfl, _, rfl, h, _, _, _, rfl, rfl, .inl (.inl upd_same), at3, _, rfl, h, _, _, _, rfl, rfl, .inl (.inl upd_same), at1, _, _, rfl, fun m => .inl ⟨_, rfl, _, rfl, _, _, rfl, rfl, n0, ?_⟩⟩⟩
        exact k _ _ (e0 _) (e1 _) (HandAt.mk' ec' hne i0' r0' hpos) kp.upd
end
end Lot

/-! Part H: _law_list, _law_good, _law_rid, _law_thing. -/
namespace Lot
open PySem PySem.Spec PyProof.Rows L2
abbrev sEx : Stmt := top 24
abbrev sRd : Stmt := top 25
abbrev sGd : Stmt := top 33
abbrev sTh : Stmt := top 34
def spGd : Sp := fun vs H Q _ => ∃ (n : Int) (y : V) (U : String), vs = [.int n, y] ∧ Th H y U ∧ 0 ≤ n ∧ n ≤ 1000 ∧ Q (.bl (whB y (some 0) (some (evI n)))) H
def spRd : Sp := fun vs H Q _ => ∃ h c : Addr, vs = [.ref h] ∧ HandAt H h c ∧ ∀ (v : V) (H' : Hp), HandAt H' h c → Kp h H H' → Fl H' v → whB v (some 0) (some 63) = false → Q v H'
def spTh : Sp := fun vs H Q _ => ∃ (h c : Addr) (n : Int), vs = [.ref h, .int n] ∧ HandAt H h c ∧ 1 ≤ n ∧ n ≤ 6 ∧ ∀ (v : V) (H' : Hp), HandAt H' h c → Kp h H H' → Fl H' v → Q v H'
section
variable {P : Program} {w : World} {K : PySem.W.Frag} {mg : Str → Option Value} {base : Heap}
theorem Kp.same {h : Addr} {H H1 H2 : Hp} (k : Kp h H H1) (s : Same H1 H2) : Kp h H H2 := k.trans (Same.kp s h)
theorem scLs : FnScope ["_law_hand_here", "_law_items"] ["_law_hand_here", "_law_items"] (defScope sLs) := ⟨rfl, rfl, rfl, by decide +kernel, rfl, by decide +kernel, by decide +kernel⟩
theorem ok_ls {f : Addr} {fd : FuncData} (F : Fun K "_law_list" "_law_list" sLs f fd) (B : Bt mg) (W : Cal P w K mg base CX0 2 "_law_take" ["_law_hand_here", "_law_many"] spTk) : FnOk P w K mg base CX0 3 f fd ["_law_hand_here", "_law_items"] spLs := by
  refine F.ok scLs (fun vs H Q E h => ?_) (fun cdv A outer s H vs Q E hr h => ?_)
  · obtain ⟨h, c, a, xs, rfl, _⟩ := h
    rfl
  · obtain ⟨h, c, a, xs, rfl, hd, ea, hne, k⟩ := h
    refine ⟨_, pss_one (ps_ret (pe_ifExp (pt_truth (pc W hr (by decide) (by rfl) pass0 (pa_cons (pv 0) (pa_cons pe_int pa_nil))) (by intro _; rfl))
      (pe_callTy call_list_of (by rfl) B.list (by decide +kernel) (pa_cons (pv 1) pa_nil)) (pe_callTy call_tuple_of (by rfl) B.tuple (by decide +kernel) (pa_cons (pv 1) pa_nil)))), ?_⟩
    refine ⟨_, rfl, h, c, 2, rfl, by decide, by decide, hd, fun r H' _ _ hd' kp => ⟨_, rfl, ?_⟩⟩
    have ea' := kp _ _ ea hne
    refine ite2 (fun _ => ?_) (fun _ => ?_)
    · exact ⟨_, rfl, a, xs, rfl, .inl (.inl (.inl ea')), fun l hl => k l _ (hd'.same (same_upd hl)) (kp.same (same_upd hl)) (hd'.fresh hl) (.inl upd_same)⟩
    · exact ⟨_, rfl, a, xs, rfl, .inl ⟨.inl (.inl ea'), fun l hl => k l _ (hd'.same (same_upd hl)) (kp.same (same_upd hl)) (hd'.fresh hl) (.inr upd_same)⟩⟩
theorem scGd : FnScope ["_law_v", "_law_lot"] ["_law_v", "_law_lot"] (defScope sGd) := ⟨rfl, rfl, rfl, by decide +kernel, rfl, by decide +kernel, by decide +kernel⟩
theorem ok_gd {f : Addr} {fd : FuncData} (F : Fun K "_law_good" "_law_good" sGd f fd) (W : Cal P w K mg base CX0 1 "_law_int" ["_law_thing_here"] spIn) (W2 : Cal P w K mg base CX0 1 "_law_every" ["_law_v"] spEv) :
    FnOk P w K mg base CX0 2 f fd ["_law_v", "_law_lot"] spGd := by
  refine F.ok scGd (fun vs H Q E h => ?_) (fun cdv A outer s H vs Q E hr h => ?_)
  · obtain ⟨n, y, U, rfl, _⟩ := h
    rfl
  · obtain ⟨n, y, U, rfl, u, n0, n1, k⟩ := h
    refine ⟨_, pss_one (ps_ret (pe_and (pc W hr (by decide) (by rfl) pass0 (pa_cons (pv 1) pa_nil)) (pe_and (pe_cmpR op_ge (pv 1) pe_int (nomark _)) (pe_one (pe_cmpR op_le (pv 1) (pc W2 hr (by decide) (by rfl) pass0 (pa_cons (pv 0) pa_nil)) (nomark _)))))), ?_⟩
    refine ⟨y, rfl, y, U, rfl, u, _, rfl, ?_⟩
    cases e : isI y with
    | false =>
      rw [whB_no e] at k
      exact iteF k
    | true =>
      obtain ⟨i, rfl⟩ : ∃ i, y = .int i := by cases y <;> first | exact ⟨_, rfl⟩ | (cases e)
      have k : Q (.bl (decide (0 ≤ i) && decide (i ≤ evI n))) H := k
      refine iteT ⟨_, rfl, _, _, rfl, rfl, _, rfl, ?_⟩
      refine iteD (fun c => ?_) (fun c => ?_)
      · rw [decide_eq_true c] at k
        exact ⟨_, rfl, _, rfl, n, rfl, n0, n1, _, _, rfl, rfl, k⟩
      · rw [decide_eq_false c] at k
        exact k
theorem scRd : FnScope ["_law_hand_here"] ["_law_hand_here"] (defScope sRd) := ⟨rfl, rfl, rfl, by decide +kernel, rfl, by decide +kernel, by decide +kernel⟩
theorem ok_rd {f : Addr} {fd : FuncData} (F : Fun K "_law_rid" "_law_rid" sRd f fd) (W : Cal P w K mg base CX0 2 "_law_take" ["_law_hand_here", "_law_many"] spTk) : FnOk P w K mg base CX0 3 f fd ["_law_hand_here"] spRd := by
  refine F.ok scRd (fun vs H Q E h => ?_) (fun cdv A outer s H vs Q E hr h => ?_)
  · obtain ⟨h, c, rfl, _⟩ := h
    rfl
  · obtain ⟨h, c, rfl, hd, k⟩ := h
    refine ⟨_, pss_one (ps_ret (pe_ix ix_tup (pe_tup (pa_cons pe_non (pa_cons pe_str (pa_cons pe_bl (pa_cons (pe_un un_neg pe_int) (pa_cons pe_str (pa_cons pe_bl (pa_cons pe_int (pa_cons (pe_tup (pa_cons pe_int pa_nil)) pa_nil)))))))))
      (pc W hr (by decide) (by rfl) pass0 (pa_cons (pv 0) (pa_cons pe_int pa_nil))) (fun _ _ => rfl))), ?_⟩
    refine ⟨1, rfl, sz 1, fun p1 hp1 => ⟨sz 8, fun p2 hp2 => ?_⟩⟩
    have s1 := same_upd (o := .tup [.int 0]) hp1
    have s2 := same_upd' (o := .tup [.non, .str "ab", .bl true, .int (-1), .str "1", .bl false, .int 64, .ref p1]) s1 hp2
    refine ⟨_, rfl, h, c, 8, rfl, by decide, by decide, hd.same s2, fun r H' r0 r1 hd' kp => ?_⟩
    have e1 : H' p1 = some (.tup [.int 0]) := kp _ _ ((same_upd hp2) _ _ upd_same) ((hd.fresh hp1))
    have e2 : H' p2 = some (.tup [.non, .str "ab", .bl true, .int (-1), .str "1", .bl false, .int 64, .ref p1]) := kp _ _ upd_same ((hd.same s1).fresh hp2)
    have kp' : Kp h H H' := (Same.kp s2 h).trans kp
    have hr8 : r = 0 ∨ r = 1 ∨ r = 2 ∨ r = 3 ∨ r = 4 ∨ r = 5 ∨ r = 6 ∨ r = 7 := by omega
    rcases hr8 with rfl | rfl | rfl | rfl | rfl | rfl | rfl | rfl
    · exact ⟨p2, _, _, _, rfl, rfl, .inl (.inl e2), rfl, k _ _ hd' kp' .non rfl⟩
    · exact ⟨p2, _, _, _, rfl, rfl, .inl (.inl e2), rfl, k _ _ hd' kp' (.str _ (by decide +kernel)) rfl⟩
    · exact ⟨p2, _, _, _, rfl, rfl, .inl (.inl e2), rfl, k _ _ hd' kp' (.bl _) rfl⟩
    · exact ⟨p2, _, _, _, rfl, rfl, .inl (.inl e2), rfl, k _ _ hd' kp' (.int _) rfl⟩
    · exact ⟨p2, _, _, _, rfl, rfl, .inl (.inl e2), rfl, k _ _ hd' kp' (.str _ (by decide +kernel)) rfl⟩
    · exact ⟨p2, _, _, _, rfl, rfl, .inl (.inl e2), rfl, k _ _ hd' kp' (.bl _) rfl⟩
    · exact ⟨p2, _, _, _, rfl, rfl, .inl (.inl e2), rfl, k _ _ hd' kp' (.int _) rfl⟩
    · exact ⟨p2, _, _, _, rfl, rfl, .inl (.inl e2), rfl, k _ _ hd' kp' (.t0 e1) rfl⟩
theorem pow_small {n : Int} (h0 : 1 ≤ n) (h1 : n ≤ 6) : 0 < (1 : Int) * 2 ^ n.toNat ∧ (1 : Int) * 2 ^ n.toNat ≤ 64 := by
  have : n = 1 ∨ n = 2 ∨ n = 3 ∨ n = 4 ∨ n = 5 ∨ n = 6 := by omega
  rcases this with rfl | rfl | rfl | rfl | rfl | rfl <;> decide
theorem scTh : FnScope ["_law_hand_here", "_law_v", "_law_way"] ["_law_hand_here", "_law_v"] (defScope sTh) := ⟨rfl, rfl, rfl, by decide +kernel, rfl, by decide +kernel, by decide +kernel⟩
theorem ok_th {f : Addr} {fd : FuncData} (F : Fun K "_law_thing" "_law_thing" sTh f fd) (W : Cal P w K mg base CX0 2 "_law_take" ["_law_hand_here", "_law_many"] spTk) (W2 : Cal P w K mg base CX0 3 "_law_rid" ["_law_hand_here"] spRd)
    (W3 : Cal P w K mg base CX0 1 "_law_every" ["_law_v"] spEv) : FnOk P w K mg base CX0 4 f fd ["_law_hand_here", "_law_v"] spTh := by
  refine F.ok scTh (fun vs H Q E h => ?_) (fun cdv A outer s H vs Q E hr h => ?_)
  · obtain ⟨h, c, n, rfl, _⟩ := h
    rfl
  · obtain ⟨h, c, n, rfl, hd, n0, n1, k⟩ := h
    refine ⟨_, pss_cons (ps_set (i := 2) scTh.nd rfl (Or.inl rfl) (pc W hr (by decide) (by rfl) pass0 (pa_cons (pv 0) (pa_cons pe_int pa_nil))))
      (pss_cons (ps_if (pt_cmpR op_eq (pv 2) pe_int (nomark _)) (pss_one (ps_ret (pc W2 hr (by decide) (by rfl) pass0 (pa_cons (pv 0) pa_nil)))) pss_nil)
      (pss_cons (ps_if (pt_cmpR op_eq (pv 2) pe_int (nomark _)) (pss_one (ps_ret (pe_op op_add (pc W3 hr (by decide) (by rfl) pass0 (pa_cons (pv 1) pa_nil)) (pc W hr (by decide) (by rfl) pass0 (pa_cons (pv 0) (pa_cons pe_int pa_nil)))))) pss_nil)
      (pss_one (ps_ret (pc W hr (by decide) (by rfl) pass0 (pa_cons (pv 0) (pa_cons (pe_op op_shl pe_int (pv 1)) pa_nil))))))), ?_⟩
    obtain ⟨p0, p1⟩ := pow_small n0 n1
    refine ⟨_, rfl, h, c, 4, rfl, by decide, by decide, hd, fun r H1 r0 r1 hd1 kp1 => ?_⟩
    refine ⟨_, rfl, rfl, _, rfl, ?_⟩
    refine iteD (fun _ => ⟨_, rfl, h, c, rfl, hd1, fun v H2 hd2 kp2 fl _ => k v H2 hd2 (kp1.trans kp2) fl⟩) (fun _ => ?_)
    refine ⟨_, rfl, rfl, _, rfl, ?_⟩
    refine iteD (fun _ => ?_) (fun _ => ?_)
    · exact ⟨_, rfl, n, rfl, by omega, by omega, _, rfl, h, c, 2, rfl, by decide, by decide, hd1, fun r H2 _ _ hd2 kp2 => ⟨_, _, rfl, rfl, k _ H2 hd2 (kp1.trans kp2) (.int _)⟩⟩
    · exact ⟨_, rfl, _, rfl, _, _, rfl, rfl, ⟨by omega, by omega, by decide⟩, h, c, _, rfl, p0, by omega, hd1, fun r H2 _ _ hd2 kp2 => k _ H2 hd2 (kp1.trans kp2) (.int _)⟩
end
end Lot

/-! Part I: _law_exact, and what the program is seen to answer. -/
namespace Lot
open PySem PySem.Spec PyProof.Rows L2
abbrev sTS : Stmt := top 26
abbrev sTA : Stmt := top 27
abbrev sTL : Stmt := top 28
abbrev sTLs : Stmt := top 29
abbrev sTO : Stmt := top 30
abbrev sTF : Stmt := top 31
abbrev sTW : Stmt := top 32
/-- the same number, truth value or text is told and due -/
def spX1 : Sp := fun vs H Q _ => ∃ v : V, vs = [v, v] ∧ (isI v || isB v || isS v) = true ∧ Q (.bl true) H
/-- tuples of the same numbers -/
def spX2 : Sp := fun vs H Q _ => ∃ (p q : Addr) (ns : List Int), vs = [.ref p, .ref q] ∧ H p = some (.tup (ns.map V.int)) ∧ H q = some (.tup (ns.map V.int)) ∧ ns.length ≤ 1000 ∧ ∀ H', Same H H' → Q (.bl true) H'
section
variable {P : Program} {w : World} {K : PySem.W.Frag} {mg : Str → Option Value} {base : Heap}
theorem scX : FnScope ["_law_told", "_law_due", "_law_k"] ["_law_told", "_law_due"] (defScope sEx) := ⟨rfl, rfl, rfl, by decide +kernel, rfl, by decide +kernel, by decide +kernel⟩
theorem ok_x1 {f : Addr} {fd : FuncData} (F : Fun K "_law_exact" "_law_exact" sEx f fd) (B : Bt mg) (W : Cal P w K mg base CX0 1 "_law_int" ["_law_thing_here"] spIn) : FnOk P w K mg base CX0 2 f fd ["_law_told", "_law_due"] spX1 := by
  refine F.ok scX (fun vs H Q E h => ?_) (fun cdv A outer s H vs Q E hr h => ?_)
  · obtain ⟨v, rfl, _⟩ := h
    rfl
  · obtain ⟨v, rfl, hv, k⟩ := h
    refine ⟨_, pss_cons (ps_if (pt_val (pe_callB call_isi (by rfl) B.isi (by decide +kernel) (pa_cons (pv 1) (pa_cons (pe_bltn (v := .ty "tuple") (by rfl) B.tuple (by decide +kernel) rfl) pa_nil)))) pss_never pss_nil)
      (pss_cons (ps_if (pt_cmpR op_isN (pv 1) pe_non (nomark _)) pss_never pss_nil)
      (pss_cons (ps_if (pt_val (pe_callB call_isi (by rfl) B.isi (by decide +kernel) (pa_cons (pv 1) (pa_cons (pe_bltn (v := .ty "bool") (by rfl) B.bool (by decide +kernel) rfl) pa_nil)))) (pss_one (ps_ret (pe_ifExp (pt_val (pv 1)) (pe_cmpR op_isBl (pv 0) pe_bl (nomark _)) (pe_cmpR op_isBl (pv 0) pe_bl (nomark _))))) pss_nil)
      (pss_cons (ps_if (pt_val (pe_callB call_isi (by rfl) B.isi (by decide +kernel) (pa_cons (pv 1) (pa_cons (pe_bltn (v := .ty "str") (by rfl) B.str (by decide +kernel) rfl) pa_nil)))) (pss_one (ps_ret (pe_and (pe_callB call_isi (by rfl) B.isi (by decide +kernel) (pa_cons (pv 0) (pa_cons (pe_bltn (v := .ty "str") (by rfl) B.str (by decide +kernel) rfl) pa_nil))) (pe_one (pe_cmpR op_eq (pv 0) (pv 1) (nomark _)))))) pss_nil)
      (pss_one (ps_ret (pe_and (pc W hr (by decide) (by rfl) pass0 (pa_cons (pv 0) pa_nil)) (pe_one (pe_cmpR op_eq (pv 0) (pv 1) (nomark _))))))))), ?_⟩
    cases v with
    | int i =>
      have t : Th H (.int i) "int" := .int i
      refine ⟨_, rfl, _, _, _, _, _, rfl, .ty _, t.tyx, kit_ty (b := "tuple") (r := false) (by decide +kernel), _, rfl, iteF ?_⟩
      refine ⟨_, rfl, rfl, _, rfl, iteF ?_⟩
      refine ⟨_, rfl, _, _, _, _, _, rfl, .ty _, t.tyx, kit_ty (b := "bool") (r := false) (by decide +kernel), _, rfl, iteF ?_⟩
      refine ⟨_, rfl, _, _, _, _, _, rfl, .ty _, t.tyx, kit_ty (b := "str") (r := false) (by decide +kernel), _, rfl, iteF ?_⟩
      refine ⟨_, rfl, _, _, rfl, t, _, rfl, iteT ?_⟩
      refine ⟨_, rfl, _, rfl, rfl, ?_⟩
      rw [decide_eq_true rfl]
      exact k
    | bl b =>
      have t : Th H (.bl b) "bool" := .bl b
      refine ⟨_, rfl, _, _, _, _, _, rfl, .ty _, t.tyx, kit_ty (b := "tuple") (r := false) (by decide +kernel), _, rfl, iteF ?_⟩
      refine ⟨_, rfl, rfl, _, rfl, iteF ?_⟩
      refine ⟨_, rfl, _, _, _, _, _, rfl, .ty _, t.tyx, kit_ty (b := "bool") (r := true) (by decide +kernel), _, rfl, iteT ?_⟩
      refine ⟨_, rfl, _, rfl, ?_⟩
      cases b with
      | true => exact iteT ⟨_, rfl, true, true, rfl, rfl, k⟩
      | false => exact iteF ⟨_, rfl, false, false, rfl, rfl, k⟩
    | str z =>
      have t : Th H (.str z) "str" := .str z
      refine ⟨_, rfl, _, _, _, _, _, rfl, .ty _, t.tyx, kit_ty (b := "tuple") (r := false) (by decide +kernel), _, rfl, iteF ?_⟩
      refine ⟨_, rfl, rfl, _, rfl, iteF ?_⟩
      refine ⟨_, rfl, _, _, _, _, _, rfl, .ty _, t.tyx, kit_ty (b := "bool") (r := false) (by decide +kernel), _, rfl, iteF ?_⟩
      refine ⟨_, rfl, _, _, _, _, _, rfl, .ty _, t.tyx, kit_ty (b := "str") (r := true) (by decide +kernel), _, rfl, iteT ?_⟩
      refine ⟨_, rfl, _, _, _, _, _, rfl, .ty _, t.tyx, kit_ty (b := "str") (r := true) (by decide +kernel), _, rfl, iteT ?_⟩
      refine ⟨_, rfl, _, rfl, rfl, ?_⟩
      rw [decide_eq_true rfl]
      exact k
    | non => cases hv
    | byt b => cases hv
    | flt b => cases hv
    | ref b => cases hv
    | ty b => cases hv
theorem ok_x2 {f : Addr} {fd : FuncData} (F : Fun K "_law_exact" "_law_exact" sEx f fd) (B : Bt mg) (W : Cal P w K mg base CX0 2 "_law_exact" ["_law_told", "_law_due"] spX1) : FnOk P w K mg base CX0 3 f fd ["_law_told", "_law_due"] spX2 := by
  refine F.ok scX (fun vs H Q E h => ?_) (fun cdv A outer s H vs Q E hr h => ?_)
  · obtain ⟨p, q, ns, rfl, _⟩ := h
    rfl
  · obtain ⟨p, q, ns, rfl, hp, hq, hl, k⟩ := h
    refine ⟨_, pss_cons (ps_if (pt_val (pe_callB call_isi (by rfl) B.isi (by decide +kernel) (pa_cons (pv 1) (pa_cons (pe_bltn (v := .ty "tuple") (by rfl) B.tuple (by decide +kernel) rfl) pa_nil))))
      (pss_cons (ps_if (PW.pt (pw_or (pt_not (pt_val (pe_callB call_isi (by rfl) B.isi (by decide +kernel) (pa_cons (pv 0) (pa_cons (pe_bltn (v := .ty "tuple") (by rfl) B.tuple (by decide +kernel) rfl) pa_nil)))))
          (pw_or1 (pt_cmpR op_ne (pe_callB call_len (by rfl) B.len PySem.boot_len (pa_cons (pv 0) pa_nil)) (pe_callB call_len (by rfl) B.len PySem.boot_len (pa_cons (pv 1) pa_nil)) (nomark _))))) (pss_one (ps_ret pe_bl)) pss_nil)
      (pss_one (ps_ret (pe_cmpR (op_eqD hr.units) (pe_lc (own := [("_law_k", 2)]) (g := gName 2) (by rfl) scX.nd (pi_range1 (by rfl) B.range (pa_cons (pe_callB call_len (by rfl) B.len PySem.boot_len (pa_cons (pv 1) pa_nil)) pa_nil))
        (blkOk_by (own := [("_law_k", 2)]) (N := ["_law_told", "_law_due", "_law_k"]) (sc := defScope sEx) (by decide +kernel)) (fun _ _ _ _ _ => pg_name (i := 2) scX.nd rfl (Or.inl rfl))
        (fun _ _ _ _ _ => pts_one (pt_not (pt_val (pc W hr (by decide) (by rfl) pass0 (pa_cons (pe_ix (show IxR _ (rIxT K) from ix_tup) (pv 0) (pv 2) (fun _ _ => rfl)) (pa_cons (pe_ix (show IxR _ (rIxT K) from ix_tup) (pv 1) (pv 2) (fun _ _ => rfl)) pa_nil)))))) (fun _ _ _ _ _ => pv 2)) (pe_lst pa_nil) (nomark _))))) pss_nil) pss_never, ?_⟩
    have tp : Th H (.ref p) "tuple" := .tup hp
    have tq : Th H (.ref q) "tuple" := .tup hq
    refine ⟨_, rfl, _, _, _, _, _, rfl, .ty _, tq.tyx, kit_ty (b := "tuple") (r := true) (by decide +kernel), _, rfl, iteT ?_⟩
    refine ⟨_, rfl, _, _, _, _, _, rfl, .ty _, tp.tyx, kit_ty (b := "tuple") (r := true) (by decide +kernel), _, rfl, iteF ?_⟩
    refine ⟨_, rfl, _, ns.length, rfl, .inr ⟨_, .inl (.inl hp), by rw [List.length_map]⟩, _, rfl, _, ns.length, rfl, .inr ⟨_, .inl (.inl hq), by rw [List.length_map]⟩, rfl, _, rfl, ?_⟩
    refine iteNS rfl ?_
    refine ⟨_, rfl, _, ns.length, rfl, .inr ⟨_, .inl (.inl hq), by rw [List.length_map]⟩, ns.length, rfl, by omega, by omega, fun D hD => lc_range (lo := 0) (n := ns.length) (fun i H' => H' D = some (.lst []) ∧ Same H H') ⟨upd_same, same_upd hD⟩ ?_ ?_⟩
    · rintro i H' hi ⟨hd, s'⟩
      have ei : (0 : Int) + (i : Nat) = (i : Int) := Int.zero_add _
      rw [ei]
      have hg : (ns.map V.int)[i]? = some (V.int ns[i]) := by
        rw [List.getElem?_map, List.getElem?_eq_getElem hi]
        rfl
      refine ⟨rfl, _, rfl, _, rfl, p, _, _, _, rfl, rfl, .inl (.inl (s' _ _ hp)), atI_nat hg, _, rfl, _, rfl, q, _, _, _, rfl, rfl, .inl (.inl (s' _ _ hq)), atI_nat hg, _, rfl, rfl, _, rfl, ?_⟩
      exact iteF ⟨hd, s'⟩
    · rintro H' ⟨hd, s'⟩
      refine ⟨sz 0, fun l hl => ⟨.list [], .list [], .lst (.inl (.inl ((same_upd hl) _ _ hd))) .nil, .lst (.inl (.inl upd_same)) .nil, by decide +kernel, by decide +kernel, ?_⟩⟩
      exact k _ (same_upd' s' hl)
end
end Lot

/-! Part J: what the program is seen to answer. -/
namespace Lot
open PySem PySem.Spec PyProof.Rows L2
def spTS : Sp := fun vs H Q _ => ∃ (v : V) (T : String), vs = [v] ∧ Th H v T ∧ (whB v (some 1) (some 6) = true → Q v H) ∧ (whB v (some 1) (some 6) = false → Q (.str "stands") H)
def spTA : Sp := fun vs H Q _ => ∃ (v : V) (T : String), vs = [v] ∧ Th H v T ∧ (∀ n : Int, v = .int n → 1 ≤ n → n ≤ 6 → Q (.int (evI n)) H) ∧ (whB v (some 1) (some 6) = false → Q (.str "stands") H)
def spTL : Sp := fun vs H Q _ => ∃ (v : V) (T : String) (y : V) (U : String), vs = [v, y] ∧ Th H v T ∧ Th H y U ∧ (whB v (some 1) (some 6) = false → Q (.str "stands") H) ∧
  ∀ n : Int, v = .int n → 1 ≤ n → n ≤ 6 → (whB y (some 0) (some (evI n)) = true → Q y H) ∧ (whB y (some 0) (some (evI n)) = false → Q (.str "lot") H)
def spTLs (K : PySem.W.Frag) : Sp := fun vs H Q _ => ∃ (v : V) (T : String) (y : V), vs = [v, y] ∧ Th H v T ∧ (whB v (some 1) (some 6) = false → Q (.str "stands") H) ∧
  ∀ n : Int, v = .int n → 1 ≤ n → n ≤ 6 →
    ((∃ U, Th H y U ∧ sqn U = false) ∧ ∀ H', Same H H' → Q (.str "lot") H') ∨
    (∃ (a : Addr) (xs : List V), y = .ref a ∧ SqA K H a xs ∧ (∀ x ∈ xs, ∃ U, Th H x U) ∧
      (xs.length ≤ 64 → good 0 (evI n) xs = true → ∀ p H', Same H H' → H' p = some (.tup xs) → Q (.ref p) H') ∧
      (¬ (xs.length ≤ 64 ∧ good 0 (evI n) xs = true) → ∀ H', Same H H' → Q (.str "lot") H'))
def spTO (K : PySem.W.Frag) : Sp := fun vs H Q _ => ∃ y : V, vs = [y] ∧
    (((∃ U, Th H y U ∧ sqn U = false) ∧ ∀ H', Same H H' → Q (.str "lot") H') ∨
    (∃ (a : Addr) (xs : List V), y = .ref a ∧ SqA K H a xs ∧ (∀ x ∈ xs, ∃ U, Th H x U) ∧
      (good 0 5 xs = true → ∀ H', Same H H' → Q (.int (orA xs)) H') ∧
      (good 0 5 xs = false → ∀ H', Same H H' → Q (.str "lot") H')))
def spTF : Sp := fun vs H Q _ => ∃ (c : Int) (y : V) (U : String), vs = [.int c, y] ∧ Th H y U ∧ (whB y (some 0) (some 63) = false → Q (.str "refused") H) ∧
  ∀ n : Int, y = .int n → 0 ≤ n → n ≤ 63 →
    (c = 0 → ∀ p H', Same H H' → H' p = some (.tup ((sof n).map V.int)) → Q (.ref p) H') ∧
    (c = 1 → ∀ H', Same H H' → Q (.int ((sof n).length : Int)) H') ∧
    (2 ≤ c → ∀ H', Same H H' → Q (.str (txtL (sof n))) H') ∧ 0 ≤ c
def spTW : Sp := fun vs H Q _ => ∃ (x : V) (T : String) (y : V) (U : String), vs = [x, y] ∧ Th H x T ∧ Th H y U ∧ (whB x (some 0) (some 63) = false ∨ whB y (some 0) (some 63) = false → Q (.str "refused") H) ∧
  ∀ n m : Int, x = .int n → y = .int m → 0 ≤ n → n ≤ 63 → 0 ≤ m → m ≤ 63 → Q (.bl (decide (Builtin.bitAnd n m = n))) H
/-- an except suite: return a text -/
abbrev tSt (z : Str) : Addr → Value → Option Addr → TS := fun _ _ _ => tRet (tC (.str z))
section
variable {P : Program} {w : World} {K : PySem.W.Frag} {mg : Str → Option Value} {base : Heap}
theorem scTS : FnScope ["_law_v", "_law_told"] ["_law_v"] (defScope sTS) := ⟨rfl, rfl, rfl, by decide +kernel, rfl, by decide +kernel, by decide +kernel⟩
theorem ok_ts {f : Addr} {fd : FuncData} {CS : Addr} (F : Fun K "_law_told_stands" "_law_told_stands" sTS f fd) (ZS : ErrAt K mg "BadStands" CS) (W : Cal P w K mg base (L2.CX P w) 2 "check_stands" ["v"] (spCS CS)) : FnOk P w K mg base CX0 3 f fd ["_law_v"] spTS := by
  refine F.ok scTS (fun vs H Q E h => ?_) (fun cdv A outer s H vs Q E hr h => ?_)
  · obtain ⟨v, T, rfl, _⟩ := h
    rfl
  · obtain ⟨v, T, rfl, t, k1, k2⟩ := h
    refine ⟨_, pss_cons (ps_try_only (tb := fun W => tAsg (tCallS (spCS CS) (WE W) (tCons (tVar 0) tNil)) (gName 1)) (ts := tSt "stands") (Wout := fun _ _ _ _ => False) rfl rfl ⟨rfl, by decide, Or.inl ZS.g⟩ takes0
        (fun W' pn xe tk _ => pss_one (ps_set (i := 1) scTS.nd rfl (Or.inl rfl) (by exact (pcS W hr (by decide) (by rfl) (fun σ => passAt tk σ) (by exact (pa_cons (pv 0) pa_nil))))))
        (fun a oe cls d pn hz hf => pss_one (ps_ret pe_str))) (pss_one (ps_ret (pv 1))), ?_⟩
    refine ⟨v, rfl, v, T, rfl, t, fun e => ⟨v, rfl, k1 e⟩, fun e => ⟨true, ZS.im, fun _ a ha => k2 e, fun q => Bool.noConfusion q⟩⟩
theorem scTA : FnScope ["_law_v", "_law_told"] ["_law_v"] (defScope sTA) := ⟨rfl, rfl, rfl, by decide +kernel, rfl, by decide +kernel, by decide +kernel⟩
theorem ok_ta {f : Addr} {fd : FuncData} {CS : Addr} (F : Fun K "_law_told_all" "_law_told_all" sTA f fd) (ZS : ErrAt K mg "BadStands" CS) (W : Cal P w K mg base (L2.CX P w) 3 "all_stands" ["v"] (spAS CS)) : FnOk P w K mg base CX0 4 f fd ["_law_v"] spTA := by
  refine F.ok scTA (fun vs H Q E h => ?_) (fun cdv A outer s H vs Q E hr h => ?_)
  · obtain ⟨v, T, rfl, _⟩ := h
    rfl
  · obtain ⟨v, T, rfl, t, k1, k2⟩ := h
    refine ⟨_, pss_cons (ps_try_only (tb := fun W => tAsg (tCallS (spAS CS) (WE W) (tCons (tVar 0) tNil)) (gName 1)) (ts := tSt "stands") (Wout := fun _ _ _ _ => False) rfl rfl ⟨rfl, by decide, Or.inl ZS.g⟩ takes0
        (fun W' pn xe tk _ => pss_one (ps_set (i := 1) scTA.nd rfl (Or.inl rfl) (by exact (pcS W hr (by decide) (by rfl) (fun σ => passAt tk σ) (by exact (pa_cons (pv 0) pa_nil))))))
        (fun a oe cls d pn hz hf => pss_one (ps_ret pe_str))) (pss_one (ps_ret (pv 1))), ?_⟩
    refine ⟨v, rfl, v, T, rfl, t, fun n e h1 h2 => ⟨_, rfl, k1 n e h1 h2⟩, fun e => ⟨true, ZS.im, fun _ a ha => k2 e, fun q => Bool.noConfusion q⟩⟩
theorem scTL : FnScope ["_law_v", "_law_lot", "_law_told"] ["_law_v", "_law_lot"] (defScope sTL) := ⟨rfl, rfl, rfl, by decide +kernel, rfl, by decide +kernel, by decide +kernel⟩
theorem ok_tl {f : Addr} {fd : FuncData} {CS CL : Addr} (F : Fun K "_law_told_lot" "_law_told_lot" sTL f fd) (ZS : ErrAt K mg "BadStands" CS) (ZL : ErrAt K mg "BadLot" CL) (hx : PySem.W.exmOne K (.ref CL) (.ref CS) = some false)
    (W : Cal P w K mg base (L2.CX P w) 4 "check_lot" ["v", "lot"] (spCL CS CL)) : FnOk P w K mg base CX0 5 f fd ["_law_v", "_law_lot"] spTL := by
  refine F.ok scTL (fun vs H Q E h => ?_) (fun cdv A outer s H vs Q E hr h => ?_)
  · obtain ⟨v, T, y, U, rfl, _⟩ := h
    rfl
  · obtain ⟨v, T, y, U, rfl, t, u, kS, k⟩ := h
    refine ⟨_, pss_cons (ps_try_many (tb := fun W => tAsg (tCallS (spCL CS CL) (WE W) (tCons (tVar 0) (tCons (tVar 1) tNil))) (gName 2)) (Wout := fun _ _ _ _ => False) (l := [(.ref CS, tSt "stands"), (.ref CL, tSt "lot")]) rfl rfl takes0
        (fun W' pn xe tk _ => pss_one (ps_set (i := 2) scTL.nd rfl (Or.inl rfl) (by exact (pcS W hr (by decide) (by rfl) (fun σ => passAt tk σ) (by exact (pa_cons (pv 0) (pa_cons (pv 1) pa_nil)))))))
        (.cons ⟨rfl, by decide, Or.inl ZS.g⟩ (fun a oe cls d pn hz hf => pss_one (ps_ret pe_str)) (.cons ⟨rfl, by decide, Or.inl ZL.g⟩ (fun a oe cls d pn hz hf => pss_one (ps_ret pe_str)) .nil))) (pss_one (ps_ret (pv 2))), ?_⟩
    refine ⟨v, rfl, y, rfl, v, T, y, U, rfl, t, u, fun e => ⟨true, ZS.im, fun _ a ha => kS e, fun q => Bool.noConfusion q⟩, fun n e h1 h2 => ⟨fun g => ⟨_, rfl, (k n e h1 h2).1 g⟩, fun g => ⟨false, hx, fun q => Bool.noConfusion q, fun _ => ⟨true, ZL.im, fun _ a ha => (k n e h1 h2).2 g, fun q => Bool.noConfusion q⟩⟩⟩⟩
theorem scTLs : FnScope ["_law_v", "_law_lots", "_law_told"] ["_law_v", "_law_lots"] (defScope sTLs) := ⟨rfl, rfl, rfl, by decide +kernel, rfl, by decide +kernel, by decide +kernel⟩
theorem ok_tls {f : Addr} {fd : FuncData} {CS CL : Addr} (F : Fun K "_law_told_lots" "_law_told_lots" sTLs f fd) (ZS : ErrAt K mg "BadStands" CS) (ZL : ErrAt K mg "BadLot" CL) (hx : PySem.W.exmOne K (.ref CL) (.ref CS) = some false)
    (W : Cal P w K mg base (L2.CX P w) 4 "check_lots" ["v", "lots"] (spCLs K CS CL)) : FnOk P w K mg base CX0 5 f fd ["_law_v", "_law_lots"] (spTLs K) := by
  refine F.ok scTLs (fun vs H Q E h => ?_) (fun cdv A outer s H vs Q E hr h => ?_)
  · obtain ⟨v, T, y, rfl, _⟩ := h
    rfl
  · obtain ⟨v, T, y, rfl, t, kS, k⟩ := h
    refine ⟨_, pss_cons (ps_try_many (tb := fun W => tAsg (tCallS (spCLs K CS CL) (WE W) (tCons (tVar 0) (tCons (tVar 1) tNil))) (gName 2)) (Wout := fun _ _ _ _ => False) (l := [(.ref CS, tSt "stands"), (.ref CL, tSt "lot")]) rfl rfl takes0
        (fun W' pn xe tk _ => pss_one (ps_set (i := 2) scTLs.nd rfl (Or.inl rfl) (by exact (pcS W hr (by decide) (by rfl) (fun σ => passAt tk σ) (by exact (pa_cons (pv 0) (pa_cons (pv 1) pa_nil)))))))
        (.cons ⟨rfl, by decide, Or.inl ZS.g⟩ (fun a oe cls d pn hz hf => pss_one (ps_ret pe_str)) (.cons ⟨rfl, by decide, Or.inl ZL.g⟩ (fun a oe cls d pn hz hf => pss_one (ps_ret pe_str)) .nil))) (pss_one (ps_ret (pv 2))), ?_⟩
    refine ⟨v, rfl, y, rfl, v, T, y, rfl, t, fun e => ⟨true, ZS.im, fun _ a ha => kS e, fun q => Bool.noConfusion q⟩, fun n e h1 h2 => ?_⟩
    rcases k n e h1 h2 with ⟨u, kE⟩ | ⟨a, xs, ey, hq, hxs, kT, kE⟩
    · exact .inl ⟨u, fun H' s' => ⟨false, hx, fun q => Bool.noConfusion q, fun _ => ⟨true, ZL.im, fun _ a ha => kE H' s', fun q => Bool.noConfusion q⟩⟩⟩
    · exact .inr ⟨a, xs, ey, hq, hxs, fun l g p H' s' hp => ⟨_, rfl, kT l g p H' s' hp⟩, fun g H' s' => ⟨false, hx, fun q => Bool.noConfusion q, fun _ => ⟨true, ZL.im, fun _ a ha => kE g H' s', fun q => Bool.noConfusion q⟩⟩⟩
theorem scTO : FnScope ["_law_stands", "_law_told"] ["_law_stands"] (defScope sTO) := ⟨rfl, rfl, rfl, by decide +kernel, rfl, by decide +kernel, by decide +kernel⟩
theorem ok_to {f : Addr} {fd : FuncData} {CL : Addr} (F : Fun K "_law_told_of" "_law_told_of" sTO f fd) (ZL : ErrAt K mg "BadLot" CL)
    (W : Cal P w K mg base (L2.CX P w) 2 "lot_of" ["stands"] (spLO K CL)) : FnOk P w K mg base CX0 3 f fd ["_law_stands"] (spTO K) := by
  refine F.ok scTO (fun vs H Q E h => ?_) (fun cdv A outer s H vs Q E hr h => ?_)
  · obtain ⟨y, rfl, _⟩ := h
    rfl
  · obtain ⟨y, rfl, k⟩ := h
    refine ⟨_, pss_cons (ps_try_only (tb := fun W => tAsg (tCallS (spLO K CL) (WE W) (tCons (tVar 0) tNil)) (gName 1)) (ts := tSt "lot") (Wout := fun _ _ _ _ => False) rfl rfl ⟨rfl, by decide, Or.inl ZL.g⟩ takes0
        (fun W' pn xe tk _ => pss_one (ps_set (i := 1) scTO.nd rfl (Or.inl rfl) (by exact (pcS W hr (by decide) (by rfl) (fun σ => passAt tk σ) (by exact (pa_cons (pv 0) pa_nil))))))
        (fun a oe cls d pn hz hf => pss_one (ps_ret pe_str))) (pss_one (ps_ret (pv 1))), ?_⟩
    refine ⟨y, rfl, y, rfl, ?_⟩
    rcases k with ⟨u, kE⟩ | ⟨a, xs, ey, hq, hxs, kT, kE⟩
    · exact .inl ⟨u, fun H' s' => ⟨true, ZL.im, fun _ a ha => kE H' s', fun q => Bool.noConfusion q⟩⟩
    · exact .inr ⟨a, xs, ey, hq, hxs, fun g H' s' => ⟨_, rfl, kT g H' s'⟩, fun g H' s' => ⟨true, ZL.im, fun _ a ha => kE g H' s', fun q => Bool.noConfusion q⟩⟩
theorem scTF : FnScope ["_law_which", "_law_lot", "_law_told"] ["_law_which", "_law_lot"] (defScope sTF) := ⟨rfl, rfl, rfl, by decide +kernel, rfl, by decide +kernel, by decide +kernel⟩
theorem ok_tf {f : Addr} {fd : FuncData} {CL : Addr} (F : Fun K "_law_told_from" "_law_told_from" sTF f fd) (ZL : ErrAt K mg "BadLot" CL)
    (W : Cal P w K mg base (L2.CX P w) 5 "stands_of" ["lot"] (spSO CL)) (W2 : Cal P w K mg base (L2.CX P w) 6 "size_of" ["lot"] (spZO CL)) (W3 : Cal P w K mg base (L2.CX P w) 6 "lot_text" ["lot"] (spLT CL)) : FnOk P w K mg base CX0 7 f fd ["_law_which", "_law_lot"] spTF := by
  refine F.ok scTF (fun vs H Q E h => ?_) (fun cdv A outer s H vs Q E hr h => ?_)
  · obtain ⟨c, y, U, rfl, _⟩ := h
    rfl
  · obtain ⟨c, y, U, rfl, u, kE, k⟩ := h
    refine ⟨_, pss_cons (ps_try_only (tb := fun W => tAsg (tIf (tTest (tOp (rI0 fun i j => .bl (decide (i < j))) (tVar 0) (tC (.int 2)))) (tIf (tTest (tOp rEq (tVar 0) (tC (.int 0)))) (tCallS (spSO CL) (WE W) (tCons (tVar 1) tNil)) (tCallS (spZO CL) (WE W) (tCons (tVar 1) tNil))) (tCallS (spLT CL) (WE W) (tCons (tVar 1) tNil))) (gName 2))
        (ts := tSt "refused") (Wout := fun _ _ _ _ => False) rfl rfl ⟨rfl, by decide, Or.inl ZL.g⟩ takes0
        (fun W' pn xe tk _ => pss_one (ps_set (i := 2) scTF.nd rfl (Or.inl rfl) (by exact (pe_ifExp (pt_cmpR op_lt (pv 0) pe_int (nomark _)) (pe_ifExp (pt_cmpR op_eq (pv 0) pe_int (nomark _)) (pcS W hr (by decide) (by rfl) (fun σ => passAt tk σ) (by exact (pa_cons (pv 1) pa_nil)))
          (pcS W2 hr (by decide) (by rfl) (fun σ => passAt tk σ) (by exact (pa_cons (pv 1) pa_nil)))) (pcS W3 hr (by decide) (by rfl) (fun σ => passAt tk σ) (by exact (pa_cons (pv 1) pa_nil)))))))
        (fun a oe cls d pn hz hf => pss_one (ps_ret pe_str))) (pss_one (ps_ret (pv 2))), ?_⟩
    refine ⟨_, rfl, _, _, rfl, rfl, _, rfl, ?_⟩
    refine iteD (fun h1 => ?_) (fun h1 => ?_)
    · refine ⟨_, rfl, rfl, _, rfl, ?_⟩
      refine iteD (fun h2 => ?_) (fun h2 => ?_)
      · have h2 := V.int.inj h2
        exact ⟨_, rfl, y, U, rfl, u, fun e => ⟨true, ZL.im, fun _ a ha => kE e, fun q => Bool.noConfusion q⟩, fun n e n0 n1 p H' s' hp => ⟨_, rfl, (k n e n0 n1).1 h2 p H' s' hp⟩⟩
      · have h2 : ¬ c = 0 := fun z => h2 (congrArg V.int z)
        exact ⟨_, rfl, y, U, rfl, u, fun e => ⟨true, ZL.im, fun _ a ha => kE e, fun q => Bool.noConfusion q⟩, fun n e n0 n1 H' s' => ⟨_, rfl, (k n e n0 n1).2.1 (by have := (k n e n0 n1).2.2.2; omega) H' s'⟩⟩
    · exact ⟨_, rfl, y, U, rfl, u, fun e => ⟨true, ZL.im, fun _ a ha => kE e, fun q => Bool.noConfusion q⟩, fun n e n0 n1 H' s' => ⟨_, rfl, (k n e n0 n1).2.2.1 (by omega) H' s'⟩⟩
theorem scTW : FnScope ["_law_one", "_law_other", "_law_told"] ["_law_one", "_law_other"] (defScope sTW) := ⟨rfl, rfl, rfl, by decide +kernel, rfl, by decide +kernel, by decide +kernel⟩
theorem ok_tw {f : Addr} {fd : FuncData} {CL : Addr} (F : Fun K "_law_told_within" "_law_told_within" sTW f fd) (ZL : ErrAt K mg "BadLot" CL)
    (W : Cal P w K mg base (L2.CX P w) 5 "is_within" ["one", "other"] (spIW CL)) : FnOk P w K mg base CX0 6 f fd ["_law_one", "_law_other"] spTW := by
  refine F.ok scTW (fun vs H Q E h => ?_) (fun cdv A outer s H vs Q E hr h => ?_)
  · obtain ⟨x, T, y, U, rfl, _⟩ := h
    rfl
  · obtain ⟨x, T, y, U, rfl, t, u, kE, k⟩ := h
    refine ⟨_, pss_cons (ps_try_only (tb := fun W => tAsg (tCallS (spIW CL) (WE W) (tCons (tVar 0) (tCons (tVar 1) tNil))) (gName 2)) (ts := tSt "refused") (Wout := fun _ _ _ _ => False) rfl rfl ⟨rfl, by decide, Or.inl ZL.g⟩ takes0
        (fun W' pn xe tk _ => pss_one (ps_set (i := 2) scTW.nd rfl (Or.inl rfl) (by exact (pcS W hr (by decide) (by rfl) (fun σ => passAt tk σ) (by exact (pa_cons (pv 0) (pa_cons (pv 1) pa_nil)))))))
        (fun a oe cls d pn hz hf => pss_one (ps_ret pe_str))) (pss_one (ps_ret (pv 2))), ?_⟩
    exact ⟨x, rfl, y, rfl, x, T, y, U, rfl, t, u, fun e => ⟨true, ZL.im, fun _ a ha => kE e, fun q => Bool.noConfusion q⟩, fun n m e1 e2 n0 n1 m0 m1 => ⟨_, rfl, k n m e1 e2 n0 n1 m0 m1⟩⟩
end
end Lot

/-! Part K: lists compared. -/
namespace Lot
open PySem PySem.Spec PyProof.Rows L2
theorem Fl.dp (K : PySem.W.Frag) {H : Hp} {v : V} (t : Fl H v) : ∃ d, Dp K H v d ∧ PyData.canLay0 d = true ∧ PyData.depth d ≤ 1 := by
  cases t with
  | non => exact ⟨_, .non, rfl, by simp [PyData.depth]⟩
  | bl b => exact ⟨_, .bl b, rfl, by simp [PyData.depth]⟩
  | int i => exact ⟨_, .int i, rfl, by simp [PyData.depth]⟩
  | str z ok => exact ⟨_, .str z, by simpa [PyData.canLay0] using ok, by simp [PyData.depth]⟩
  | t0 h => exact ⟨_, .tup (.inl (.inl h)) (.cons (.int 0) .nil), by simp [PyData.canLay0, PyData.canLayAll0], by simp [PyData.depth, PyData.depthAll]⟩
theorem fls_dp (K : PySem.W.Frag) {H : Hp} : ∀ {xs : List V}, (∀ x ∈ xs, Fl H x) → ∃ ds, DpAll K H xs ds ∧ PyData.canLayAll0 ds = true ∧ PyData.depthAll ds ≤ 1 ∧ ds.length = xs.length
  | [], _ => ⟨[], .nil, rfl, by simp [PyData.depthAll], rfl⟩
  | x :: xs, h => by
    obtain ⟨d, d1, d2, d3⟩ := (h x (List.mem_cons_self ..)).dp K
    obtain ⟨ds, e1, e2, e3, e4⟩ := fls_dp K (xs := xs) fun y hy => h y (List.mem_cons_of_mem _ hy)
    exact ⟨d :: ds, .cons d1 e1, by simp [PyData.canLayAll0, d2, e2], by simp only [PyData.depthAll]; omega, by simp [e4]⟩
theorem list_dp (K : PySem.W.Frag) {H : Hp} {D : Addr} {xs : List V} (hd : H D = some (.lst xs)) (hf : ∀ x ∈ xs, Fl H x) : ∃ ds, Dp K H (.ref D) (.list ds) ∧ SeqAt.shaped (.list ds) = true ∧ ds.length = xs.length ∧ DpAll K H xs ds := by
  obtain ⟨ds, e1, e2, e3, e4⟩ := fls_dp K hf
  refine ⟨ds, .lst (.inl (.inl hd)) e1, ?_, e4, e1⟩
  unfold SeqAt.shaped
  rw [Bool.and_eq_true, decide_eq_true_eq]
  refine ⟨by simpa [PyData.canLay0] using e2, ?_⟩
  simp only [PyData.depth]
  omega
theorem eqv_nil (ds : List PyData) : PyData.eqv (.list ds) (.list []) = ds.isEmpty := by
  cases ds <;> simp [PyData.eqv, PyData.eqvAll]
theorem isEmpty_len {α β : Type} {xs : List α} {ys : List β} (h : xs.length = ys.length) : xs.isEmpty = ys.isEmpty := by
  cases xs <;> cases ys <;> first | rfl | (simp at h)
/-- a list at D compared with a new empty one -/
theorem r_empty {K : PySem.W.Frag} {H : Hp} {D l : Addr} {xs : List V} {Q : VK} (hd : H D = some (.lst xs)) (hf : ∀ x ∈ xs, Fl H x) (hl : H l = none) (q : Q (.bl xs.isEmpty) (upd H l (.lst []))) : rEqD K (.ref D) (.ref l) (upd H l (.lst [])) Q := by
  have s := same_upd (o := .lst []) hl
  obtain ⟨ds, e1, e2, e3, _⟩ := list_dp K (s _ _ hd) fun x hx => (hf x hx).same s
  refine ⟨.list ds, .list [], e1, .lst (.inl (.inl upd_same)) .nil, e2, by decide +kernel, ?_⟩
  rw [eqv_nil, isEmpty_len e3]
  exact q
theorem r_nempty {K : PySem.W.Frag} {H : Hp} {D l : Addr} {xs : List V} {Q : VK} (hd : H D = some (.lst xs)) (hf : ∀ x ∈ xs, Fl H x) (hl : H l = none) (q : Q (.bl (!xs.isEmpty)) (upd H l (.lst []))) : rNeD K (.ref D) (.ref l) (upd H l (.lst [])) Q := by
  have s := same_upd (o := .lst []) hl
  obtain ⟨ds, e1, e2, e3, _⟩ := list_dp K (s _ _ hd) fun x hx => (hf x hx).same s
  refine ⟨.list ds, .list [], e1, .lst (.inl (.inl upd_same)) .nil, e2, by decide +kernel, ?_⟩
  rw [eqv_nil, isEmpty_len e3]
  exact q
/-- two lists of the same things -/
theorem r_same {K : PySem.W.Frag} {H : Hp} {D l : Addr} {xs : List V} {Q : VK} (hd : H D = some (.lst xs)) (hl : H l = some (.lst xs)) (hf : ∀ x ∈ xs, Fl H x) (q : Q (.bl true) H) : rEqD K (.ref D) (.ref l) H Q := by
  obtain ⟨ds, e1, e2, e3, e4⟩ := list_dp K hd hf
  refine ⟨.list ds, .list ds, e1, .lst (.inl (.inl hl)) e4, e2, e2, ?_⟩
  rw [SeqAt.eqv_refl _ (SeqAt.canLay_of_shaped e2)]
  exact q
theorem r_nsame {K : PySem.W.Frag} {H : Hp} {D l : Addr} {xs : List V} {Q : VK} (hd : H D = some (.lst xs)) (hl : H l = some (.lst xs)) (hf : ∀ x ∈ xs, Fl H x) (q : Q (.bl false) H) : rNeD K (.ref D) (.ref l) H Q := by
  obtain ⟨ds, e1, e2, e3, e4⟩ := list_dp K hd hf
  refine ⟨.list ds, .list ds, e1, .lst (.inl (.inl hl)) e4, e2, e2, ?_⟩
  rw [SeqAt.eqv_refl _ (SeqAt.canLay_of_shaped e2)]
  exact q
theorem filter_more {α : Type} {l : List α} {p : α → Bool} {i : Nat} {x : α} (h : l[i]? = some x) : (l.take (i + 1)).filter p = (l.take i).filter p ++ (if p x then [x] else []) := by
  rw [take_more h, List.filter_append]
  cases e : p x <;> simp [List.filter_cons, e]
theorem filter_empty {α : Type} (p : α → Bool) : ∀ l : List α, (l.filter fun x => !p x).isEmpty = l.all p
  | [] => rfl
  | x :: l => by
    have ih := filter_empty p l
    cases e : p x <;> simp [List.filter_cons, e, ih]
theorem good_ints {lo hi : Int} : ∀ {xs : List V}, good lo hi xs = true → ∃ ns : List Int, xs = ns.map V.int ∧ ∀ n ∈ ns, lo ≤ n ∧ n ≤ hi
  | [], _ => ⟨[], rfl, fun _ h => by cases h⟩
  | x :: xs, h => by
    have h' : whB x (some lo) (some hi) = true ∧ good lo hi xs = true := by simpa [good] using h
    obtain ⟨i, rfl, a, b⟩ := whB_int h'.1
    obtain ⟨ns, rfl, q⟩ := good_ints h'.2
    refine ⟨i :: ns, rfl, fun n hn => ?_⟩
    rcases List.mem_cons.mp hn with rfl | hn
    · exact ⟨a, b⟩
    · exact q n hn
/-- what _law_exact promises -/
def spX : Sp := fun vs H Q E => spX1 vs H Q E ∨ spX2 vs H Q E
theorem ok_x {P : Program} {w : World} {K : PySem.W.Frag} {mg : Str → Option Value} {base : Heap} {f : Addr} {fd : FuncData} {k : Nat} {ps : List Str} (F : FnOk P w K mg base CX0 k f fd ps spX1) (G : FnOk P w K mg base CX0 k f fd ps spX2) : FnOk P w K mg base CX0 k f fd ps spX :=
  ⟨fun vs H Q E h => h.elim (F.len vs H Q E) (G.len vs H Q E), fun A outer s H args us vs Q E hr he hb hv h => h.elim (F.run A outer s H args us vs Q E hr he hb hv) (G.run A outer s H args us vs Q E hr he hb hv)⟩
end Lot

/-! Part L: _law_lots_right. -/
namespace Lot
open PySem PySem.Spec PyProof.Rows L2
abbrev sLR : Stmt := top 35
def spLR : Sp := fun vs H Q _ => ∃ (h c : Addr) (n : Int) (g : Bool), vs = [.ref h, .int n, .bl g] ∧ HandAt H h c ∧ 1 ≤ n ∧ n ≤ 6 ∧ ∀ H', HandAt H' h c → Kp h H H' → Q (.bl true) H'
def nLR : List Str := ["_law_hand_here", "_law_v", "_law_good_here", "_law_things", "_law_whole", "_law_due", "_law_passed", "_law_k", "_law_thing_here"]
section
variable {P : Program} {w : World} {K : PySem.W.Frag} {mg : Str → Option Value} {base : Heap}
theorem scLR : FnScope ["_law_hand_here", "_law_v", "_law_good_here", "_law_things", "_law_whole", "_law_due", "_law_passed", "_law_k", "_law_thing_here"] ["_law_hand_here", "_law_v", "_law_good_here"] (defScope sLR) := ⟨rfl, rfl, rfl, by decide +kernel, rfl, by decide +kernel, by decide +kernel⟩
theorem ok_lr {f : Addr} {fd : FuncData} (F : Fun K "_law_lots_right" "_law_lots_right" sLR f fd) (B : Bt mg) (Wt : Cal P w K mg base CX0 2 "_law_take" ["_law_hand_here", "_law_many"] spTk) (Wh : Cal P w K mg base CX0 4 "_law_thing" ["_law_hand_here", "_law_v"] spTh)
    (Wg : Cal P w K mg base CX0 2 "_law_good" ["_law_v", "_law_lot"] spGd) (Wl : Cal P w K mg base CX0 3 "_law_list" ["_law_hand_here", "_law_items"] spLs) (Wx : Cal P w K mg base CX0 3 "_law_exact" ["_law_told", "_law_due"] spX)
    (Wo : Cal P w K mg base CX0 5 "_law_told_lots" ["_law_v", "_law_lots"] (spTLs K)) : FnOk P w K mg base CX0 6 f fd ["_law_hand_here", "_law_v", "_law_good_here"] spLR := by
  refine F.ok scLR (fun vs H Q E h => ?_) (fun cdv A outer s H vs Q E hr h => ?_)
  · obtain ⟨h, c, n, g, rfl, _⟩ := h
    rfl
  · obtain ⟨h, c, n, g, rfl, hd, n0, n1, k⟩ := h
    refine ⟨_, pss_cons (ps_setLc (i := 3) (own := [("_law_k", 7)]) (g := gName 7) (tt := tYes) (by rfl) scLR.nd rfl rfl (sw_true rfl rfl rfl (by decide +kernel)) (pi_range1 (by rfl) B.range (pa_cons (pc Wt hr (by decide) (by rfl) pass0 (pa_cons (pv 0) (pa_cons pe_int pa_nil))) pa_nil))
        (blkOk_by (own := [("_law_k", 7)]) (N := nLR) (sc := defScope sLR) (by decide +kernel)) (fun _ _ _ _ _ => pg_name (i := 7) scLR.nd rfl (Or.inl rfl)) (fun _ _ _ _ _ => pts_nil) (fun _ _ _ _ _ => pc Wh hr (by decide) (by rfl) pass0 (pa_cons (pv 0) (pa_cons (pv 1) pa_nil))))
      (Evl.pss_cut (ps_if (pt_cmpR op_eq (pc Wt hr (by decide) (by rfl) pass0 (pa_cons (pv 0) (pa_cons pe_int pa_nil))) pe_int (nomark _)) (pss_one (ps_set (i := 3) scLR.nd rfl (Or.inl rfl) (pe_op op_cat (pv 3) (pe_lc (own := [("_law_k", 7)]) (g := gName 7) (tt := tYes) (by rfl) scLR.nd (pi_range1 (by rfl) B.range (pa_cons pe_int pa_nil))
        (blkOk_by (own := [("_law_k", 7)]) (N := nLR) (sc := defScope sLR) (by decide +kernel)) (fun _ _ _ _ _ => pg_name (i := 7) scLR.nd rfl (Or.inl rfl)) (fun _ _ _ _ _ => pts_nil) (fun _ _ _ _ _ => pe_int))))) pss_nil)
      (Evl.pss_cut (ps_set (i := 4) scLR.nd rfl (Or.inl rfl) (pe_and (pe_cmpR op_le (pe_callB call_len (by rfl) B.len PySem.boot_len (pa_cons (pv 3) pa_nil)) pe_int (nomark _)) (pe_one (pe_cmpR (op_eqD hr.units) (pe_lc (own := [("_law_thing_here", 8)]) (g := gName 8) (by rfl) scLR.nd (pi_list (pv 3))
        (blkOk_by (own := [("_law_thing_here", 8)]) (N := nLR) (sc := defScope sLR) (by decide +kernel)) (fun _ _ _ _ _ => pg_name (i := 8) scLR.nd rfl (Or.inl rfl)) (fun _ _ _ _ _ => pts_one (pt_not (pt_val (pc Wg hr (by decide) (by rfl) pass0 (pa_cons (pv 1) (pa_cons (pv 8) pa_nil)))))) (fun _ _ _ _ _ => pv 8)) (pe_lst pa_nil) (nomark _)))))
      (Evl.pss_cut (ps_set (i := 5) scLR.nd rfl (Or.inl rfl) (pe_ifExp (pt_not (pt_val (pv 2))) pe_str (pe_ifExp (pt_val (pv 4)) (pe_callTy call_tuple_of (by rfl) B.tuple (by decide +kernel) (pa_cons (pv 3) pa_nil)) pe_str)))
      (pss_cons (ps_set (i := 6) scLR.nd rfl (Or.inl rfl) (pc Wl hr (by decide) (by rfl) pass0 (pa_cons (pv 0) (pa_cons (pv 3) pa_nil))))
      (pss_one (ps_ret (pe_and (pc Wx hr (by decide) (by rfl) pass0 (pa_cons (pc Wo hr (by decide) (by rfl) pass0 (pa_cons (pe_ifExp (pt_val (pv 2)) (pv 1) pe_int) (pa_cons (pv 6) pa_nil))) (pa_cons (pv 5) pa_nil)))
        (pe_one (pe_cmpR (op_eqD hr.units) (pe_callTy call_list_of (by rfl) B.list (by decide +kernel) (pa_cons (pv 6) pa_nil)) (pv 3) (nomark _)))))))))), ?_⟩
    -- the things
    refine ⟨_, rfl, h, c, 4, rfl, by decide, by decide, hd, fun r H1 r0 r1 hd1 kp1 => ⟨r, rfl, by omega, by omega, fun D hD => ?_⟩⟩
    have hDh := hd1.fresh hD
    have hDc := hd1.freshC hD
    refine lc_range (lo := 0) (n := r.toNat) (fun i H' => ∃ xs, H' D = some (.lst xs) ∧ xs.length = i ∧ (∀ x ∈ xs, Fl H' x) ∧ HandAt H' h c ∧ Kp h H1 H') ⟨[], upd_same, rfl, (fun x h => by cases h), hd1.updO hDh hDc, (Kp.refl h H1).updO hD⟩ ?_ ?_
    · rintro i H' hi ⟨xs, ex, xl, xf, hd', kp'⟩
      refine ⟨rfl, ?_⟩
      refine ⟨_, rfl, _, rfl, h, c, n, rfl, hd', n0, n1, fun v H2 hd2 kp2 fl => ⟨xs, kp2 _ _ ex hDh, Nat.lt_of_le_of_lt (by omega : xs.length ≤ 1000) (by decide), xs ++ [v], upd_same, by rw [List.length_append, xl]; rfl, ?_, hd2.updO hDh hDc, (kp'.trans kp2).updO hD⟩⟩
      intro x hx
      rcases List.mem_append.mp hx with hx | hx
      · exact Fl.updL (kp2 _ _ ex hDh) ((xf x hx).kp hd' kp2)
      · rw [List.mem_singleton] at hx
        subst hx
        exact Fl.updL (kp2 _ _ ex hDh) fl
    rintro H2 ⟨xs, ex, xl, xf, hd2, kp2⟩
    -- more of them
    refine ⟨fun σ' H' => ∃ (D : Addr) (xs : List V), σ' = [some (.ref h), some (.int n), some (.bl g), some (.ref D), none, none, none, none, none] ∧ H' D = some (.lst xs) ∧ xs.length ≤ 65 ∧ (∀ x ∈ xs, Fl H' x) ∧ HandAt H' h c ∧ Kp h H H' ∧ D ≠ h, ?_, ?_⟩
    · refine ⟨_, rfl, h, c, 8, rfl, by decide, by decide, hd2, fun r' H3 _ _ hd3 kp3 => ⟨rfl, _, rfl, ?_⟩⟩
      have ex3 := kp3 _ _ ex hDh
      have xf3 : ∀ x ∈ xs, Fl H3 x := fun x hx => (xf x hx).kp hd2 kp3
      have kpA := (kp1.trans kp2).trans kp3
      refine iteD (fun _ => ?_) (fun _ => ⟨D, xs, rfl, ex3, by omega, xf3, hd3, kpA, hDh⟩)
      refine ⟨_, rfl, 62, rfl, by decide, by decide, fun D2 hD2 => ?_⟩
      refine lc_range (lo := 0) (n := 62) (fun i H' => H' D2 = some (.lst (List.replicate i (.int 0))) ∧ Same H3 H') ⟨upd_same, same_upd hD2⟩ ?_ ?_
      · rintro i H' hi ⟨e2, s'⟩
        refine ⟨rfl, ?_⟩
        refine ⟨_, e2, ?_, ?_, same_updD s' hD2⟩
        · rw [List.length_replicate]
          exact small1000 (by omega)
        · rw [upd_same, List.replicate_succ']
      · rintro H4 ⟨e2, s4⟩
        refine ⟨D, D2, xs, List.replicate 62 (.int 0), rfl, rfl, s4 _ _ ex3, e2, ?_, fun p hp => ?_⟩
        · rw [List.length_replicate]
          exact sz _ (by omega)
        · have s5 := same_upd' (o := .lst (xs ++ List.replicate 62 (.int 0))) s4 hp
          refine ⟨p, _, rfl, upd_same, ?_, ?_, hd3.same s5, kpA.same s5, (hd3.same s4).fresh hp⟩
          · rw [List.length_append, List.length_replicate]
            omega
          · intro x hx
            rcases List.mem_append.mp hx with hx | hx
            · exact (xf3 x hx).same s5
            · rw [List.eq_of_mem_replicate hx]
              exact .int 0
    rintro σ' H3 ⟨D, xs, rfl, ex, xl, xf, hd3, kp3, hDh⟩
    -- are they whole
    refine ⟨fun σ' H' => σ' = [some (.ref h), some (.int n), some (.bl g), some (.ref D), some (.bl (decide (xs.length ≤ 64) && good 0 (evI n) xs)), none, none, none, none] ∧ Same H3 H', ?_, ?_⟩
    · refine ⟨_, rfl, _, xs.length, rfl, .inl ⟨xs, .inl (.inl ex), rfl⟩, _, _, rfl, rfl, _, rfl, ?_⟩
      refine iteD (fun hl => ?_) (fun hl => ?_)
      · have hl' : decide (xs.length ≤ 64) = true := decide_eq_true (by omega)
        refine ⟨_, rfl, D, rfl, ⟨xs, .inl (.inl ex)⟩, fun D2 hD2 => ?_⟩
        refine lc_list (K := K) (a := D) (xs := xs) (fun i H' => H' D2 = some (.lst ((xs.take i).filter fun x => !whB x (some 0) (some (evI n)))) ∧ Same H3 H') ⟨upd_same, same_upd hD2⟩ (fun i H' _ q => .inl (.inl (q.2 _ _ ex))) ?_ ?_
        · rintro i x H' hi ⟨e2, s'⟩
          have fx := (xf x (mem_of_get hi)).same s'
          obtain ⟨U, u⟩ := fx.th
          refine ⟨rfl, _, rfl, _, rfl, n, x, U, rfl, u, by omega, by omega, _, rfl, ?_⟩
          have fm := filter_more (p := fun x => !whB x (some 0) (some (evI n))) hi
          cases e : whB x (some 0) (some (evI n)) with
          | true =>
            refine iteF ⟨?_, s'⟩
            rw [fm, e2]
            simp [e]
          | false =>
            refine iteT ⟨_, rfl, _, e2, ?_, ?_, same_updD s' hD2⟩
            · refine Nat.lt_of_le_of_lt (List.length_filter_le _ _) (Nat.lt_of_le_of_lt (List.length_take_le' _ _) (small1000 (by omega)))
            · rw [upd_same, fm]
              simp [e]
        · rintro H4 ⟨e2, s4⟩
          rw [List.take_length] at e2
          refine ⟨sz 0, fun l hl2 => ?_⟩
          refine r_empty e2 (fun x hx => (xf x (List.mem_filter.mp hx).1).same s4) hl2 ?_
          rw [filter_empty]
          exact ⟨by rw [hl']; rfl, same_upd' s4 hl2⟩
      · have hl' : decide (xs.length ≤ 64) = false := decide_eq_false (by omega)
        exact ⟨by rw [hl']; rfl, Same.refl _⟩
    rintro σ' H4 ⟨rfl, s4⟩
    have ex4 := s4 _ _ ex
    have xf4 : ∀ x ∈ xs, Fl H4 x := fun x hx => (xf x hx).same s4
    have hd4 := hd3.same s4
    have kp4 := kp3.same s4
    generalize hb : (decide (xs.length ≤ 64) && good 0 (evI n) xs) = b
    -- what is due
    refine ⟨fun σ' H' => ∃ dv : V, σ' = [some (.ref h), some (.int n), some (.bl g), some (.ref D), some (.bl b), some dv, none, none, none] ∧ Same H4 H' ∧
      ((g = false ∧ dv = .str "stands") ∨ (g = true ∧ b = true ∧ ∃ l, dv = .ref l ∧ H' l = some (.tup xs)) ∨ (g = true ∧ b = false ∧ dv = .str "lot")), ?_, ?_⟩
    · refine ⟨_, rfl, _, rfl, ?_⟩
      cases g with
      | false => exact iteT ⟨_, rfl, Same.refl _, .inl ⟨rfl, rfl⟩⟩
      | true =>
        refine iteF ⟨_, rfl, _, rfl, ?_⟩
        cases b with
        | true => exact iteT ⟨_, rfl, D, xs, rfl, .inl ⟨.inl (.inl ex4), fun l hl => ⟨_, rfl, same_upd hl, .inr (.inl ⟨rfl, rfl, l, rfl, upd_same⟩)⟩⟩⟩
        | false => exact iteF ⟨_, rfl, Same.refl _, .inr (.inr ⟨rfl, rfl, rfl⟩)⟩
    rintro σ' H5 ⟨dv, rfl, s5, due⟩
    have hd5 := hd4.same s5
    -- as a list or a tuple
    refine ⟨_, rfl, _, rfl, h, c, D, xs, rfl, hd5, s5 _ _ ex4, hDh, fun p H6 hd6 kp6 hph hp => ?_⟩
    have kpA : Kp h H H6 := (kp4.same s5).trans kp6
    have ex6 := kp6 _ _ (s5 _ _ ex4) hDh
    have xf6 : ∀ x ∈ xs, Fl H6 x := fun x hx => ((xf4 x hx).same s5).kp hd5 kp6
    have sq : ∀ {H7 : Hp}, Same H6 H7 → SqL K H7 p xs ∨ SqT K H7 p xs := fun s7 => hp.elim (fun e => .inl (.inl (.inl (s7 _ _ e)))) (fun e => .inr (.inl (.inl (s7 _ _ e))))
    have last : ∀ {H7 : Hp} {l2 : Addr}, Same H6 H7 → H7 l2 = none → rEqD K (.ref l2) (.ref D) (upd H7 l2 (.lst xs)) Q := fun {H7 l2} s7 hl2 => by
      have s8 := same_upd' (o := .lst xs) s7 hl2
      exact r_same upd_same (s8 _ _ ex6) (fun x hx => (xf6 x hx).same s8) (k _ (hd6.same s8) (kpA.same s8))
    refine ⟨_, rfl, _, rfl, ?_⟩
    rcases due with ⟨rfl, rfl⟩ | ⟨rfl, rfl, l, rfl, el⟩ | ⟨rfl, rfl, rfl⟩
    · refine iteF ⟨_, rfl, .int 7, "int", .ref p, rfl, .int 7, fun _ => ?_, fun n' e h1 h2 => ?_⟩
      · refine ⟨_, rfl, .inl ⟨.str "stands", rfl, rfl, _, rfl, iteT ?_⟩⟩
        exact ⟨_, rfl, p, xs, rfl, sq (Same.refl _), fun l2 hl2 => ⟨_, rfl, last (Same.refl _) hl2⟩⟩
      · have := V.int.inj e
        omega
    all_goals
      refine iteT ⟨_, rfl, _, rfl, .int n, "int", .ref p, rfl, .int n, fun e => ?_, fun n' e h1 h2 => .inr ⟨p, xs, rfl, hp, fun x hx => (xf6 x hx).th, fun hl hg p' H7 s7 hp' => ?_, fun hg H7 s7 => ?_⟩⟩
    · rw [whB_of n0 n1] at e
      cases e
    · obtain ⟨ns, rfl, _⟩ := good_ints hg
      rw [List.length_map] at hl
      refine ⟨_, rfl, .inr ⟨p', l, ns, rfl, hp', s7 _ _ (kp6 _ _ el (hd5.not_tup el)), by omega, fun H8 s8 => ⟨_, rfl, iteT ?_⟩⟩⟩
      exact ⟨_, rfl, p, _, rfl, sq (s7.trans s8), fun l2 hl2 => ⟨_, rfl, last (s7.trans s8) hl2⟩⟩
    · cases V.int.inj e
      rw [Bool.and_eq_true, decide_eq_true_eq] at hb
      exact absurd hb hg
    · rw [whB_of n0 n1] at e
      cases e
    · cases V.int.inj e
      rw [hg, decide_eq_true hl] at hb
      cases hb
    · refine ⟨_, rfl, .inl ⟨.str "lot", rfl, rfl, _, rfl, iteT ?_⟩⟩
      exact ⟨_, rfl, p, xs, rfl, sq s7, fun l2 hl2 => ⟨_, rfl, last s7 hl2⟩⟩
end
end Lot

/-! Part M: _law_stands_right. -/
namespace Lot
open PySem PySem.Spec PyProof.Rows L2
abbrev sSR : Stmt := top 36
def spHR : Sp := fun vs H Q _ => ∃ h c : Addr, vs = [.ref h] ∧ HandAt H h c ∧ ∀ H', HandAt H' h c → Kp h H H' → Q (.bl true) H'
def nSR : List Str := ["_law_hand_here", "_law_pool", "_law_stands", "_law_s", "_law_right", "_law_due", "_law_passed", "_law_k"]
def pool : List V := [.int 0, .int 1, .int 2, .int 3, .int 4, .int 5, .int 0, .int 5, .int 6, .bl true, .non, .int (-1), .str "0", .int 3]
theorem pool_at {r : Int} (h0 : 0 ≤ r) (h1 : r < 14) : ∃ v, atI pool r = some v ∧ ∀ H, Fl H v := by
  have : r = 0 ∨ r = 1 ∨ r = 2 ∨ r = 3 ∨ r = 4 ∨ r = 5 ∨ r = 6 ∨ r = 7 ∨ r = 8 ∨ r = 9 ∨ r = 10 ∨ r = 11 ∨ r = 12 ∨ r = 13 := by omega
  rcases this with rfl | rfl | rfl | rfl | rfl | rfl | rfl | rfl | rfl | rfl | rfl | rfl | rfl | rfl <;>
    first
      | exact ⟨_, rfl, fun _ => .int _⟩
      | exact ⟨_, rfl, fun _ => .bl _⟩
      | exact ⟨_, rfl, fun _ => .non⟩
      | exact ⟨_, rfl, fun _ => .str _ (by decide +kernel)⟩
def manys : List V := [.int 0, .int 1, .int 2, .int 3, .int 4, .int 5, .int 9, .int 70]
theorem manys_at {r : Int} (h0 : 0 ≤ r) (h1 : r < 8) : ∃ j : Int, atI manys r = some (.int j) ∧ 0 ≤ j ∧ j ≤ 70 := by
  have : r = 0 ∨ r = 1 ∨ r = 2 ∨ r = 3 ∨ r = 4 ∨ r = 5 ∨ r = 6 ∨ r = 7 := by omega
  rcases this with rfl | rfl | rfl | rfl | rfl | rfl | rfl | rfl <;> exact ⟨_, rfl, by decide, by decide⟩
def odds : List V := [.non, .str "01", .int 3, .bl true]
theorem odds_at {r : Int} (h0 : 0 ≤ r) (h1 : r < 4) : ∃ v, atI odds r = some v ∧ ∀ H, ∃ U, Th H v U ∧ sqn U = false := by
  have : r = 0 ∨ r = 1 ∨ r = 2 ∨ r = 3 := by omega
  rcases this with rfl | rfl | rfl | rfl
  · exact ⟨_, rfl, fun _ => ⟨_, .non, rfl⟩⟩
  · exact ⟨_, rfl, fun _ => ⟨_, .str _, rfl⟩⟩
  · exact ⟨_, rfl, fun _ => ⟨_, .int _, rfl⟩⟩
  · exact ⟨_, rfl, fun _ => ⟨_, .bl _, rfl⟩⟩
theorem or_nat : ∀ d : Nat, d < 64 → ∀ s : Nat, s < 6 → Builtin.bitOr (d : Int) (1 * 2 ^ s) = (if ((d : Int) / 2 ^ s) % 2 = 0 then (d : Int) + 1 * 2 ^ s else d) ∧ 0 ≤ Builtin.bitOr (d : Int) (1 * 2 ^ s) ∧ Builtin.bitOr (d : Int) (1 * 2 ^ s) < 64 := by decide +kernel
theorem or_bit {d s : Int} (d0 : 0 ≤ d) (d1 : d < 64) (s0 : 0 ≤ s) (s1 : s ≤ 5) : Builtin.bitOr d (1 * 2 ^ s.toNat) = (if (d / 2 ^ s.toNat) % 2 = 0 then d + 1 * 2 ^ s.toNat else d) ∧ 0 ≤ Builtin.bitOr d (1 * 2 ^ s.toNat) ∧ Builtin.bitOr d (1 * 2 ^ s.toNat) < 64 := by
  obtain ⟨m, rfl⟩ := Int.eq_ofNat_of_zero_le d0
  exact or_nat m (by omega) s.toNat (by omega)
theorem good_take {lo hi : Int} {xs : List V} {i : Nat} {x : V} (g : good lo hi xs = true) (h : xs[i]? = some x) : whB x (some lo) (some hi) = true := List.all_eq_true.mp g x (mem_of_get h)
section
variable {P : Program} {w : World} {K : PySem.W.Frag} {mg : Str → Option Value} {base : Heap}
theorem scSR : FnScope ["_law_hand_here", "_law_pool", "_law_stands", "_law_s", "_law_right", "_law_due", "_law_passed", "_law_k"] ["_law_hand_here"] (defScope sSR) := ⟨rfl, rfl, rfl, by decide +kernel, rfl, by decide +kernel, by decide +kernel⟩
theorem ok_sr {f : Addr} {fd : FuncData} (F : Fun K "_law_stands_right" "_law_stands_right" sSR f fd) (B : Bt mg) (Wt : Cal P w K mg base CX0 2 "_law_take" ["_law_hand_here", "_law_many"] spTk) (Wi : Cal P w K mg base CX0 1 "_law_int" ["_law_thing_here"] spIn)
    (Wl : Cal P w K mg base CX0 3 "_law_list" ["_law_hand_here", "_law_items"] spLs) (Wx : Cal P w K mg base CX0 3 "_law_exact" ["_law_told", "_law_due"] spX)
    (Wo : Cal P w K mg base CX0 3 "_law_told_of" ["_law_stands"] (spTO K)) : FnOk P w K mg base CX0 4 f fd ["_law_hand_here"] spHR := by
  refine F.ok scSR (fun vs H Q E h => ?_) (fun cdv A outer s H vs Q E hr h => ?_)
  · obtain ⟨h, c, rfl, _⟩ := h
    rfl
  · obtain ⟨h, c, rfl, hd, k⟩ := h
    refine ⟨_, pss_cons (ps_set (i := 1) scSR.nd rfl (Or.inr rfl) (pe_lst (pa_cons pe_int (pa_cons pe_int (pa_cons pe_int (pa_cons pe_int (pa_cons pe_int (pa_cons pe_int (pa_cons pe_int (pa_cons pe_int (pa_cons pe_int (pa_cons pe_bl (pa_cons pe_non (pa_cons (pe_un un_neg pe_int) (pa_cons pe_str (pa_cons pe_int pa_nil))))))))))))))))
      (pss_cons (ps_setLc (i := 2) (own := [("_law_k", 7)]) (g := gName 7) (tt := tYes) (by rfl) scSR.nd rfl rfl (sw_true rfl rfl rfl (by decide +kernel)) (pi_range1 (by rfl) B.range (pa_cons (pe_ix ix_tup (pe_tup (pa_cons pe_int (pa_cons pe_int (pa_cons pe_int (pa_cons pe_int (pa_cons pe_int (pa_cons pe_int (pa_cons pe_int (pa_cons pe_int pa_nil))))))))) (pc Wt hr (by decide) (by rfl) pass0 (pa_cons (pv 0) (pa_cons pe_int pa_nil))) (fun _ _ => rfl)) pa_nil))
        (blkOk_by (own := [("_law_k", 7)]) (N := nSR) (sc := defScope sSR) (by decide +kernel)) (fun _ _ _ _ _ => pg_name (i := 7) scSR.nd rfl (Or.inl rfl)) (fun _ _ _ _ _ => pts_nil)
        (fun _ _ _ _ _ => pe_ix (show IxR _ (rIxL K) from ix_list) (pv 1) (pc Wt hr (by decide) (by rfl) pass0 (pa_cons (pv 0) (pa_cons (pe_ifExp (pt_cmpR op_lt (pv 7) pe_int (nomark _)) pe_int (pe_callB (show CallR _ _ (fun xs H Q => ∃ x n, xs = [x] ∧ LenV K x H n ∧ Q (.int n) H) from call_len) (by rfl) B.len PySem.boot_len (pa_cons (pv 1) pa_nil))) pa_nil))) (fun _ _ => rfl)))
      (pss_cons (ps_set (i := 4) scSR.nd rfl (Or.inl rfl) (pe_cmpR (op_eqD hr.units) (pe_lc (own := [("_law_s", 3)]) (g := gName 3) (by rfl) scSR.nd (pi_list (pv 2))
        (blkOk_by (own := [("_law_s", 3)]) (N := nSR) (sc := defScope sSR) (by decide +kernel)) (fun _ _ _ _ _ => pg_name (i := 3) scSR.nd rfl (Or.inl rfl)) (fun _ _ _ _ _ => pts_one (PW.pt (pw_or (pt_not (pt_val (pc Wi hr (by decide) (by rfl) pass0 (pa_cons (pv 3) pa_nil)))) (pw_or (pt_cmpR op_lt (pv 3) pe_int (nomark _)) (pw_or1 (pt_cmpR op_gt (pv 3) pe_int (nomark _))))))) (fun _ _ _ _ _ => pv 3)) (pe_lst pa_nil) (nomark _)))
      (pss_cons (ps_set (i := 5) scSR.nd rfl (Or.inl rfl) pe_int)
      (pss_cons (ps_for PassesOwn.never rfl (pi_list (pv 2)) (pg_name (i := 3) scSR.nd rfl (Or.inl rfl))
        (pss_one (ps_if (PW.pt (pw_and (pt_val (pv 4)) (pw_and1 (pt_cmpR op_eq (pe_op op_mod (pe_callTy call_int1 (by rfl) B.int (by decide +kernel) (pa_cons (pe_op op_shr (pv 5) (pv 3)) pa_nil)) pe_int) pe_int (nomark _)))))
          (pss_one (ps_set (i := 5) scSR.nd rfl (Or.inl rfl) (pe_op op_add (pv 5) (pe_op op_shl pe_int (pv 3))))) pss_nil)))
      (pss_cons (ps_set (i := 6) scSR.nd rfl (Or.inl rfl) (pc Wl hr (by decide) (by rfl) pass0 (pa_cons (pv 0) (pa_cons (pv 2) pa_nil))))
      (Evl.pss_cut (ps_if (PW.pt (pw_or (pt_not (pt_val (pc Wx hr (by decide) (by rfl) pass0 (pa_cons (pc Wo hr (by decide) (by rfl) pass0 (pa_cons (pv 6) pa_nil)) (pa_cons (pe_ifExp (pt_val (pv 4)) (pv 5) pe_str) pa_nil)))))
          (pw_or1 (pt_cmpR (op_neD hr.units) (pe_callTy call_list_of (by rfl) B.list (by decide +kernel) (pa_cons (pv 6) pa_nil)) (pv 2) (nomark _))))) (pss_one (ps_ret pe_bl)) pss_nil)
      (pss_one (ps_ret (pe_cmpR op_eq (pc Wo hr (by decide) (by rfl) pass0 (pa_cons (pe_ix ix_tup (pe_tup (pa_cons pe_non (pa_cons pe_str (pa_cons pe_int (pa_cons pe_bl pa_nil))))) (pc Wt hr (by decide) (by rfl) pass0 (pa_cons (pv 0) (pa_cons pe_int pa_nil))) (fun _ _ => rfl)) pa_nil)) pe_str (nomark _)))))))))), ?_⟩
    -- the pool
    refine ⟨_, rfl, sz 14, fun pp hpp => ?_⟩
    have s1 := same_upd (o := .lst pool) hpp
    have epp : (upd H pp (.lst pool)) pp = some (.lst pool) := upd_same
    have hd1 := hd.same s1
    have pph := hd.fresh hpp
    -- how many
    refine ⟨sz 8, fun pm hpm => ?_⟩
    have s2 := same_upd' (o := .tup manys) s1 hpm
    have hd2 := hd.same s2
    refine ⟨_, rfl, h, c, 8, rfl, by decide, by decide, hd2, fun r H1 r0 r1 hdA kpA => ?_⟩
    obtain ⟨j, hj, j0, j1⟩ := manys_at r0 r1
    have ppA : H1 pp = some (.lst pool) := kpA _ _ ((same_upd hpm) _ _ epp) pph
    have kp1 : Kp h H H1 := (Same.kp s2 h).trans kpA
    refine ⟨pm, _, r, _, rfl, rfl, .inl (.inl (kpA _ _ upd_same (hd1.fresh hpm))), hj, j, rfl, by omega, by omega, fun D hD => ?_⟩
    have hDh := hdA.fresh hD
    have hDc := hdA.freshC hD
    refine lc_range (lo := 0) (n := j.toNat) (fun i H' => ∃ xs, H' D = some (.lst xs) ∧ xs.length = i ∧ (∀ x ∈ xs, Fl H' x) ∧ HandAt H' h c ∧ Kp h H1 H') ⟨[], upd_same, rfl, (fun x h => by cases h), hdA.updO hDh hDc, (Kp.refl h H1).updO hD⟩ ?_ ?_
    · rintro i H' hi ⟨xs, ex, xl, xf, hd', kp'⟩
      have pp' : H' pp = some (.lst pool) := kp' _ _ ppA pph
      refine ⟨rfl, ?_⟩
      have tail : ∀ (r' : Int) (H2 : Hp), 0 ≤ r' → r' < 14 → HandAt H2 h c → Kp h H' H2 → rIxL K (.ref pp) (.int r') H2 (fun y H4 => ∃ acc, H4 D = some (.lst acc) ∧ acc.length < sizeLine ∧
          ∃ xs, (upd H4 D (.lst (acc ++ [y]))) D = some (.lst xs) ∧ xs.length = i + 1 ∧ (∀ x ∈ xs, Fl (upd H4 D (.lst (acc ++ [y]))) x) ∧ HandAt (upd H4 D (.lst (acc ++ [y]))) h c ∧ Kp h H1 (upd H4 D (.lst (acc ++ [y])))) := fun r' H2 a0 a1 hd2 kp2 => by
        obtain ⟨v, hv, fl⟩ := pool_at a0 a1
        refine ⟨pp, pool, r', v, rfl, rfl, .inl (.inl (kp2 _ _ pp' pph)), hv, xs, kp2 _ _ ex hDh, small1000 (by omega), xs ++ [v], upd_same, by rw [List.length_append, xl]; rfl, ?_, hd2.updO hDh hDc, (kp'.trans kp2).updO hD⟩
        intro x hx
        rcases List.mem_append.mp hx with hx | hx
        · exact Fl.updL (kp2 _ _ ex hDh) ((xf x hx).kp hd' kp2)
        · rw [List.mem_singleton] at hx
          subst hx
          exact fl _
      refine ⟨_, rfl, _, rfl, _, rfl, _, _, rfl, rfl, _, rfl, ?_⟩
      refine iteD (fun _ => ?_) (fun _ => ?_)
      · exact ⟨h, c, 8, rfl, by decide, by decide, hd', fun r' H2 a0 a1 hd2 kp2 => tail r' H2 a0 (by omega) hd2 kp2⟩
      · exact ⟨_, rfl, _, 14, rfl, .inl ⟨pool, .inl (.inl pp'), rfl⟩, h, c, 14, rfl, by decide, by decide, hd', fun r' H2 a0 a1 hd2 kp2 => tail r' H2 a0 a1 hd2 kp2⟩
    rintro H2 ⟨xs, ex, xl, xf, hd2, kp2⟩
    have xl' : xs.length ≤ 70 := by omega
    have kp3 : Kp h H H2 := kp1.trans kp2
    -- are they right
    refine ⟨_, rfl, D, rfl, ⟨xs, .inl (.inl ex)⟩, fun D2 hD2 => ?_⟩
    refine lc_list (K := K) (a := D) (xs := xs) (fun i H' => H' D2 = some (.lst ((xs.take i).filter fun x => !whB x (some 0) (some 5))) ∧ Same H2 H') ⟨upd_same, same_upd hD2⟩ (fun i H' _ q => .inl (.inl (q.2 _ _ ex))) ?_ ?_
    · rintro i x H' hi ⟨e2, s'⟩
      have fx := (xf x (mem_of_get hi)).same s'
      obtain ⟨U, u⟩ := fx.th
      have fm := filter_more (p := fun x => !whB x (some 0) (some 5)) hi
      have no : whB x (some 0) (some 5) = true → H' D2 = some (.lst ((xs.take (i + 1)).filter fun x => !whB x (some 0) (some 5))) ∧ Same H2 H' := fun e => by
        refine ⟨?_, s'⟩
        rw [fm, e2]
        simp [e]
      have yes : whB x (some 0) (some 5) = false → ∃ acc, H' D2 = some (.lst acc) ∧ acc.length < sizeLine ∧ (upd H' D2 (.lst (acc ++ [x]))) D2 = some (.lst ((xs.take (i + 1)).filter fun x => !whB x (some 0) (some 5))) ∧ Same H2 (upd H' D2 (.lst (acc ++ [x]))) := fun e => by
        refine ⟨_, e2, ?_, ?_, same_updD s' hD2⟩
        · refine Nat.lt_of_le_of_lt (List.length_filter_le _ _) (Nat.lt_of_le_of_lt (List.length_take_le' _ _) (small1000 (by omega)))
        · rw [upd_same, fm]
          simp [e]
      refine ⟨rfl, _, rfl, x, U, rfl, u, _, rfl, ?_⟩
      cases ei : isI x with
      | false => exact iteT (iteT ⟨_, rfl, yes (whB_no ei)⟩)
      | true =>
        obtain ⟨z, rfl⟩ : ∃ z, x = .int z := by cases x <;> first | exact ⟨_, rfl⟩ | (cases ei)
        refine iteF ⟨_, rfl, _, _, rfl, rfl, _, rfl, ?_⟩
        refine iteD (fun c1 => iteT ⟨_, rfl, yes ?_⟩) (fun c1 => ?_)
        · show (decide (0 ≤ z) && decide (z ≤ 5)) = false
          rw [decide_eq_false (by omega)]
          rfl
        · refine ⟨_, rfl, _, _, rfl, rfl, _, rfl, ?_⟩
          by_cases c2 : 5 < z
          · rw [decide_eq_true c2]
            refine iteT ⟨_, rfl, yes ?_⟩
            show (decide (0 ≤ z) && decide (z ≤ 5)) = false
            rw [decide_eq_false (by omega : ¬ z ≤ 5), Bool.and_false]
          · rw [decide_eq_false c2]
            exact iteF (no (whB_of (by omega) (by omega)))
    rintro H3 ⟨e2, s3⟩
    rw [List.take_length] at e2
    refine ⟨sz 0, fun l hl => ?_⟩
    refine r_empty e2 (fun x hx => (xf x (List.mem_filter.mp hx).1).same s3) hl ?_
    rw [filter_empty]
    have sB := same_upd' (o := .lst []) s3 hl
    generalize upd H3 l (.lst []) = H4 at sB ⊢
    generalize hb : (xs.all fun x => whB x (some 0) (some 5)) = b
    have hb' : good 0 5 xs = b := hb
    have ex4 := sB _ _ ex
    have xf4 : ∀ x ∈ xs, Fl H4 x := fun x hx => (xf x hx).same sB
    have hd4 := hd2.same sB
    have kp4 : Kp h H H4 := kp3.same sB
    -- the law's own sum
    refine ⟨_, rfl, D, rfl, ⟨xs, .inl (.inl ex4)⟩, for_list (K := K) (a := D) (xs := xs) (fun i σ H' => ∃ (v3 : Option V) (d : Int), σ = [some (.ref h), some (.ref pp), some (.ref D), v3, some (.bl b), some (.int d), none, none] ∧ H' = H4 ∧ (b = true → d = orA (xs.take i) ∧ 0 ≤ d ∧ d < 64))
      ⟨none, 0, rfl, rfl, fun _ => ⟨rfl, by decide, by decide⟩⟩ (fun i σ H' _ ⟨_, _, _, e, _⟩ => by rw [e]; exact .inl (.inl ex4)) ?_ ?_⟩
    · rintro i x σ H' hi ⟨v3, d, rfl, rfl, hdue⟩
      refine ⟨_, rfl, _, rfl, ?_⟩
      cases b with
      | false => exact iteF (iteF ⟨_, _, rfl, rfl, fun e => by cases e⟩)
      | true =>
        obtain ⟨z, rfl, z0, z1⟩ := whB_int (good_take hb' hi)
        obtain ⟨hd1', hd0, hd63⟩ := hdue rfl
        obtain ⟨o1, o2, o3⟩ := or_bit hd0 hd63 z0 z1
        have om : orA (xs.take (i + 1)) = Builtin.bitOr d (1 * 2 ^ z.toNat) := by rw [orA_more hi, hd1']; rfl
        refine iteT ⟨_, rfl, _, rfl, _, _, rfl, rfl, z0, .inl ⟨_, rfl, _, _, rfl, rfl, (by show (0 : Int) < 2; decide), rfl, _, rfl, ?_⟩⟩
        refine iteD (fun c1 => ?_) (fun c1 => ?_)
        · have c1 := V.int.inj c1
          rw [if_pos c1] at o1
          refine ⟨_, rfl, _, rfl, _, _, rfl, rfl, ⟨z0, by omega, by decide⟩, _, _, rfl, rfl, _, _, rfl, rfl, fun _ => ?_⟩
          rw [om]
          exact ⟨o1.symm, by omega, by omega⟩
        · have c1 : ¬ d / 2 ^ z.toNat % 2 = 0 := fun e => c1 (congrArg V.int e)
          rw [if_neg c1] at o1
          refine ⟨_, _, rfl, rfl, fun _ => ?_⟩
          rw [om]
          exact ⟨o1.symm, by omega, by omega⟩
    rintro σ H' ⟨v3, d, rfl, rfl, hdue⟩
    rw [List.take_length] at hdue
    -- as a list or a tuple
    refine ⟨_, rfl, _, rfl, h, c, D, xs, rfl, hd4, ex4, hDh, fun p H6 hd6 kp6 hph hp => ?_⟩
    have ex6 := kp6 _ _ ex4 hDh
    have xf6 : ∀ x ∈ xs, Fl H6 x := fun x hx => (xf4 x hx).kp hd4 kp6
    have sq : ∀ {H7 : Hp}, Same H6 H7 → SqL K H7 p xs ∨ SqT K H7 p xs := fun s7 => hp.elim (fun e => .inl (.inl (.inl (s7 _ _ e)))) (fun e => .inr (.inl (.inl (s7 _ _ e))))
    refine ⟨fun σ' H' => σ' = [some (.ref h), some (.ref pp), some (.ref D), v3, some (.bl b), some (.int d), some (.ref p), none] ∧ Same H6 H', ?_, ?_⟩
    · refine ⟨_, rfl, _, rfl, .inr ⟨p, xs, rfl, hp, fun x hx => (xf6 x hx).th, fun g H7 s7 => ?_, fun g H7 s7 => ?_⟩⟩
      · obtain rfl : true = b := g.symm.trans hb'
        refine ⟨_, rfl, _, rfl, iteT ⟨_, rfl, .inl ⟨.int (orA xs), by rw [(hdue rfl).1]; rfl, rfl, _, rfl, iteF ?_⟩⟩⟩
        refine ⟨_, rfl, p, xs, rfl, sq s7, fun l2 hl2 => ⟨_, rfl, ?_⟩⟩
        have s8 := same_upd' (o := .lst xs) s7 hl2
        refine r_nsame upd_same (s8 _ _ ex6) (fun x hx => (xf6 x hx).same s8) ?_
        exact ⟨_, rfl, iteF ⟨rfl, s8⟩⟩
      · obtain rfl : false = b := g.symm.trans hb'
        refine ⟨_, rfl, _, rfl, iteF (.inl ⟨.str "lot", rfl, rfl, _, rfl, iteF ?_⟩)⟩
        refine ⟨_, rfl, p, xs, rfl, sq s7, fun l2 hl2 => ⟨_, rfl, ?_⟩⟩
        have s8 := same_upd' (o := .lst xs) s7 hl2
        refine r_nsame upd_same (s8 _ _ ex6) (fun x hx => (xf6 x hx).same s8) ?_
        exact ⟨_, rfl, iteF ⟨rfl, s8⟩⟩
    rintro σ' H7 ⟨rfl, s7⟩
    have hd7 := hd6.same s7
    refine ⟨sz 4, fun p4 hp4 => ?_⟩
    have s8 := same_upd (o := .tup odds) hp4
    refine ⟨_, rfl, h, c, 4, rfl, by decide, by decide, hd7.same s8, fun r8 H8 a0 a1 hd8 kp8 => ?_⟩
    obtain ⟨v, hv, hU⟩ := odds_at a0 a1
    refine ⟨p4, odds, r8, v, rfl, rfl, .inl (.inl (kp8 _ _ upd_same (hd7.fresh hp4))), hv, v, rfl, .inl ⟨hU H8, fun H9 s9 => ⟨rfl, ?_⟩⟩⟩
    rw [decide_eq_true rfl]
    exact k _ (hd8.same s9) (((((kp4.trans kp6).same s7).same s8).trans kp8).same s9)
end
end Lot

/-! Part N: _law_lot_right. -/
namespace Lot
open PySem PySem.Spec PyProof.Rows L2
abbrev sLt : Stmt := top 37
def spLt : Sp := fun vs H Q _ => ∃ a b : Int, vs = [.int a, .int b] ∧ 0 ≤ a ∧ a ≤ 63 ∧ 0 ≤ b ∧ b ≤ 63 ∧ ∀ H', Same H H' → Q (.bl true) H'
def nLt : List Str := ["_law_lot", "_law_other", "_law_stands", "_law_s", "_law_text", "_law_inside"]
theorem bit_nat : ∀ n : Nat, n < 64 → ∀ s : Nat, s < 6 → bitS (n : Int) s = decide (((n : Int) / 2 ^ s) % 2 = 1) := by decide +kernel
theorem or_sof_nat : ∀ n : Nat, n < 64 → orA ((sof (n : Int)).map V.int) = n := by decide +kernel
theorem within_nat : ∀ n : Nat, n < 64 → ∀ m : Nat, m < 64 → ((sof (n : Int)).all fun s => !decide ((m : Int) / 2 ^ s.toNat % 2 = 0)) = decide (Builtin.bitAnd (n : Int) (m : Int) = n) := by decide +kernel
theorem bit_is {n : Int} {s : Nat} (h0 : 0 ≤ n) (h1 : n ≤ 63) (hs : s < 6) : bitS n s = decide ((n / 2 ^ s) % 2 = 1) := by
  obtain ⟨m, rfl⟩ := Int.eq_ofNat_of_zero_le h0
  exact bit_nat m (by omega) s hs
theorem or_sof {n : Int} (h0 : 0 ≤ n) (h1 : n ≤ 63) : orA ((sof n).map V.int) = n := by
  obtain ⟨m, rfl⟩ := Int.eq_ofNat_of_zero_le h0
  exact or_sof_nat m (by omega)
theorem within_is {n m : Int} (h0 : 0 ≤ n) (h1 : n ≤ 63) (g0 : 0 ≤ m) (g1 : m ≤ 63) : ((sof n).all fun s => !decide (m / 2 ^ s.toNat % 2 = 0)) = decide (Builtin.bitAnd n m = n) := by
  obtain ⟨a, rfl⟩ := Int.eq_ofNat_of_zero_le h0
  obtain ⟨b, rfl⟩ := Int.eq_ofNat_of_zero_le g0
  exact within_nat a (by omega) b (by omega)
theorem str_assoc (a b c : Str) : a ++ b ++ c = a ++ (b ++ c) := by
  show (⟨a.cps ++ b.cps ++ c.cps⟩ : Str) = ⟨a.cps ++ (b.cps ++ c.cps)⟩
  rw [Array.append_assoc]
theorem str_e1 (x : Str) : ("" : Str) ++ ("" : Str) ++ x = x := by
  have e : ("" : Str) = ⟨#[]⟩ := by decide +kernel
  rw [e]
  show (⟨#[] ++ #[] ++ x.cps⟩ : Str) = x
  simp
theorem join_snoc (sep : Str) : ∀ (l : List Str) (x : Str), l ≠ [] → Str.join sep (l ++ [x]) = Str.join sep l ++ sep ++ x
  | [], x, h => absurd rfl h
  | [a], x, _ => rfl
  | a :: b :: r, x, _ => by
    have ih := join_snoc sep (b :: r) x (by simp)
    show a ++ sep ++ Str.join sep ((b :: r) ++ [x]) = a ++ sep ++ Str.join sep (b :: r) ++ sep ++ x
    rw [ih, str_assoc, str_assoc, str_assoc, str_assoc, str_assoc]
abbrev cm : Str := (", " : Str)
/-- the text so far -/
def jn (l : List Int) : Str := Str.join cm (l.map dg)
theorem jn_nil : jn [] = ("" : Str) := by decide +kernel
theorem jn_len {l : List Int} (h : ∀ z ∈ l, 0 ≤ z ∧ z < 6) : l.length ≤ (jn l).length ∧ (jn l).length ≤ 3 * l.length := by
  have e : cm.length = 2 := by decide +kernel
  have a := join_len cm (l.map dg)
  have b := len_join_ge_sum cm (l.map dg)
  rw [dgs_len h, tj] at b
  rw [dgs_len h, List.length_map, e, tj] at a
  unfold jn
  omega
theorem jn_more {l : List Int} {z : Int} (h : l ≠ []) : jn (l ++ [z]) = jn l ++ cm ++ dg z := by
  unfold jn
  rw [List.map_append]
  exact join_snoc cm _ _ (by simpa using h)
theorem txtL_jn (l : List Int) : txtL l = ("{" : Str) ++ jn l ++ ("}" : Str) := by
  unfold txtL jn
  rw [tj]
theorem sof_good (n : Int) : good 0 5 ((sof n).map V.int) = true := by
  unfold good
  rw [List.all_eq_true]
  intro x hx
  obtain ⟨z, hz, rfl⟩ := List.mem_map.mp hx
  have := sofN_mem hz
  exact whB_of (by omega) (by omega)
theorem sof_fl {n : Int} {H : Hp} : ∀ x ∈ (sof n).map V.int, Fl H x := fun x hx => by
  obtain ⟨z, hz, rfl⟩ := List.mem_map.mp hx
  exact .int z
theorem map_get {ns : List Int} {i : Nat} {x : V} (h : (ns.map V.int)[i]? = some x) : ∃ z, ns[i]? = some z ∧ x = V.int z := by
  rw [List.getElem?_map] at h
  cases q : ns[i]? with
  | none => rw [q] at h; cases h
  | some z => rw [q] at h; exact ⟨z, rfl, (Option.some.inj h).symm⟩
section
variable {P : Program} {w : World} {K : PySem.W.Frag} {mg : Str → Option Value} {base : Heap}
theorem scLt : FnScope ["_law_lot", "_law_other", "_law_stands", "_law_s", "_law_text", "_law_inside"] ["_law_lot", "_law_other"] (defScope sLt) := ⟨rfl, rfl, rfl, by decide +kernel, rfl, by decide +kernel, by decide +kernel⟩
theorem ok_ltr {f : Addr} {fd : FuncData} (F : Fun K "_law_lot_right" "_law_lot_right" sLt f fd) (B : Bt mg) (Wx : Cal P w K mg base CX0 3 "_law_exact" ["_law_told", "_law_due"] spX) (Wf : Cal P w K mg base CX0 7 "_law_told_from" ["_law_which", "_law_lot"] spTF)
    (Wo : Cal P w K mg base CX0 3 "_law_told_of" ["_law_stands"] (spTO K)) (Ww : Cal P w K mg base CX0 6 "_law_told_within" ["_law_one", "_law_other"] spTW) : FnOk P w K mg base CX0 8 f fd ["_law_lot", "_law_other"] spLt := by
  refine F.ok scLt (fun vs H Q E h => ?_) (fun cdv A outer s H vs Q E hr h => ?_)
  · obtain ⟨a, b, rfl, _⟩ := h
    rfl
  · obtain ⟨a, b, rfl, a0, a1, b0, b1, k⟩ := h
    refine ⟨_, pss_cons (ps_setLc (i := 2) (own := [("_law_s", 3)]) (g := gName 3) (by rfl) scLt.nd rfl rfl (sw_true rfl rfl rfl (by decide +kernel)) (pi_range1 (by rfl) B.range (pa_cons pe_int pa_nil))
        (blkOk_by (own := [("_law_s", 3)]) (N := nLt) (sc := defScope sLt) (by decide +kernel)) (fun _ _ _ _ _ => pg_name (i := 3) scLt.nd rfl (Or.inl rfl))
        (fun _ _ _ _ _ => pts_one (pt_cmpR op_eq (pe_op op_mod (pe_callTy call_int1 (by rfl) B.int (by decide +kernel) (pa_cons (pe_op op_shr (pv 0) (pv 3)) pa_nil)) pe_int) pe_int (nomark _))) (fun _ _ _ _ _ => pv 3))
      (pss_cons (ps_set (i := 4) scLt.nd rfl (Or.inl rfl) pe_str)
      (pss_cons (ps_for PassesOwn.never rfl (pi_list (pv 2)) (pg_name (i := 3) scLt.nd rfl (Or.inl rfl))
        (pss_one (ps_set (i := 4) scLt.nd rfl (Or.inl rfl) (pe_op op_add_str (pe_op op_add_str (pv 4) (pe_ifExp (pt_cmpR op_ne (pv 4) pe_str (nomark _)) pe_str pe_str)) (pe_callTy call_str_int (by rfl) B.str (by decide +kernel) (pa_cons (pv 3) pa_nil))))))
      (Evl.pss_cut (ps_if (PW.pt (pw_or (pt_not (pt_val (pc Wx hr (by decide) (by rfl) pass0 (pa_cons (pc Wf hr (by decide) (by rfl) pass0 (pa_cons pe_int (pa_cons (pv 0) pa_nil))) (pa_cons (pe_callTy call_tuple_of (by rfl) B.tuple (by decide +kernel) (pa_cons (pv 2) pa_nil)) pa_nil)))))
          (pw_or1 (pt_not (pt_val (pc Wx hr (by decide) (by rfl) pass0 (pa_cons (pc Wf hr (by decide) (by rfl) pass0 (pa_cons pe_int (pa_cons (pv 0) pa_nil))) (pa_cons (pe_callB call_len (by rfl) B.len PySem.boot_len (pa_cons (pv 2) pa_nil)) pa_nil)))))))) (pss_one (ps_ret pe_bl)) pss_nil)
      (Evl.pss_cut (ps_if (PW.pt (pw_or (pt_not (pt_val (pc Wx hr (by decide) (by rfl) pass0 (pa_cons (pc Wf hr (by decide) (by rfl) pass0 (pa_cons pe_int (pa_cons (pv 0) pa_nil))) (pa_cons (pe_op op_add_str (pe_op op_add_str pe_str (pv 4)) pe_str) pa_nil)))))
          (pw_or1 (pt_not (pt_val (pc Wx hr (by decide) (by rfl) pass0 (pa_cons (pc Wo hr (by decide) (by rfl) pass0 (pa_cons (pv 2) pa_nil)) (pa_cons (pv 0) pa_nil)))))))) (pss_one (ps_ret pe_bl)) pss_nil)
      (pss_cons (ps_set (i := 5) scLt.nd rfl (Or.inl rfl) (pe_cmpR (op_eqD hr.units) (pe_lc (own := [("_law_s", 3)]) (g := gName 3) (by rfl) scLt.nd (pi_list (pv 2))
        (blkOk_by (own := [("_law_s", 3)]) (N := nLt) (sc := defScope sLt) (by decide +kernel)) (fun _ _ _ _ _ => pg_name (i := 3) scLt.nd rfl (Or.inl rfl))
        (fun _ _ _ _ _ => pts_one (pt_cmpR op_eq (pe_op op_mod (pe_callTy call_int1 (by rfl) B.int (by decide +kernel) (pa_cons (pe_op op_shr (pv 1) (pv 3)) pa_nil)) pe_int) pe_int (nomark _))) (fun _ _ _ _ _ => pv 3)) (pe_lst pa_nil) (nomark _)))
      (pss_one (ps_ret (pc Wx hr (by decide) (by rfl) pass0 (pa_cons (pc Ww hr (by decide) (by rfl) pass0 (pa_cons (pv 0) (pa_cons (pv 1) pa_nil))) (pa_cons (pv 5) pa_nil)))))))))), ?_⟩
    -- the stands
    refine ⟨6, rfl, by decide, by decide, fun D hD => lc_range (lo := 0) (n := 6) (fun i H' => H' D = some (.lst ((sofN a i).map V.int)) ∧ Same H H') ⟨upd_same, same_upd hD⟩ ?_ ?_⟩
    · rintro i H' hi ⟨hd, s'⟩
      have ei : (0 : Int) + (i : Nat) = (i : Int) := Int.zero_add _
      rw [ei]
      refine ⟨rfl, _, rfl, _, rfl, _, _, rfl, rfl, (by omega), .inl ⟨_, rfl, _, _, rfl, rfl, (by show (0 : Int) < 2; decide), rfl, _, rfl, ?_⟩⟩
      refine iteD (fun c => ?_) (fun c => ?_)
      · have b' : bitS a i = true := (bit_is a0 a1 hi).trans (decide_eq_true (V.int.inj c))
        refine ⟨_, rfl, _, hd, ?_, ?_, same_updD s' hD⟩
        · rw [List.length_map]
          exact Nat.lt_of_le_of_lt sofN_len (Nat.lt_trans hi (by decide))
        · rw [upd_same, sofN_yes b', List.map_append]
          rfl
      · have b' : bitS a i = false := (bit_is a0 a1 hi).trans (decide_eq_false (fun z => c (congrArg V.int z)))
        rw [sofN_no b']
        exact ⟨hd, s'⟩
    rintro H1 ⟨ex, s1⟩
    have sm : ∀ {i : Nat}, ∀ z ∈ (sof a).take i, 0 ≤ z ∧ z < 6 := fun {i} z hz => sofN_mem (List.mem_of_mem_take hz)
    have sl : (sof a).length ≤ 6 := sofN_len
    -- their text
    refine ⟨_, rfl, D, rfl, ⟨_, .inl (.inl ex)⟩, for_list (K := K) (a := D) (xs := (sof a).map V.int) (fun i σ H' => ∃ v3 : Option V, σ = [some (.int a), some (.int b), some (.ref D), v3, some (.str (jn ((sof a).take i))), none] ∧ H' = H1)
      ⟨none, by rw [List.take_zero, jn_nil]; rfl, rfl⟩ (fun i σ H' _ ⟨_, _, e⟩ => by rw [e]; exact .inl (.inl ex)) ?_ ?_⟩
    · rintro i x σ H' hi ⟨v3, rfl, rfl⟩
      obtain ⟨z, hz, rfl⟩ := map_get hi
      obtain ⟨z0, z1⟩ := sofN_get hz
      have hil : i < (sof a).length := (List.getElem?_eq_some_iff.mp hz).1
      obtain ⟨l1, l2⟩ := jn_len (l := (sof a).take i) sm
      have tl : ((sof a).take i).length = i := by rw [List.length_take]; omega
      rw [tl] at l1 l2
      have dl := dg_len z0 z1
      have cl : cm.length = 2 := by decide +kernel
      have el : ("" : Str).length = 0 := by decide +kernel
      refine ⟨_, rfl, _, rfl, rfl, _, rfl, ?_⟩
      by_cases c : i = 0
      · subst c
        have e0 : jn ((sof a).take 0) = ("" : Str) := by rw [List.take_zero]; exact jn_nil
        rw [e0, decide_eq_true rfl]
        refine iteF ⟨_, _, rfl, rfl, ?_, _, rfl, _, rfl, log2_small z0 z1, _, _, rfl, rfl, ?_, some (.int z), ?_, rfl⟩
        · rw [el]; exact sz _
        · rw [strlen_app, el]
          show _ + (dg z).length ≤ _
          rw [dl]; exact sz _
        · rw [take_more hz]
          have e1 : jn ((sof a).take 0 ++ [z]) = ("" : Str) ++ ("" : Str) ++ dg z := by rw [str_e1, List.take_zero]; rfl
          rw [e1]
          rfl
      · have ne : ¬ V.str (jn ((sof a).take i)) = V.str ("" : Str) := fun e => by
          have e := V.str.inj e
          rw [e, el] at l1
          omega
        rw [decide_eq_false ne]
        refine iteT ⟨_, _, rfl, rfl, ?_, _, rfl, _, rfl, log2_small z0 z1, _, _, rfl, rfl, ?_, some (.int z), ?_, rfl⟩
        · show _ + cm.length ≤ _
          rw [cl]; exact sz _ (by omega)
        · rw [strlen_app]
          show _ + cm.length + (dg z).length ≤ _
          rw [cl, dl]; exact sz _ (by omega)
        · rw [take_more hz, jn_more (by intro e; rw [e] at tl; exact c tl.symm)]
          rfl
    rintro σ H' ⟨v3, rfl, rfl⟩
    rw [List.length_map, List.take_length]
    have thl : Th H' (.int a) "int" := .int a
    have wa : whB (.int a) (some 0) (some 63) = true := whB_of a0 a1
    have wb : whB (.int b) (some 0) (some 63) = true := whB_of b0 b1
    refine ⟨fun σ' H2 => σ' = [some (.int a), some (.int b), some (.ref D), v3, some (.str (jn (sof a))), none] ∧ Same H' H2, ?_, ?_⟩
    · refine ⟨_, rfl, 0, .int a, "int", rfl, thl, (fun e => by rw [wa] at e; cases e), fun n e n0 n1 => ⟨fun _ p H2 s2 hp => ?_, fun z => by omega, fun z => by omega, by omega⟩⟩
      cases V.int.inj e
      have ex2 := s2 _ _ ex
      refine ⟨_, rfl, D, _, rfl, .inl ⟨.inl (.inl ex2), fun l hl => .inr ⟨p, l, sof a, rfl, (same_upd hl) _ _ hp, upd_same, by omega, fun H3 s3 => ⟨_, rfl, iteF ?_⟩⟩⟩⟩
      have s23 : Same H' H3 := (same_upd' s2 hl).trans s3
      refine ⟨_, rfl, 1, .int a, "int", rfl, .int a, (fun e => by rw [wa] at e; cases e), fun n e n0 n1 => ⟨fun z => by omega, fun _ H4 s4 => ?_, fun z => by omega, by omega⟩⟩
      cases V.int.inj e
      have s24 := s23.trans s4
      exact ⟨_, rfl, _, (sof a).length, rfl, .inl ⟨_, .inl (.inl (s24 _ _ ex)), by rw [List.length_map]⟩, .inl ⟨_, rfl, rfl, _, rfl, iteF ⟨rfl, s24⟩⟩⟩
    rintro σ' H2 ⟨rfl, s2⟩
    have ex2 := s2 _ _ ex
    obtain ⟨l1, l2⟩ := jn_len (l := sof a) fun z hz => sofN_mem hz
    refine ⟨fun σ' H3 => σ' = [some (.int a), some (.int b), some (.ref D), v3, some (.str (jn (sof a))), none] ∧ Same H2 H3, ?_, ?_⟩
    · refine ⟨_, rfl, 2, .int a, "int", rfl, .int a, (fun e => by rw [wa] at e; cases e), fun n e n0 n1 => ⟨fun z => by omega, fun z => by omega, fun _ H3 s3 => ?_, by omega⟩⟩
      cases V.int.inj e
      have e1 : ("{" : Str).length = 1 := by decide +kernel
      have e2 : ("}" : Str).length = 1 := by decide +kernel
      refine ⟨_, rfl, _, _, rfl, rfl, ?_, _, _, rfl, rfl, ?_, .inl ⟨.str (txtL (sof a)), by rw [txtL_jn]; rfl, rfl, _, rfl, iteF ?_⟩⟩
      · rw [e1]; exact sz _ (by omega)
      · rw [strlen_app, e1, e2]; exact sz _ (by omega)
      have ex3 := s3 _ _ ex2
      refine ⟨_, rfl, _, rfl, .inr ⟨D, _, rfl, .inl ex3, fun x hx => (sof_fl x hx).th, fun _ H4 s4 => ?_, fun g => by rw [sof_good] at g; cases g⟩⟩
      exact ⟨_, rfl, .inl ⟨.int a, by rw [or_sof a0 a1]; rfl, rfl, _, rfl, iteF ⟨rfl, s3.trans s4⟩⟩⟩
    rintro σ' H3 ⟨rfl, s3⟩
    have ex3 := s3 _ _ ex2
    -- are they inside
    refine ⟨_, rfl, D, rfl, ⟨_, .inl (.inl ex3)⟩, fun D2 hD2 => lc_list (K := K) (a := D) (xs := (sof a).map V.int) (fun i H4 => H4 D2 = some (.lst (((sof a).take i).filter (fun s => !!decide (b / 2 ^ s.toNat % 2 = 0)) |>.map V.int)) ∧ Same H3 H4) ⟨upd_same, same_upd hD2⟩ (fun i H4 _ q => .inl (.inl (q.2 _ _ ex3))) ?_ ?_⟩
    · rintro i x H4 hi ⟨e2, s4⟩
      obtain ⟨z, hz, rfl⟩ := map_get hi
      obtain ⟨z0, z1⟩ := sofN_get hz
      have fm := filter_more (p := fun s : Int => !!decide (b / 2 ^ s.toNat % 2 = 0)) hz
      refine ⟨rfl, _, rfl, _, rfl, _, _, rfl, rfl, z0, .inl ⟨_, rfl, _, _, rfl, rfl, (by show (0 : Int) < 2; decide), rfl, _, rfl, ?_⟩⟩
      refine iteD (fun c => ?_) (fun c => ?_)
      · have c := V.int.inj c
        refine ⟨_, rfl, _, e2, ?_, ?_, same_updD s4 hD2⟩
        · rw [List.length_map]
          refine Nat.lt_of_le_of_lt (List.length_filter_le _ _) (Nat.lt_of_le_of_lt (List.length_take_le' _ _) (small1000 (by omega)))
        · rw [upd_same, fm]
          simp [c]
      · have c : ¬ b / 2 ^ z.toNat % 2 = 0 := fun e => c (congrArg V.int e)
        refine ⟨?_, s4⟩
        rw [fm, e2]
        simp [c]
    rintro H4 ⟨e2, s4⟩
    rw [List.length_map, List.take_length] at e2
    refine ⟨sz 0, fun l hl => ?_⟩
    refine r_empty e2 (fun x hx => by obtain ⟨z, hz, rfl⟩ := List.mem_map.mp hx; exact .int z) hl ?_
    have ee : (((sof a).filter (fun s => !!decide (b / 2 ^ s.toNat % 2 = 0))).map V.int).isEmpty = decide (Builtin.bitAnd a b = a) := by
      rw [isEmpty_len (List.length_map _), filter_empty]
      exact within_is a0 a1 b0 b1
    rw [ee]
    refine ⟨_, rfl, _, rfl, .int a, "int", .int b, "int", rfl, .int a, .int b, fun e => ?_, fun n m e1 e2 _ _ _ _ => ?_⟩
    · rw [wa, wb] at e
      rcases e with e | e <;> cases e
    · cases V.int.inj e1
      cases V.int.inj e2
      exact ⟨_, rfl, .inl ⟨_, rfl, rfl, k _ ((((s1.trans s2).trans s3).trans s4).trans (same_upd hl))⟩⟩
end
end Lot

/-! Part O: _law_refused_right, _law_kinds_right. -/
namespace Lot
open PySem PySem.Spec PyProof.Rows L2
abbrev sRR : Stmt := top 38
abbrev sKR : Stmt := top 39
def nRR : List Str := ["_law_hand_here", "_law_bad", "_law_lot", "_law_which"]
/-- a def of the top called with fewer arguments, dvs its defaults that fill up -/
structure CalD (P : Program) (w : World) (K : PySem.W.Frag) (mg : Str → Option Value) (base : Heap) (CX : CXT) (k : Nat) (x : Str) (ps : List Str) (sp : Sp) (dvs : List V) : Prop where
  ex : ∃ (f : Addr) (fd : FuncData) (ds : List Value), FnOk P w K mg base CX k f fd ps sp ∧ mg x = some (.ref f) ∧ PySem.W.keepIn K (.ref f) = true ∧ Binds K fd ps ds ∧ Vals dvs ds
section
variable {X : Cx} {CX : CXT} {k j : Nat} {ps : List Str} {sp : Sp} {dvs : List V} {E : XK} {x : Str} {p pos : Pos} {e : Expr} {es : List Expr} {t : TA}
theorem pcD (C : CalD X.prog X.w X.K X.mg X.base CX k x ps sp dvs) (hr : Room j X.A) (hk : k ≤ j) (hg : Gl X x) (hx : Passes CX X E) (ha : PA X (e :: es) t)
    (hdb : (x == ("__debug__" : Str)) = false := by decide) (he : starEach (e :: es) X.env = (false, eval e X.env) :: starEach es X.env := by rfl) (hpl : (backTo pos (starEach es X.env)).any (·.1) = false := by rfl) :
    PE X (.Call (.Name x p) (e :: es) [] pos) (tCall sp dvs E t) := by
  obtain ⟨f, fd, ds, F, m, kp, b, hd⟩ := C.ex
  exact pe_call F (hr.mono hk) hg m kp b hd hx ha hdb he hpl
end
section
variable {P : Program} {w : World} {K : PySem.W.Frag} {mg : Str → Option Value} {base : Heap}
theorem scRR : FnScope ["_law_hand_here", "_law_bad", "_law_lot", "_law_which"] ["_law_hand_here"] (defScope sRR) := ⟨rfl, rfl, rfl, by decide +kernel, rfl, by decide +kernel, by decide +kernel⟩
theorem ok_rr {f : Addr} {fd : FuncData} (F : Fun K "_law_refused_right" "_law_refused_right" sRR f fd) (B : Bt mg) (Wt : Cal P w K mg base CX0 2 "_law_take" ["_law_hand_here", "_law_many"] spTk) (Wr : Cal P w K mg base CX0 3 "_law_rid" ["_law_hand_here"] spRd)
    (Wf : Cal P w K mg base CX0 7 "_law_told_from" ["_law_which", "_law_lot"] spTF) (Ww : Cal P w K mg base CX0 6 "_law_told_within" ["_law_one", "_law_other"] spTW) : FnOk P w K mg base CX0 8 f fd ["_law_hand_here"] spHR := by
  refine F.ok scRR (fun vs H Q E h => ?_) (fun cdv A outer s H vs Q E hr h => ?_)
  · obtain ⟨h, c, rfl, _⟩ := h
    rfl
  · obtain ⟨h, c, rfl, hd, k⟩ := h
    refine ⟨_, pss_cons (ps_set (i := 1) scRR.nd rfl (Or.inr rfl) (pc Wr hr (by decide) (by rfl) pass0 (pa_cons (pv 0) pa_nil)))
      (pss_cons (ps_set (i := 2) scRR.nd rfl (Or.inl rfl) (pc Wt hr (by decide) (by rfl) pass0 (pa_cons (pv 0) (pa_cons pe_int pa_nil))))
      (pss_cons (ps_if (pt_cmpR (op_neD hr.units) (pe_lc (own := [("_law_which", 3)]) (g := gName 3) (by rfl) scRR.nd (pi_range1 (by rfl) B.range (pa_cons pe_int pa_nil))
        (blkOk_by (own := [("_law_which", 3)]) (N := nRR) (sc := defScope sRR) (by decide +kernel)) (fun _ _ _ _ _ => pg_name (i := 3) scRR.nd rfl (Or.inl rfl))
        (fun _ _ _ _ _ => pts_one (pt_cmpR op_ne (pc Wf hr (by decide) (by rfl) pass0 (pa_cons (pv 3) (pa_cons (pv 1) pa_nil))) pe_str (nomark _))) (fun _ _ _ _ _ => pv 3)) (pe_lst pa_nil) (nomark _)) (pss_one (ps_ret pe_bl)) pss_nil)
      (pss_one (ps_ret (pe_and (pe_cmpR op_eq (pc Ww hr (by decide) (by rfl) pass0 (pa_cons (pv 1) (pa_cons (pv 2) pa_nil))) pe_str (nomark _)) (pe_one (pe_cmpR op_eq (pc Ww hr (by decide) (by rfl) pass0 (pa_cons (pv 2) (pa_cons (pv 1) pa_nil))) pe_str (nomark _)))))))), ?_⟩
    refine ⟨_, rfl, h, c, rfl, hd, fun v H1 hd1 kp1 fl no => ?_⟩
    refine ⟨_, rfl, h, c, 64, rfl, by decide, by decide, hd1, fun z H2 z0 z1 hd2 kp2 => ?_⟩
    have fl2 := fl.kp hd1 kp2
    refine ⟨3, rfl, by decide, by decide, fun D hD => lc_range (lo := 0) (n := 3) (fun i H' => H' D = some (.lst []) ∧ Same H2 H') ⟨upd_same, same_upd hD⟩ ?_ ?_⟩
    · rintro i H' hi ⟨e2, s'⟩
      obtain ⟨U, u⟩ := (fl2.same s').th
      refine ⟨rfl, _, rfl, _, rfl, (0 : Int) + (i : Nat), v, U, rfl, u, fun _ => ?_, fun n e n0 n1 => ?_⟩
      · refine ⟨rfl, _, rfl, ?_⟩
        rw [decide_eq_true rfl]
        exact iteF ⟨e2, s'⟩
      · subst e
        rw [whB_of n0 n1] at no
        cases no
    · rintro H3 ⟨e2, s3⟩
      refine ⟨sz 0, fun l hl => ?_⟩
      refine r_nempty e2 (fun x hx => by cases hx) hl ?_
      have sB := same_upd' (o := .lst []) s3 hl
      obtain ⟨U, u⟩ := (fl2.same sB).th
      refine ⟨_, rfl, iteF ?_⟩
      refine ⟨_, rfl, _, rfl, v, U, .int z, "int", rfl, u, .int z, fun _ => ?_, fun n m e1 e2 n0 n1 _ _ => ?_⟩
      · refine ⟨rfl, _, rfl, ?_⟩
        rw [decide_eq_true rfl]
        refine iteT ⟨_, rfl, _, rfl, .int z, "int", v, U, rfl, .int z, u, fun _ => ?_, fun n m e1 e2 _ _ n0 n1 => ?_⟩
        · refine ⟨rfl, ?_⟩
          rw [decide_eq_true rfl]
          exact k _ (hd2.same sB) ((kp1.trans kp2).same sB)
        · subst e2
          rw [whB_of n0 n1] at no
          cases no
      · subst e1
        rw [whB_of n0 n1] at no
        cases no
end
end Lot

/-! Part P: _law_kinds_right. -/
namespace Lot
open PySem PySem.Spec PyProof.Rows L2
theorem whB_none (x : V) : whB x none none = isI x := by cases x <;> rfl
theorem th_list {H : Hp} {v : V} {T : String} (t : Th H v T) (n : T ≠ "tuple") : kitB T "list" = some (sqn T) := by
  cases t with
  | tup h => exact absurd rfl n
  | _ => decide +kernel
def kXS (lo hi : Int) (p1 : Addr) : List V := [.int lo, .int hi, .int (lo - 1), .int (hi + 1), .bl true, .bl false, .non, .str "1", .ref p1, .int ((10 : Int) ^ (30 : Int).toNat), .int (-((10 : Int) ^ (30 : Int).toNat))]
section
variable {P : Program} {w : World} {K : PySem.W.Frag} {mg : Str → Option Value} {base : Heap}
theorem scKR : FnScope ["_law_hand_here", "_law_low", "_law_high", "_law_thing_here", "_law_whole"] ["_law_hand_here"] (defScope sKR) := ⟨rfl, rfl, rfl, by decide +kernel, rfl, by decide +kernel, by decide +kernel⟩
theorem ok_kr {f : Addr} {fd : FuncData} (F : Fun K "_law_kinds_right" "_law_kinds_right" sKR f fd) (B : Bt mg) (Wt : Cal P w K mg base CX0 2 "_law_take" ["_law_hand_here", "_law_many"] spTk) (Wi : Cal P w K mg base CX0 1 "_law_int" ["_law_thing_here"] spIn)
    (Wx : Cal P w K mg base CX0 3 "_law_exact" ["_law_told", "_law_due"] spX) (W3 : Cal P w K mg base CX0 1 "is_whole" ["thing", "low", "high"] spWh) (W2 : CalD P w K mg base CX0 1 "is_whole" ["thing", "low", "high"] spWh [.non]) (W1 : CalD P w K mg base CX0 1 "is_whole" ["thing", "low", "high"] spWh [.non, .non])
    (Ws : Cal P w K mg base CX0 1 "is_sequence" ["thing"] spSeq) : FnOk P w K mg base CX0 4 f fd ["_law_hand_here"] spHR := by
  refine F.ok scKR (fun vs H Q E h => ?_) (fun cdv A outer s H vs Q E hr h => ?_)
  · obtain ⟨h, c, rfl, _⟩ := h
    rfl
  · obtain ⟨h, c, rfl, hd, k⟩ := h
    refine ⟨_, Evl.pss_cut (ps_set (i := 1) scKR.nd rfl (Or.inl rfl) (pe_op op_sub (pc Wt hr (by decide) (by rfl) pass0 (pa_cons (pv 0) (pa_cons pe_int pa_nil))) pe_int))
      (Evl.pss_cut (ps_set (i := 2) scKR.nd rfl (Or.inl rfl) (pe_op op_sub (pe_op op_add (pv 1) (pc Wt hr (by decide) (by rfl) pass0 (pa_cons (pv 0) (pa_cons pe_int pa_nil)))) pe_int))
      (pss_cons (ps_for PassesOwn.never rfl (pi_tup (pe_tup (pa_cons (pv 1) (pa_cons (pv 2) (pa_cons (pe_op op_sub (pv 1) pe_int) (pa_cons (pe_op op_add (pv 2) pe_int) (pa_cons pe_bl (pa_cons pe_bl (pa_cons pe_non (pa_cons pe_str (pa_cons (pe_lst (pa_cons pe_int pa_nil)) (pa_cons (pe_op op_pow pe_int pe_int) (pa_cons (pe_un un_neg (pe_op op_pow pe_int pe_int)) pa_nil))))))))))))) (pg_name (i := 3) scKR.nd rfl (Or.inl rfl))
        (pss_cons (ps_set (i := 4) scKR.nd rfl (Or.inl rfl) (pc Wi hr (by decide) (by rfl) pass0 (pa_cons (pv 3) pa_nil)))
        (pss_cons (ps_if (PW.pt (pw_or (pt_not (pt_val (pc Wx hr (by decide) (by rfl) pass0 (pa_cons (pcD W1 hr (by decide) (by rfl) pass0 (pa_cons (pv 3) pa_nil)) (pa_cons (pv 4) pa_nil)))))
            (pw_or1 (pt_not (pt_val (pc Wx hr (by decide) (by rfl) pass0 (pa_cons (pcD W2 hr (by decide) (by rfl) pass0 (pa_cons (pv 3) (pa_cons (pv 1) pa_nil))) (pa_cons (pe_and (pv 4) (pe_one (pe_cmpR op_ge (pv 3) (pv 1) (nomark _)))) pa_nil)))))))) (pss_one (ps_ret pe_bl)) pss_nil)
        (Evl.pss_cut (ps_if (pt_not (pt_val (pc Wx hr (by decide) (by rfl) pass0 (pa_cons (pc W3 hr (by decide) (by rfl) pass0 (pa_cons (pv 3) (pa_cons (pv 1) (pa_cons (pv 2) pa_nil)))) (pa_cons (pe_and (pv 4) (pe_and (pe_cmpR op_ge (pv 3) (pv 1) (nomark _)) (pe_one (pe_cmpR op_le (pv 3) (pv 2) (nomark _))))) pa_nil))))) (pss_one (ps_ret pe_bl)) pss_nil)
        (pss_cons (ps_if (pt_not (pt_val (pc Wx hr (by decide) (by rfl) pass0 (pa_cons (pc W3 hr (by decide) (by rfl) pass0 (pa_cons (pv 3) (pa_cons pe_non (pa_cons (pv 2) pa_nil)))) (pa_cons (pe_and (pv 4) (pe_one (pe_cmpR op_le (pv 3) (pv 2) (nomark _)))) pa_nil))))) (pss_one (ps_ret pe_bl)) pss_nil)
        (pss_one (ps_if (pt_not (pt_val (pc Wx hr (by decide) (by rfl) pass0 (pa_cons (pc Ws hr (by decide) (by rfl) pass0 (pa_cons (pv 3) pa_nil)) (pa_cons (pe_callB call_isi (by rfl) B.isi (by decide +kernel) (pa_cons (pv 3) (pa_cons (pe_bltn (v := .ty "list") (by rfl) B.list (by decide +kernel) rfl) pa_nil))) pa_nil))))) (pss_one (ps_ret pe_bl)) pss_nil)))))))
      (pss_one (ps_ret (pe_and (pe_cmpR op_isBl (pc Ws hr (by decide) (by rfl) pass0 (pa_cons (pe_tup pa_nil) pa_nil)) pe_bl (nomark _)) (pe_and (pe_cmpR op_isBl (pc Ws hr (by decide) (by rfl) pass0 (pa_cons (pe_lst pa_nil) pa_nil)) pe_bl (nomark _)) (pe_one (pe_cmpR op_isBl (pc Ws hr (by decide) (by rfl) pass0 (pa_cons pe_dnewK pa_nil)) pe_bl (nomark _))))))))), ?_⟩
    refine ⟨fun σ' H' => ∃ lo : Int, σ' = [some (.ref h), some (.int lo), none, none, none] ∧ HandAt H' h c ∧ Kp h H H', ⟨_, rfl, h, c, 9, rfl, by decide, by decide, hd, fun r1 H1 _ _ hd1 kp1 => ⟨_, _, rfl, rfl, _, rfl, hd1, kp1⟩⟩, ?_⟩
    rintro σ' H1 ⟨lo, rfl, hd1, kp1⟩
    refine ⟨fun σ' H' => ∃ hi : Int, σ' = [some (.ref h), some (.int lo), some (.int hi), none, none] ∧ HandAt H' h c ∧ Kp h H H', ⟨_, rfl, _, rfl, h, c, 5, rfl, by decide, by decide, hd1, fun r2 H2 _ _ hd2 kp2 => ⟨_, _, rfl, rfl, _, _, rfl, rfl, _, rfl, hd2, kp1.trans kp2⟩⟩, ?_⟩
    rintro σ' H2 ⟨hi, rfl, hd2, kp2⟩
    refine ⟨_, rfl, _, rfl, _, rfl, _, _, rfl, rfl, _, rfl, _, _, rfl, rfl, sz 1, fun p1 hp1 => ?_⟩
    refine ⟨_, _, rfl, rfl, ⟨by decide, by decide, by decide⟩, _, _, rfl, rfl, ⟨by decide, by decide, by decide⟩, _, rfl, sz 11, fun pT hpT => ?_⟩
    have s1 := same_upd (o := .lst [.int 1]) hp1
    obtain ⟨H3, hH3⟩ : ∃ H3, H3 = upd (upd H2 p1 (.lst [.int 1])) pT (.tup (kXS lo hi p1)) := ⟨_, rfl⟩
    have sT : Same H2 H3 := by rw [hH3]; exact same_upd' s1 hpT
    have eL : H3 p1 = some (.lst [.int 1]) := by rw [hH3]; exact (same_upd hpT) p1 _ upd_same
    have eT : H3 pT = some (.tup (kXS lo hi p1)) := by rw [hH3]; exact upd_same
    have kinds : ∀ x ∈ kXS lo hi p1, ∃ U, Th H3 x U ∧ U ≠ "tuple" := by
      intro x hx
      simp only [kXS, List.mem_cons, List.not_mem_nil, or_false] at hx
      rcases hx with rfl | rfl | rfl | rfl | rfl | rfl | rfl | rfl | rfl | rfl | rfl
      · exact ⟨_, .int _, by decide⟩
      · exact ⟨_, .int _, by decide⟩
      · exact ⟨_, .int _, by decide⟩
      · exact ⟨_, .int _, by decide⟩
      · exact ⟨_, .bl _, by decide⟩
      · exact ⟨_, .bl _, by decide⟩
      · exact ⟨_, .non, by decide⟩
      · exact ⟨_, .str _, by decide⟩
      · exact ⟨_, .lst eL, by decide⟩
      · exact ⟨_, .int _, by decide⟩
      · exact ⟨_, .int _, by decide⟩
    refine ⟨pT, rfl, ⟨kXS lo hi p1, .inl (.inl (by rw [hH3] at eT; exact eT))⟩, for_tup (K := K) (a := pT) (xs := kXS lo hi p1) (fun i σ H' => ∃ v3 v4 : Option V, σ = [some (.ref h), some (.int lo), some (.int hi), v3, v4] ∧ Same H3 H') ⟨none, none, rfl, (by rw [hH3]; exact Same.refl _)⟩ (fun i σ H' _ ⟨_, _, _, s'⟩ => .inl (.inl (s' _ _ eT))) ?_ ?_⟩
    · rintro i x σ H' hi' ⟨v3, v4, rfl, s'⟩
      obtain ⟨U, u0, nU⟩ := kinds x (mem_of_get hi')
      have u := u0.same s'
      refine ⟨x, rfl, x, U, rfl, u, ?_⟩
      cases ei : isI x with
      | false =>
        have wn : ∀ l u', whB x l u' = false := fun l u' => whB_no ei
        refine ⟨x, rfl, x, U, none, none, rfl, u, _, rfl, .inl ⟨.bl false, by rw [wn]; rfl, rfl, _, rfl, iteF ?_⟩⟩
        refine ⟨x, rfl, _, rfl, x, U, some lo, none, rfl, u, _, rfl, _, rfl, iteF (.inl ⟨.bl false, by rw [wn]; rfl, rfl, _, rfl, iteF ?_⟩)⟩
        refine ⟨fun σ' H2 => σ' = [some (.ref h), some (.int lo), some (.int hi), some x, some (.bl false)] ∧ H2 = H', ?_, ?_⟩
        · exact ⟨x, rfl, _, rfl, _, rfl, x, U, some lo, some hi, rfl, u, _, rfl, _, rfl, iteF (.inl ⟨.bl false, by rw [wn]; rfl, rfl, _, rfl, iteF ⟨rfl, rfl⟩⟩)⟩
        rintro σ' H2 ⟨rfl, rfl⟩
        refine ⟨x, rfl, _, rfl, x, U, none, some hi, rfl, u, _, rfl, _, rfl, iteF (.inl ⟨.bl false, by rw [wn]; rfl, rfl, _, rfl, iteF ?_⟩)⟩
        exact ⟨x, rfl, x, U, rfl, u, fun H5 s5 => ⟨x, rfl, x, _, _, _, _, rfl, .ty _, (u.same s5).tyx, kit_ty (th_list u nU), .inl ⟨.bl (sqn U), rfl, rfl, _, rfl, iteF ⟨_, _, rfl, s'.trans s5⟩⟩⟩⟩
      | true =>
        obtain ⟨z, rfl⟩ : ∃ z, x = .int z := by cases x <;> first | exact ⟨_, rfl⟩ | (cases ei)
        have w1 : whB (.int z) (some lo) none = decide (lo ≤ z) := Bool.and_true _
        have w2 : whB (.int z) none (some hi) = decide (z ≤ hi) := Bool.true_and _
        have w3 : whB (.int z) (some lo) (some hi) = (decide (lo ≤ z) && decide (z ≤ hi)) := rfl
        refine ⟨_, rfl, .int z, U, none, none, rfl, u, _, rfl, .inl ⟨.bl true, rfl, rfl, _, rfl, iteF ?_⟩⟩
        refine ⟨_, rfl, _, rfl, .int z, U, some lo, none, rfl, u, _, rfl, _, rfl, iteT ⟨_, rfl, _, rfl, _, _, rfl, rfl, .inl ⟨.bl (decide (lo ≤ z)), by rw [w1]; rfl, rfl, _, rfl, iteF ?_⟩⟩⟩
        refine ⟨fun σ' H2 => σ' = [some (.ref h), some (.int lo), some (.int hi), some (.int z), some (.bl true)] ∧ H2 = H', ?_, ?_⟩
        · refine ⟨_, rfl, _, rfl, _, rfl, .int z, U, some lo, some hi, rfl, u, _, rfl, _, rfl, iteT ⟨_, rfl, _, rfl, _, _, rfl, rfl, _, rfl, ?_⟩⟩
          rw [w3]
          refine iteD (fun c1 => ?_) (fun c1 => ?_)
          · rw [decide_eq_true c1]
            exact ⟨_, rfl, _, rfl, _, _, rfl, rfl, .inl ⟨.bl (decide (z ≤ hi)), rfl, rfl, _, rfl, iteF ⟨rfl, rfl⟩⟩⟩
          · rw [decide_eq_false c1]
            exact .inl ⟨.bl false, rfl, rfl, _, rfl, iteF ⟨rfl, rfl⟩⟩
        rintro σ' H2 ⟨rfl, rfl⟩
        refine ⟨_, rfl, _, rfl, .int z, U, none, some hi, rfl, u, _, rfl, _, rfl, iteT ⟨_, rfl, _, rfl, _, _, rfl, rfl, .inl ⟨.bl (decide (z ≤ hi)), by rw [w2]; rfl, rfl, _, rfl, iteF ?_⟩⟩⟩
        exact ⟨_, rfl, .int z, U, rfl, u, fun H5 s5 => ⟨_, rfl, .int z, _, _, _, _, rfl, .ty _, (u.same s5).tyx, kit_ty (th_list u nU), .inl ⟨.bl (sqn U), rfl, rfl, _, rfl, iteF ⟨_, _, rfl, s'.trans s5⟩⟩⟩⟩
    · rintro σ H' ⟨v3, v4, rfl, s'⟩
      have hd' := (hd2.same sT).same s'
      have kp' : Kp h H H' := (kp2.same sT).same s'
      refine ⟨sz 0, fun a1 ha1 => ⟨.ref a1, "tuple", rfl, .tup upd_same, fun H4 s4 => ⟨true, true, rfl, rfl, _, rfl, iteT ?_⟩⟩⟩
      have t4 := (same_upd (o := .tup []) ha1).trans s4
      refine ⟨sz 0, fun a2 ha2 => ⟨.ref a2, "list", rfl, .lst upd_same, fun H5 s5 => ⟨true, true, rfl, rfl, _, rfl, iteT ?_⟩⟩⟩
      have t5 := (same_upd' (o := .lst []) t4 ha2).trans s5
      refine fun a3 ha3 => ⟨.ref a3, "dict", rfl, .dct upd_same, fun H6 s6 => ⟨false, false, rfl, rfl, ?_⟩⟩
      have t6 := (same_upd' (o := .dK []) t5 ha3).trans s6
      exact k _ (hd'.same t6) (kp'.same t6)
end
end Lot

/-! Part Q: law. -/
namespace Lot
open PySem PySem.Spec PyProof.Rows L2
abbrev sLaw : Stmt := top 40
def spLaw (K : PySem.W.Frag) : Sp := fun vs H Q _ => ∃ (a : Addr) (ns : List Int), vs = [.ref a] ∧ SqL K H a (ns.map V.int) ∧ ns.length ≤ 63 ∧ ∀ H', Q (.bl true) H'
def bads (p : Addr) : List V := [.int 0, .int 7, .bl true, .str "3", .non, .int (-1), .int 64, .ref p]
theorem bads_at {r : Int} {p : Addr} {H : Hp} (h0 : 0 ≤ r) (h1 : r < 8) (e : H p = some (.lst [.int 3])) : ∃ v U, atI (bads p) r = some v ∧ Th H v U ∧ whB v (some 1) (some 6) = false := by
  have : r = 0 ∨ r = 1 ∨ r = 2 ∨ r = 3 ∨ r = 4 ∨ r = 5 ∨ r = 6 ∨ r = 7 := by omega
  rcases this with rfl | rfl | rfl | rfl | rfl | rfl | rfl | rfl
  · exact ⟨_, _, rfl, .int _, rfl⟩
  · exact ⟨_, _, rfl, .int _, rfl⟩
  · exact ⟨_, _, rfl, .bl _, rfl⟩
  · exact ⟨_, _, rfl, .str _, rfl⟩
  · exact ⟨_, _, rfl, .non, rfl⟩
  · exact ⟨_, _, rfl, .int _, rfl⟩
  · exact ⟨_, _, rfl, .int _, rfl⟩
  · exact ⟨_, _, rfl, .lst e, rfl⟩
section
variable {P : Program} {w : World} {K : PySem.W.Frag} {mg : Str → Option Value} {base : Heap}
theorem scLaw : FnScope ["_law_script", "_law_hand_here", "_law_v", "_law_bad", "_law_step", "_law_thing_here", "_law_lot"] ["_law_script"] (defScope sLaw) := ⟨rfl, rfl, rfl, by decide +kernel, rfl, by decide +kernel, by decide +kernel⟩
theorem ok_law {f : Addr} {fd : FuncData} (F : Fun K "law" "law" sLaw f fd) (B : Bt mg) (Wh : Cal P w K mg base CX0 1 "_law_hand" ["_law_script"] (spHd K)) (Wt : Cal P w K mg base CX0 2 "_law_take" ["_law_hand_here", "_law_many"] spTk)
    (Wx : Cal P w K mg base CX0 3 "_law_exact" ["_law_told", "_law_due"] spX) (Wts : Cal P w K mg base CX0 3 "_law_told_stands" ["_law_v"] spTS) (Wta : Cal P w K mg base CX0 4 "_law_told_all" ["_law_v"] spTA) (Wev : Cal P w K mg base CX0 1 "_law_every" ["_law_v"] spEv)
    (Wtl : Cal P w K mg base CX0 5 "_law_told_lot" ["_law_v", "_law_lot"] spTL) (Wth : Cal P w K mg base CX0 4 "_law_thing" ["_law_hand_here", "_law_v"] spTh) (Wg : Cal P w K mg base CX0 2 "_law_good" ["_law_v", "_law_lot"] spGd)
    (Wlr : Cal P w K mg base CX0 6 "_law_lots_right" ["_law_hand_here", "_law_v", "_law_good_here"] spLR) (Wsr : Cal P w K mg base CX0 4 "_law_stands_right" ["_law_hand_here"] spHR) (Wtls : Cal P w K mg base CX0 5 "_law_told_lots" ["_law_v", "_law_lots"] (spTLs K))
    (Wlt : Cal P w K mg base CX0 8 "_law_lot_right" ["_law_lot", "_law_other"] spLt) (Wrr : Cal P w K mg base CX0 8 "_law_refused_right" ["_law_hand_here"] spHR) (Wkr : Cal P w K mg base CX0 4 "_law_kinds_right" ["_law_hand_here"] spHR) :
    FnOk P w K mg base CX0 9 f fd ["_law_script"] (spLaw K) := by
  refine F.ok scLaw (fun vs H Q E h => ?_) (fun cdv A outer s H vs Q E hr h => ?_)
  · obtain ⟨a, ns, rfl, _⟩ := h
    rfl
  · obtain ⟨a, ns, rfl, hS, hlen, k⟩ := h
    refine ⟨_, pss_cons (ps_set (i := 1) scLaw.nd rfl (Or.inl rfl) (pc Wh hr (by decide) (by rfl) pass0 (pa_cons (pv 0) pa_nil)))
      (Evl.pss_cut (ps_set (i := 2) scLaw.nd rfl (Or.inl rfl) (pe_op op_add pe_int (pc Wt hr (by decide) (by rfl) pass0 (pa_cons (pv 1) (pa_cons pe_int pa_nil)))))
      (Evl.pss_cut (ps_set (i := 3) scLaw.nd rfl (Or.inl rfl) (pe_ix ix_tup (pe_tup (pa_cons pe_int (pa_cons pe_int (pa_cons pe_bl (pa_cons pe_str (pa_cons pe_non (pa_cons (pe_un un_neg pe_int) (pa_cons pe_int (pa_cons (pe_lst (pa_cons pe_int pa_nil)) pa_nil)))))))))
          (pc Wt hr (by decide) (by rfl) pass0 (pa_cons (pv 1) (pa_cons pe_int pa_nil))) (fun _ _ => rfl)))
      (pss_cons (ps_if (PW.pt (pw_or (pt_not (pt_val (pc Wx hr (by decide) (by rfl) pass0 (pa_cons (pc Wts hr (by decide) (by rfl) pass0 (pa_cons (pv 2) pa_nil)) (pa_cons (pv 2) pa_nil)))))
          (pw_or1 (pt_not (pt_val (pc Wx hr (by decide) (by rfl) pass0 (pa_cons (pc Wta hr (by decide) (by rfl) pass0 (pa_cons (pv 2) pa_nil)) (pa_cons (pc Wev hr (by decide) (by rfl) pass0 (pa_cons (pv 2) pa_nil)) pa_nil)))))))) (pss_one (ps_ret pe_bl)) pss_nil)
      (pss_cons (ps_if (PW.pt (pw_or (pt_cmpR op_ne (pc Wts hr (by decide) (by rfl) pass0 (pa_cons (pv 3) pa_nil)) pe_str (nomark _)) (pw_or (pt_cmpR op_ne (pc Wta hr (by decide) (by rfl) pass0 (pa_cons (pv 3) pa_nil)) pe_str (nomark _))
          (pw_or1 (pt_cmpR op_ne (pc Wtl hr (by decide) (by rfl) pass0 (pa_cons (pv 3) (pa_cons pe_non pa_nil))) pe_str (nomark _)))))) (pss_one (ps_ret pe_bl)) pss_nil)
      (pss_cons (ps_for PassesOwn.never rfl (pi_range1 (by rfl) B.range (pa_cons pe_int pa_nil)) (pg_name (i := 4) scLaw.nd rfl (Or.inl rfl))
        (pss_cons (ps_set (i := 5) scLaw.nd rfl (Or.inl rfl) (pc Wth hr (by decide) (by rfl) pass0 (pa_cons (pv 1) (pa_cons (pv 2) pa_nil))))
        (pss_one (ps_if (pt_not (pt_val (pc Wx hr (by decide) (by rfl) pass0 (pa_cons (pc Wtl hr (by decide) (by rfl) pass0 (pa_cons (pv 2) (pa_cons (pv 5) pa_nil))) (pa_cons (pe_ifExp (pt_val (pc Wg hr (by decide) (by rfl) pass0 (pa_cons (pv 2) (pa_cons (pv 5) pa_nil)))) (pv 5) pe_str) pa_nil))))) (pss_one (ps_ret pe_bl)) pss_nil))))
      (pss_cons (ps_if (PW.pt (pw_or (pt_not (pt_val (pc Wlr hr (by decide) (by rfl) pass0 (pa_cons (pv 1) (pa_cons (pv 2) (pa_cons pe_bl pa_nil)))))) (pw_or (pt_not (pt_val (pc Wlr hr (by decide) (by rfl) pass0 (pa_cons (pv 1) (pa_cons (pv 2) (pa_cons pe_bl pa_nil))))))
          (pw_or1 (pt_not (pt_val (pc Wsr hr (by decide) (by rfl) pass0 (pa_cons (pv 1) pa_nil)))))))) (pss_one (ps_ret pe_bl)) pss_nil)
      (pss_cons (ps_if (PW.pt (pw_or (pt_cmpR op_ne (pc Wtls hr (by decide) (by rfl) pass0 (pa_cons (pv 2) (pa_cons pe_str pa_nil))) pe_str (nomark _)) (pw_or1 (pt_cmpR op_ne (pc Wtls hr (by decide) (by rfl) pass0 (pa_cons (pv 2) (pa_cons pe_non pa_nil))) pe_str (nomark _))))) (pss_one (ps_ret pe_bl)) pss_nil)
      (pss_cons (ps_for PassesOwn.never rfl (pi_range1 (by rfl) B.range (pa_cons pe_int pa_nil)) (pg_name (i := 4) scLaw.nd rfl (Or.inl rfl))
        (pss_one (ps_if (pt_not (pt_val (pc Wlt hr (by decide) (by rfl) pass0 (pa_cons (pc Wt hr (by decide) (by rfl) pass0 (pa_cons (pv 1) (pa_cons pe_int pa_nil))) (pa_cons (pc Wt hr (by decide) (by rfl) pass0 (pa_cons (pv 1) (pa_cons pe_int pa_nil))) pa_nil))))) (pss_one (ps_ret pe_bl)) pss_nil)))
      (pss_cons (ps_set (i := 6) scLaw.nd rfl (Or.inl rfl) (pc Wt hr (by decide) (by rfl) pass0 (pa_cons (pv 1) (pa_cons pe_int pa_nil))))
      (pss_one (ps_ret (pe_and (pc Wlt hr (by decide) (by rfl) pass0 (pa_cons (pv 6) (pa_cons (pv 6) pa_nil))) (pe_and (pc Wlt hr (by decide) (by rfl) pass0 (pa_cons pe_int (pa_cons (pv 6) pa_nil)))
        (pe_and (pc Wrr hr (by decide) (by rfl) pass0 (pa_cons (pv 1) pa_nil)) (pe_one (pc Wkr hr (by decide) (by rfl) pass0 (pa_cons (pv 1) pa_nil))))))))))))))))), ?_⟩
    refine ⟨_, rfl, a, ns, rfl, hS, hlen, fun h c H1 _ hd1 => ?_⟩
    -- the number of stands
    refine ⟨fun σ' H' => ∃ n : Int, σ' = [some (.ref a), some (.ref h), some (.int n), none, none, none, none] ∧ 1 ≤ n ∧ n ≤ 6 ∧ HandAt H' h c, ⟨_, rfl, h, c, 6, rfl, by decide, by decide, hd1, fun r H2 r0 r1 hd2 _ => ⟨_, _, rfl, rfl, _, rfl, by omega, by omega, hd2⟩⟩, ?_⟩
    rintro σ' H2 ⟨n, rfl, n0, n1, hd2⟩
    have wn : whB (.int n) (some 1) (some 6) = true := whB_of n0 n1
    -- another number
    refine ⟨fun σ' H' => ∃ (bv : V) (U : String), σ' = [some (.ref a), some (.ref h), some (.int n), some bv, none, none, none] ∧ Th H' bv U ∧ whB bv (some 1) (some 6) = false ∧ HandAt H' h c, ?_, ?_⟩
    · refine ⟨_, rfl, sz 1, fun p1 hp1 => ⟨sz 8, fun p2 hp2 => ?_⟩⟩
      have s1 := same_upd (o := .lst [.int 3]) hp1
      have s2 := same_upd' (o := .tup (bads p1)) s1 hp2
      refine ⟨_, rfl, h, c, 8, rfl, by decide, by decide, hd2.same s2, fun r H3 r0 r1 hd3 kp3 => ?_⟩
      have e1 : H3 p1 = some (.lst [.int 3]) := kp3 _ _ ((same_upd hp2) _ _ upd_same) (hd2.fresh hp1)
      have e2 : H3 p2 = some (.tup (bads p1)) := kp3 _ _ upd_same ((hd2.same s1).fresh hp2)
      obtain ⟨bv, U, hb, t, no⟩ := bads_at r0 r1 e1
      exact ⟨p2, bads p1, r, bv, rfl, rfl, .inl (.inl e2), hb, bv, U, rfl, t, no, hd3⟩
    rintro σ' H3 ⟨bv, U, rfl, t, no, hd3⟩
    -- the stands and all of them
    refine ⟨_, rfl, .int n, "int", rfl, .int n, fun _ => ?_, fun e => by rw [wn] at e; cases e⟩
    refine ⟨_, rfl, .inl ⟨.int n, rfl, rfl, _, rfl, iteF ?_⟩⟩
    refine ⟨_, rfl, .int n, "int", rfl, .int n, fun n' e _ _ => ?_, fun e => by rw [wn] at e; cases e⟩
    cases V.int.inj e
    refine ⟨_, rfl, n, rfl, by omega, by omega, .inl ⟨_, rfl, rfl, _, rfl, iteF ?_⟩⟩
    -- the other one is refused
    refine ⟨_, rfl, bv, U, rfl, t, fun e => (by rw [no] at e; cases e), fun _ => ⟨rfl, _, rfl, ?_⟩⟩
    rw [decide_eq_true rfl]
    refine iteF ⟨_, rfl, bv, U, rfl, t, fun n' e h1 h2 => (by subst e; rw [whB_of h1 h2] at no; cases no), fun _ => ⟨rfl, _, rfl, ?_⟩⟩
    rw [decide_eq_true rfl]
    refine iteF ⟨_, rfl, bv, U, .non, "NoneType", rfl, t, .non, fun _ => ⟨rfl, _, rfl, ?_⟩, fun n' e h1 h2 => (by subst e; rw [whB_of h1 h2] at no; cases no)⟩
    rw [decide_eq_true rfl]
    refine iteF ?_
    -- four things
    refine ⟨4, rfl, by decide, by decide, for_range (lo := 0) (n := 4) (fun i σ H' => ∃ v4 v5 : Option V, σ = [some (.ref a), some (.ref h), some (.int n), some bv, v4, v5, none] ∧ HandAt H' h c) ⟨none, none, rfl, hd3⟩ ?_ ?_⟩
    · rintro i σ H4 hi ⟨v4, v5, rfl, hd4⟩
      refine ⟨_, rfl, _, rfl, h, c, n, rfl, hd4, n0, n1, fun x H5 hd5 _ fl => ?_⟩
      obtain ⟨Ux, u⟩ := fl.th
      refine ⟨_, rfl, x, rfl, .int n, "int", x, Ux, rfl, .int n, u, fun e => (by rw [wn] at e; cases e), fun n' e h1 h2 => ?_⟩
      cases V.int.inj e
      refine ⟨fun g => ?_, fun g => ?_⟩
      · refine ⟨_, rfl, x, rfl, n, x, Ux, rfl, u, by omega, by omega, _, rfl, ?_⟩
        rw [g]
        obtain ⟨z, rfl, _, _⟩ := whB_int g
        exact iteT ⟨_, rfl, .inl ⟨.int z, rfl, rfl, _, rfl, iteF ⟨_, _, rfl, hd5⟩⟩⟩
      · refine ⟨_, rfl, x, rfl, n, x, Ux, rfl, u, by omega, by omega, _, rfl, ?_⟩
        rw [g]
        exact iteF (.inl ⟨.str "lot", rfl, rfl, _, rfl, iteF ⟨_, _, rfl, hd5⟩⟩)
    rintro σ H4 ⟨v4, v5, rfl, hd4⟩
    -- lots, stands
    refine ⟨_, rfl, _, rfl, h, c, n, true, rfl, hd4, n0, n1, fun H5 hd5 _ => ⟨_, rfl, iteF ?_⟩⟩
    refine ⟨_, rfl, _, rfl, h, c, n, false, rfl, hd5, n0, n1, fun H6 hd6 _ => ⟨_, rfl, iteF ?_⟩⟩
    refine ⟨_, rfl, h, c, rfl, hd6, fun H7 hd7 _ => ⟨_, rfl, iteF ?_⟩⟩
    -- no sequences
    refine ⟨_, rfl, .int n, "int", .str "01", rfl, .int n, fun e => (by rw [wn] at e; cases e), fun n' e h1 h2 => .inl ⟨⟨_, .str _, rfl⟩, fun H8 s8 => ⟨rfl, _, rfl, ?_⟩⟩⟩
    rw [decide_eq_true rfl]
    refine iteF ⟨_, rfl, .int n, "int", .non, rfl, .int n, fun e => (by rw [wn] at e; cases e), fun n' e h1 h2 => .inl ⟨⟨_, .non, rfl⟩, fun H9 s9 => ⟨rfl, _, rfl, ?_⟩⟩⟩
    rw [decide_eq_true rfl]
    refine iteF ?_
    have hd9 := (hd7.same s8).same s9
    -- three pairs of lots
    refine ⟨3, rfl, by decide, by decide, for_range (lo := 0) (n := 3) (fun i σ H' => ∃ v4 : Option V, σ = [some (.ref a), some (.ref h), some (.int n), some bv, v4, v5, none] ∧ HandAt H' h c) ⟨_, rfl, hd9⟩ ?_ ?_⟩
    · rintro i σ HA hi ⟨v4, rfl, hdA⟩
      refine ⟨_, rfl, h, c, 64, rfl, by decide, by decide, hdA, fun x HB x0 x1 hdB _ => ?_⟩
      refine ⟨_, rfl, h, c, 64, rfl, by decide, by decide, hdB, fun y HC y0 y1 hdC _ => ?_⟩
      exact ⟨x, y, rfl, x0, by omega, y0, by omega, fun HD sD => ⟨_, rfl, iteF ⟨_, rfl, hdC.same sD⟩⟩⟩
    rintro σ HA ⟨v4, rfl, hdA⟩
    refine ⟨_, rfl, h, c, 64, rfl, by decide, by decide, hdA, fun x HB x0 x1 hdB _ => ?_⟩
    refine ⟨_, rfl, _, rfl, x, x, rfl, x0, by omega, x0, by omega, fun HC sC => ⟨_, rfl, iteT ?_⟩⟩
    refine ⟨_, rfl, 0, x, rfl, by omega, by omega, x0, by omega, fun HD sD => ⟨_, rfl, iteT ?_⟩⟩
    refine ⟨_, rfl, h, c, rfl, (hdB.same sC).same sD, fun HE hdE _ => ⟨_, rfl, iteT ?_⟩⟩
    exact ⟨_, rfl, h, c, rfl, hdE, fun HF _ _ => k HF⟩
end
end Lot

/-! Part R: what the top leaves, and the end. -/
namespace Lot
open PySem PySem.Spec PyProof.Rows L2
def DefIs (K : PySem.W.Frag) (mg : Str → Option Value) (x : Str) (st : Stmt) : Prop := ∃ (f : Addr) (fd : FuncData), mg x = some (.ref f) ∧ Fun K x x st f fd
def WhIs (K : PySem.W.Frag) (mg : Str → Option Value) : Prop := ∃ (f : Addr) (fd : FuncData), mg "is_whole" = some (.ref f) ∧ FunD K "is_whole" "is_whole" (defArgs sWh) (defBody sWh) (defScope sWh) [.non, .non] [] f fd
def ErrsIs (K : PySem.W.Frag) (mg : Str → Option Value) : Prop := ∃ CS CL : Addr, ErrAt K mg "BadStands" CS ∧ ErrAt K mg "BadLot" CL ∧ PySem.W.exmOne K (.ref CL) (.ref CS) = some false
section
variable {K : PySem.W.Frag} {h : Heap} {mg : Str → Option Value}
theorem mk_def {x : Str} {st : Stmt} {f : Addr} {oc : Value} {od an : Option Addr} {osl : Array (Option Value)} {kV doc pm cdv ct : Value} (X : K.In h) (G : h.Ns mainGlobals mg) (a : PySem.W.nsIn K mainGlobals x = some (some (.ref f)))
    (l : K.lookup f = some ⟨oc, od, .func (PySem.W.fnOf x x (defArgs st) (defBody st) (defScope st) .none kV doc pm an cdv ct), osl⟩) (c : PySem.W.codeIn K cdv x = true) (k : PySem.W.keepIn K (.ref f) = true) : DefIs K mg x st :=
  ⟨f, _, PySem.W.mg_of X G a, fun_mk (st := st) l c k⟩
theorem mk_wh {f T : Addr} {oc : Value} {od an odT : Option Addr} {osl slT : Array (Option Value)} {kV doc pm cdv ct : Value} {n : Nat} (X : K.In h) (G : h.Ns mainGlobals mg) (a : PySem.W.nsIn K mainGlobals "is_whole" = some (some (.ref f)))
    (l : K.lookup f = some ⟨oc, od, .func (PySem.W.fnOf "is_whole" "is_whole" (defArgs sWh) (defBody sWh) (defScope sWh) (.ref T) kV doc pm an cdv ct), osl⟩) (lT : K.lookup T = some ⟨.type "tuple", odT, .seq #[.none, .none] n, slT⟩)
    (c : PySem.W.codeIn K cdv "is_whole" = true) (k : PySem.W.keepIn K (.ref f) = true) : WhIs K mg :=
  ⟨f, _, PySem.W.mg_of X G a, ⟨⟨oc, od, .ref T, kV, doc, pm, an, cdv, ct, osl, rfl, l, c, .inr ⟨by simp, T, _, [.none, .none], n, rfl, lT, rfl, .cons rfl (.cons rfl .nil)⟩, .inl rfl⟩, k⟩⟩
theorem exm_gen {cls : Value} {C : Addr} {b : Bool} (h1 : PySem.W.subIn K (.ref C) (.type "BaseException") = some true) (h2 : PySem.W.isClsIn K C = true) (h3 : PySem.W.typeIn K (.ref C) = some (.type "type")) (h4 : PySem.W.subIn K cls (.ref C) = some b) :
    PySem.W.exmOne K cls (.ref C) = some b := by
  have e1 : (PySem.W.subIn K (.ref C) (.type "BaseException") == some true) = true := by rw [h1] <;> rfl
  have e2 : ((PySem.W.clsIn K C).isSome && PySem.W.typeIn K (.ref C) == some (.type "type")) = true := by
    have h2' : (PySem.W.clsIn K C).isSome = true := h2
    rw [h2', h3] <;> rfl
  show (if (PySem.W.subIn K (.ref C) (.type "BaseException") == some true) = true then (if ((PySem.W.clsIn K C).isSome && PySem.W.typeIn K (.ref C) == some (.type "type")) = true then PySem.W.subIn K cls (.ref C) else none) else none) = some b
  rw [if_pos e1, if_pos e2]
  exact h4
theorem mk_errs {CS CL : Addr} (X : K.In h) (G : h.Ns mainGlobals mg)
    (aS : PySem.W.nsIn K mainGlobals "BadStands" = some (some (.ref CS))) (eS : PySem.W.excIn K CS [.type "ValueError", .type "Exception", .type "BaseException", .type "object"] "ValueError.__new__" = true) (kS : PySem.W.keepIn K (.ref CS) = true) (bS : PySem.W.subIn K (.ref CS) (.type "BaseException") = some true)
    (tS : PySem.W.typeIn K (.ref CS) = some (.type "type")) (iS : PySem.W.isClsIn K CS = true) (sS : PySem.W.subIn K (.ref CS) (.ref CS) = some true)
    (aL : PySem.W.nsIn K mainGlobals "BadLot" = some (some (.ref CL))) (eL : PySem.W.excIn K CL [.type "ValueError", .type "Exception", .type "BaseException", .type "object"] "ValueError.__new__" = true) (kL : PySem.W.keepIn K (.ref CL) = true) (bL : PySem.W.subIn K (.ref CL) (.type "BaseException") = some true)
    (tL : PySem.W.typeIn K (.ref CL) = some (.type "type")) (iL : PySem.W.isClsIn K CL = true) (sL : PySem.W.subIn K (.ref CL) (.ref CL) = some true) (x : PySem.W.subIn K (.ref CL) (.ref CS) = some false) : ErrsIs K mg :=
  ⟨CS, CL, ⟨PySem.W.mg_of X G aS, eS, kS, bS, tS, exm_gen bS iS tS sS⟩, ⟨PySem.W.mg_of X G aL, eL, kL, bL, tL, exm_gen bL iL tL sL⟩, exm_gen bS iS tS x⟩
theorem mk_bt (X : K.In h) (G : h.Ns mainGlobals mg) (z0 : PySem.W.nsIn K mainGlobals "isinstance" = some none) (z1 : PySem.W.nsIn K mainGlobals "list" = some none) (z2 : PySem.W.nsIn K mainGlobals "tuple" = some none) (z3 : PySem.W.nsIn K mainGlobals "bool" = some none)
    (z4 : PySem.W.nsIn K mainGlobals "int" = some none) (z5 : PySem.W.nsIn K mainGlobals "str" = some none) (z6 : PySem.W.nsIn K mainGlobals "len" = some none) (z7 : PySem.W.nsIn K mainGlobals "range" = some none) (z8 : PySem.W.nsIn K mainGlobals "abs" = some none) : Bt mg :=
  ⟨PySem.W.mg_none_of X G z0, PySem.W.mg_none_of X G z1, PySem.W.mg_none_of X G z2, PySem.W.mg_none_of X G z3, PySem.W.mg_none_of X G z4, PySem.W.mg_none_of X G z5, PySem.W.mg_none_of X G z6, PySem.W.mg_none_of X G z7, PySem.W.mg_none_of X G z8⟩
theorem wh_binds {f : Addr} {fd : FuncData} (F : FunD K "is_whole" "is_whole" (defArgs sWh) (defBody sWh) (defScope sWh) [.non, .non] [] f fd) :
    (∃ ds, Vals [] ds ∧ Binds K fd ["thing", "low", "high"] ds) ∧ (∃ ds, Vals [.non] ds ∧ Binds K fd ["thing", "low", "high"] ds) ∧ (∃ ds, Vals [.non, .non] ds ∧ Binds K fd ["thing", "low", "high"] ds) := by
  refine ⟨F.binds1 (ps := ["thing", "low", "high"]) 3 2 (by simp) rfl ?_, F.binds1 (ps := ["thing", "low", "high"]) 2 1 (by simp) rfl ?_, F.binds1 (ps := ["thing", "low", "high"]) 1 0 (by simp) rfl ?_⟩
  · exact fun T kV doc pm an cdv ct us its hu hi => match us, hu, its, hi with | [_, _, _], _, [_, _], _ => ⟨_, rfl, rfl⟩
  · exact fun T kV doc pm an cdv ct us its hu hi => match us, hu, its, hi with | [_, _], _, [_, _], _ => ⟨_, rfl, rfl⟩
  · exact fun T kV doc pm an cdv ct us its hu hi => match us, hu, its, hi with | [_], _, [_, _], _ => ⟨_, rfl, rfl⟩
end
section
variable {P : Program} {w : World} {K : PySem.W.Frag} {mg : Str → Option Value}
theorem all_mk {fa : Addr} (hfa : mg "law" = some (.ref fa)) (B : Bt mg) (er : ErrsIs K mg) (d_sWh : WhIs K mg)
    (d_sSeq : DefIs K mg "is_sequence" sSeq)
    (d_sCS : DefIs K mg "check_stands" sCS)
    (d_sAS : DefIs K mg "all_stands" sAS)
    (d_sCL : DefIs K mg "check_lot" sCL)
    (d_sCLs : DefIs K mg "check_lots" sCLs)
    (d_sLO : DefIs K mg "lot_of" sLO)
    (d_sSO : DefIs K mg "stands_of" sSO)
    (d_sZO : DefIs K mg "size_of" sZO)
    (d_sIW : DefIs K mg "is_within" sIW)
    (d_sLT : DefIs K mg "lot_text" sLT)
    (d_sHd : DefIs K mg "_law_hand" sHd)
    (d_sMx : DefIs K mg "_law_mixed" sMx)
    (d_sTk : DefIs K mg "_law_take" sTk)
    (d_sEv : DefIs K mg "_law_every" sEv)
    (d_sLs : DefIs K mg "_law_list" sLs)
    (d_sIn : DefIs K mg "_law_int" sIn)
    (d_sEx : DefIs K mg "_law_exact" sEx)
    (d_sRd : DefIs K mg "_law_rid" sRd)
    (d_sTS : DefIs K mg "_law_told_stands" sTS)
    (d_sTA : DefIs K mg "_law_told_all" sTA)
    (d_sTL : DefIs K mg "_law_told_lot" sTL)
    (d_sTLs : DefIs K mg "_law_told_lots" sTLs)
    (d_sTO : DefIs K mg "_law_told_of" sTO)
    (d_sTF : DefIs K mg "_law_told_from" sTF)
    (d_sTW : DefIs K mg "_law_told_within" sTW)
    (d_sGd : DefIs K mg "_law_good" sGd)
    (d_sTh : DefIs K mg "_law_thing" sTh)
    (d_sLR : DefIs K mg "_law_lots_right" sLR)
    (d_sSR : DefIs K mg "_law_stands_right" sSR)
    (d_sLt : DefIs K mg "_law_lot_right" sLt)
    (d_sRR : DefIs K mg "_law_refused_right" sRR)
    (d_sKR : DefIs K mg "_law_kinds_right" sKR)
    (d_sLaw : DefIs K mg "law" sLaw)
    : ∃ fd : FuncData, (∀ (s : Shared) (v : Value), BindsTo s fd ⟨[v], []⟩ [("_law_script", v)]) ∧ ∀ base : Heap, FnOk P w K mg base CX0 9 fa fd ["_law_script"] (spLaw K) := by
  obtain ⟨CS, CL, ZS, ZL, hx⟩ := er
  obtain ⟨fW, fdW, gW, FW⟩ := d_sWh
  obtain ⟨⟨ds3, vs3, b3⟩, ⟨ds2, vs2, b2⟩, ⟨ds1, vs1, b1⟩⟩ := wh_binds FW
  have en : ds3 = [] := by cases vs3; rfl
  subst en
  obtain ⟨f_sSeq, fd_sSeq, g_sSeq, F_sSeq⟩ := d_sSeq
  obtain ⟨f_sCS, fd_sCS, g_sCS, F_sCS⟩ := d_sCS
  obtain ⟨f_sAS, fd_sAS, g_sAS, F_sAS⟩ := d_sAS
  obtain ⟨f_sCL, fd_sCL, g_sCL, F_sCL⟩ := d_sCL
  obtain ⟨f_sCLs, fd_sCLs, g_sCLs, F_sCLs⟩ := d_sCLs
  obtain ⟨f_sLO, fd_sLO, g_sLO, F_sLO⟩ := d_sLO
  obtain ⟨f_sSO, fd_sSO, g_sSO, F_sSO⟩ := d_sSO
  obtain ⟨f_sZO, fd_sZO, g_sZO, F_sZO⟩ := d_sZO
  obtain ⟨f_sIW, fd_sIW, g_sIW, F_sIW⟩ := d_sIW
  obtain ⟨f_sLT, fd_sLT, g_sLT, F_sLT⟩ := d_sLT
  obtain ⟨f_sHd, fd_sHd, g_sHd, F_sHd⟩ := d_sHd
  obtain ⟨f_sMx, fd_sMx, g_sMx, F_sMx⟩ := d_sMx
  obtain ⟨f_sTk, fd_sTk, g_sTk, F_sTk⟩ := d_sTk
  obtain ⟨f_sEv, fd_sEv, g_sEv, F_sEv⟩ := d_sEv
  obtain ⟨f_sLs, fd_sLs, g_sLs, F_sLs⟩ := d_sLs
  obtain ⟨f_sIn, fd_sIn, g_sIn, F_sIn⟩ := d_sIn
  obtain ⟨f_sEx, fd_sEx, g_sEx, F_sEx⟩ := d_sEx
  obtain ⟨f_sRd, fd_sRd, g_sRd, F_sRd⟩ := d_sRd
  obtain ⟨f_sTS, fd_sTS, g_sTS, F_sTS⟩ := d_sTS
  obtain ⟨f_sTA, fd_sTA, g_sTA, F_sTA⟩ := d_sTA
  obtain ⟨f_sTL, fd_sTL, g_sTL, F_sTL⟩ := d_sTL
  obtain ⟨f_sTLs, fd_sTLs, g_sTLs, F_sTLs⟩ := d_sTLs
  obtain ⟨f_sTO, fd_sTO, g_sTO, F_sTO⟩ := d_sTO
  obtain ⟨f_sTF, fd_sTF, g_sTF, F_sTF⟩ := d_sTF
  obtain ⟨f_sTW, fd_sTW, g_sTW, F_sTW⟩ := d_sTW
  obtain ⟨f_sGd, fd_sGd, g_sGd, F_sGd⟩ := d_sGd
  obtain ⟨f_sTh, fd_sTh, g_sTh, F_sTh⟩ := d_sTh
  obtain ⟨f_sLR, fd_sLR, g_sLR, F_sLR⟩ := d_sLR
  obtain ⟨f_sSR, fd_sSR, g_sSR, F_sSR⟩ := d_sSR
  obtain ⟨f_sLt, fd_sLt, g_sLt, F_sLt⟩ := d_sLt
  obtain ⟨f_sRR, fd_sRR, g_sRR, F_sRR⟩ := d_sRR
  obtain ⟨f_sKR, fd_sKR, g_sKR, F_sKR⟩ := d_sKR
  obtain ⟨f_sLaw, fd_sLaw, g_sLaw, F_sLaw⟩ := d_sLaw
  have b_sSeq := F_sSeq.binds (ps := ["thing"]) fun _ _ _ _ _ _ us hl => match us, hl with | [_], _ => rfl
  have b_sCS := F_sCS.binds (ps := ["v"]) fun _ _ _ _ _ _ us hl => match us, hl with | [_], _ => rfl
  have b_sAS := F_sAS.binds (ps := ["v"]) fun _ _ _ _ _ _ us hl => match us, hl with | [_], _ => rfl
  have b_sCL := F_sCL.binds (ps := ["v", "lot"]) fun _ _ _ _ _ _ us hl => match us, hl with | [_, _], _ => rfl
  have b_sCLs := F_sCLs.binds (ps := ["v", "lots"]) fun _ _ _ _ _ _ us hl => match us, hl with | [_, _], _ => rfl
  have b_sLO := F_sLO.binds (ps := ["stands"]) fun _ _ _ _ _ _ us hl => match us, hl with | [_], _ => rfl
  have b_sSO := F_sSO.binds (ps := ["lot"]) fun _ _ _ _ _ _ us hl => match us, hl with | [_], _ => rfl
  have b_sZO := F_sZO.binds (ps := ["lot"]) fun _ _ _ _ _ _ us hl => match us, hl with | [_], _ => rfl
  have b_sIW := F_sIW.binds (ps := ["one", "other"]) fun _ _ _ _ _ _ us hl => match us, hl with | [_, _], _ => rfl
  have b_sLT := F_sLT.binds (ps := ["lot"]) fun _ _ _ _ _ _ us hl => match us, hl with | [_], _ => rfl
  have b_sHd := F_sHd.binds (ps := ["_law_script"]) fun _ _ _ _ _ _ us hl => match us, hl with | [_], _ => rfl
  have b_sMx := F_sMx.binds (ps := ["_law_number", "_law_turn"]) fun _ _ _ _ _ _ us hl => match us, hl with | [_, _], _ => rfl
  have b_sTk := F_sTk.binds (ps := ["_law_hand_here", "_law_many"]) fun _ _ _ _ _ _ us hl => match us, hl with | [_, _], _ => rfl
  have b_sEv := F_sEv.binds (ps := ["_law_v"]) fun _ _ _ _ _ _ us hl => match us, hl with | [_], _ => rfl
  have b_sLs := F_sLs.binds (ps := ["_law_hand_here", "_law_items"]) fun _ _ _ _ _ _ us hl => match us, hl with | [_, _], _ => rfl
  have b_sIn := F_sIn.binds (ps := ["_law_thing_here"]) fun _ _ _ _ _ _ us hl => match us, hl with | [_], _ => rfl
  have b_sEx := F_sEx.binds (ps := ["_law_told", "_law_due"]) fun _ _ _ _ _ _ us hl => match us, hl with | [_, _], _ => rfl
  have b_sRd := F_sRd.binds (ps := ["_law_hand_here"]) fun _ _ _ _ _ _ us hl => match us, hl with | [_], _ => rfl
  have b_sTS := F_sTS.binds (ps := ["_law_v"]) fun _ _ _ _ _ _ us hl => match us, hl with | [_], _ => rfl
  have b_sTA := F_sTA.binds (ps := ["_law_v"]) fun _ _ _ _ _ _ us hl => match us, hl with | [_], _ => rfl
  have b_sTL := F_sTL.binds (ps := ["_law_v", "_law_lot"]) fun _ _ _ _ _ _ us hl => match us, hl with | [_, _], _ => rfl
  have b_sTLs := F_sTLs.binds (ps := ["_law_v", "_law_lots"]) fun _ _ _ _ _ _ us hl => match us, hl with | [_, _], _ => rfl
  have b_sTO := F_sTO.binds (ps := ["_law_stands"]) fun _ _ _ _ _ _ us hl => match us, hl with | [_], _ => rfl
  have b_sTF := F_sTF.binds (ps := ["_law_which", "_law_lot"]) fun _ _ _ _ _ _ us hl => match us, hl with | [_, _], _ => rfl
  have b_sTW := F_sTW.binds (ps := ["_law_one", "_law_other"]) fun _ _ _ _ _ _ us hl => match us, hl with | [_, _], _ => rfl
  have b_sGd := F_sGd.binds (ps := ["_law_v", "_law_lot"]) fun _ _ _ _ _ _ us hl => match us, hl with | [_, _], _ => rfl
  have b_sTh := F_sTh.binds (ps := ["_law_hand_here", "_law_v"]) fun _ _ _ _ _ _ us hl => match us, hl with | [_, _], _ => rfl
  have b_sLR := F_sLR.binds (ps := ["_law_hand_here", "_law_v", "_law_good_here"]) fun _ _ _ _ _ _ us hl => match us, hl with | [_, _, _], _ => rfl
  have b_sSR := F_sSR.binds (ps := ["_law_hand_here"]) fun _ _ _ _ _ _ us hl => match us, hl with | [_], _ => rfl
  have b_sLt := F_sLt.binds (ps := ["_law_lot", "_law_other"]) fun _ _ _ _ _ _ us hl => match us, hl with | [_, _], _ => rfl
  have b_sRR := F_sRR.binds (ps := ["_law_hand_here"]) fun _ _ _ _ _ _ us hl => match us, hl with | [_], _ => rfl
  have b_sKR := F_sKR.binds (ps := ["_law_hand_here"]) fun _ _ _ _ _ _ us hl => match us, hl with | [_], _ => rfl
  have b_sLaw := F_sLaw.binds (ps := ["_law_script"]) fun _ _ _ _ _ _ us hl => match us, hl with | [_], _ => rfl
  have e := hfa.symm.trans g_sLaw
  cases e
  refine ⟨fd_sLaw, fun s v => ?_, fun base => ?_⟩
  · obtain ⟨oc, od, kV, doc, pm, an, cdv, ct, osl, rfl, _, _⟩ := F_sLaw.ex
    exact .of_eq rfl
  have wh3 : Cal P w K mg base CX0 1 "is_whole" ["thing", "low", "high"] spWh := ⟨fW, fdW, ok_wh FW B, gW, FW.kp, b3⟩
  have wh2 : CalD P w K mg base CX0 1 "is_whole" ["thing", "low", "high"] spWh [.non] := ⟨fW, fdW, ds2, ok_wh FW B, gW, FW.kp, b2, vs2⟩
  have wh1 : CalD P w K mg base CX0 1 "is_whole" ["thing", "low", "high"] spWh [.non, .non] := ⟨fW, fdW, ds1, ok_wh FW B, gW, FW.kp, b1, vs1⟩
  have c_sSeq : Cal P w K mg base CX0 1 "is_sequence" ["thing"] spSeq := ⟨f_sSeq, fd_sSeq, ok_seq F_sSeq B, g_sSeq, F_sSeq.kp, b_sSeq⟩
  have c_sCS : Cal P w K mg base (L2.CX P w) 2 "check_stands" ["v"] (spCS CS) := ⟨f_sCS, fd_sCS, ok_cs F_sCS ZS wh3, g_sCS, F_sCS.kp, b_sCS⟩
  have c_sAS : Cal P w K mg base (L2.CX P w) 3 "all_stands" ["v"] (spAS CS) := ⟨f_sAS, fd_sAS, ok_as F_sAS c_sCS, g_sAS, F_sAS.kp, b_sAS⟩
  have c_sCL : Cal P w K mg base (L2.CX P w) 4 "check_lot" ["v", "lot"] (spCL CS CL) := ⟨f_sCL, fd_sCL, ok_cl F_sCL ZL wh3 c_sAS, g_sCL, F_sCL.kp, b_sCL⟩
  have c_sCLs : Cal P w K mg base (L2.CX P w) 4 "check_lots" ["v", "lots"] (spCLs K CS CL) := ⟨f_sCLs, fd_sCLs, ok_cls F_sCLs B ZL wh3 c_sAS c_sSeq, g_sCLs, F_sCLs.kp, b_sCLs⟩
  have c_sLO : Cal P w K mg base (L2.CX P w) 2 "lot_of" ["stands"] (spLO K CL) := ⟨f_sLO, fd_sLO, ok_lo F_sLO ZL wh3 c_sSeq, g_sLO, F_sLO.kp, b_sLO⟩
  have c_sSO : Cal P w K mg base (L2.CX P w) 5 "stands_of" ["lot"] (spSO CL) := ⟨f_sSO, fd_sSO, ok_so F_sSO B c_sCL, g_sSO, F_sSO.kp, b_sSO⟩
  have c_sZO : Cal P w K mg base (L2.CX P w) 6 "size_of" ["lot"] (spZO CL) := ⟨f_sZO, fd_sZO, ok_zo F_sZO B c_sSO, g_sZO, F_sZO.kp, b_sZO⟩
  have c_sIW : Cal P w K mg base (L2.CX P w) 5 "is_within" ["one", "other"] (spIW CL) := ⟨f_sIW, fd_sIW, ok_iw F_sIW c_sCL, g_sIW, F_sIW.kp, b_sIW⟩
  have c_sLT : Cal P w K mg base (L2.CX P w) 6 "lot_text" ["lot"] (spLT CL) := ⟨f_sLT, fd_sLT, ok_lt F_sLT B c_sSO, g_sLT, F_sLT.kp, b_sLT⟩
  have c_sHd : Cal P w K mg base CX0 1 "_law_hand" ["_law_script"] (spHd K) := ⟨f_sHd, fd_sHd, ok_hd F_sHd B, g_sHd, F_sHd.kp, b_sHd⟩
  have c_sMx : Cal P w K mg base CX0 1 "_law_mixed" ["_law_number", "_law_turn"] spMx := ⟨f_sMx, fd_sMx, ok_mx F_sMx B, g_sMx, F_sMx.kp, b_sMx⟩
  have c_sTk : Cal P w K mg base CX0 2 "_law_take" ["_law_hand_here", "_law_many"] spTk := ⟨f_sTk, fd_sTk, ok_tk F_sTk B c_sMx, g_sTk, F_sTk.kp, b_sTk⟩
  have c_sEv : Cal P w K mg base CX0 1 "_law_every" ["_law_v"] spEv := ⟨f_sEv, fd_sEv, ok_ev F_sEv, g_sEv, F_sEv.kp, b_sEv⟩
  have c_sLs : Cal P w K mg base CX0 3 "_law_list" ["_law_hand_here", "_law_items"] spLs := ⟨f_sLs, fd_sLs, ok_ls F_sLs B c_sTk, g_sLs, F_sLs.kp, b_sLs⟩
  have c_sIn : Cal P w K mg base CX0 1 "_law_int" ["_law_thing_here"] spIn := ⟨f_sIn, fd_sIn, ok_in F_sIn B, g_sIn, F_sIn.kp, b_sIn⟩
  have c1_sEx : Cal P w K mg base CX0 2 "_law_exact" ["_law_told", "_law_due"] spX1 := ⟨f_sEx, fd_sEx, ok_x1 F_sEx B c_sIn, g_sEx, F_sEx.kp, b_sEx⟩
  have c_sEx : Cal P w K mg base CX0 3 "_law_exact" ["_law_told", "_law_due"] spX := ⟨f_sEx, fd_sEx, ok_x ((ok_x1 F_sEx B c_sIn).mono (by decide)) (ok_x2 F_sEx B c1_sEx), g_sEx, F_sEx.kp, b_sEx⟩
  have c_sRd : Cal P w K mg base CX0 3 "_law_rid" ["_law_hand_here"] spRd := ⟨f_sRd, fd_sRd, ok_rd F_sRd c_sTk, g_sRd, F_sRd.kp, b_sRd⟩
  have c_sTS : Cal P w K mg base CX0 3 "_law_told_stands" ["_law_v"] spTS := ⟨f_sTS, fd_sTS, ok_ts F_sTS ZS c_sCS, g_sTS, F_sTS.kp, b_sTS⟩
  have c_sTA : Cal P w K mg base CX0 4 "_law_told_all" ["_law_v"] spTA := ⟨f_sTA, fd_sTA, ok_ta F_sTA ZS c_sAS, g_sTA, F_sTA.kp, b_sTA⟩
  have c_sTL : Cal P w K mg base CX0 5 "_law_told_lot" ["_law_v", "_law_lot"] spTL := ⟨f_sTL, fd_sTL, ok_tl F_sTL ZS ZL hx c_sCL, g_sTL, F_sTL.kp, b_sTL⟩
  have c_sTLs : Cal P w K mg base CX0 5 "_law_told_lots" ["_law_v", "_law_lots"] (spTLs K) := ⟨f_sTLs, fd_sTLs, ok_tls F_sTLs ZS ZL hx c_sCLs, g_sTLs, F_sTLs.kp, b_sTLs⟩
  have c_sTO : Cal P w K mg base CX0 3 "_law_told_of" ["_law_stands"] (spTO K) := ⟨f_sTO, fd_sTO, ok_to F_sTO ZL c_sLO, g_sTO, F_sTO.kp, b_sTO⟩
  have c_sTF : Cal P w K mg base CX0 7 "_law_told_from" ["_law_which", "_law_lot"] spTF := ⟨f_sTF, fd_sTF, ok_tf F_sTF ZL c_sSO c_sZO c_sLT, g_sTF, F_sTF.kp, b_sTF⟩
  have c_sTW : Cal P w K mg base CX0 6 "_law_told_within" ["_law_one", "_law_other"] spTW := ⟨f_sTW, fd_sTW, ok_tw F_sTW ZL c_sIW, g_sTW, F_sTW.kp, b_sTW⟩
  have c_sGd : Cal P w K mg base CX0 2 "_law_good" ["_law_v", "_law_lot"] spGd := ⟨f_sGd, fd_sGd, ok_gd F_sGd c_sIn c_sEv, g_sGd, F_sGd.kp, b_sGd⟩
  have c_sTh : Cal P w K mg base CX0 4 "_law_thing" ["_law_hand_here", "_law_v"] spTh := ⟨f_sTh, fd_sTh, ok_th F_sTh c_sTk c_sRd c_sEv, g_sTh, F_sTh.kp, b_sTh⟩
  have c_sLR : Cal P w K mg base CX0 6 "_law_lots_right" ["_law_hand_here", "_law_v", "_law_good_here"] spLR := ⟨f_sLR, fd_sLR, ok_lr F_sLR B c_sTk c_sTh c_sGd c_sLs c_sEx c_sTLs, g_sLR, F_sLR.kp, b_sLR⟩
  have c_sSR : Cal P w K mg base CX0 4 "_law_stands_right" ["_law_hand_here"] spHR := ⟨f_sSR, fd_sSR, ok_sr F_sSR B c_sTk c_sIn c_sLs c_sEx c_sTO, g_sSR, F_sSR.kp, b_sSR⟩
  have c_sLt : Cal P w K mg base CX0 8 "_law_lot_right" ["_law_lot", "_law_other"] spLt := ⟨f_sLt, fd_sLt, ok_ltr F_sLt B c_sEx c_sTF c_sTO c_sTW, g_sLt, F_sLt.kp, b_sLt⟩
  have c_sRR : Cal P w K mg base CX0 8 "_law_refused_right" ["_law_hand_here"] spHR := ⟨f_sRR, fd_sRR, ok_rr F_sRR B c_sTk c_sRd c_sTF c_sTW, g_sRR, F_sRR.kp, b_sRR⟩
  have c_sKR : Cal P w K mg base CX0 4 "_law_kinds_right" ["_law_hand_here"] spHR := ⟨f_sKR, fd_sKR, ok_kr F_sKR B c_sTk c_sIn c_sEx wh3 wh2 wh1 c_sSeq, g_sKR, F_sKR.kp, b_sKR⟩
  exact ok_law F_sLaw B c_sHd c_sTk c_sEx c_sTS c_sTA c_sEv c_sTL c_sTh c_sGd c_sLR c_sSR c_sTLs c_sLt c_sRR c_sKR
end
theorem walk {l : PySem.W.OpenLaw} {q : Program} {loose : List Str} {XP : (Str → Option Value) → Heap → Prop} {YP : World → Heap → Prop} {d : DefRec} {K : Params → PySem.W.Frag} (hn : l.most = some 63) (hdf : d.params.defaults = [])
    (hY : ∀ (w : World) (h : Heap), YP w h → (K w.params).In h)
    (F : ∀ (w : World) (mg : Str → Option Value) (fa : Addr) (h : Heap), (K w.params).In h → h.Ns mainGlobals mg → mg d.name = some (.ref fa) →
      ∃ fd : FuncData, (∀ (s : Shared) (u : Value), BindsTo s fd ⟨[u], []⟩ [("_law_script", u)]) ∧ ∀ base : Heap, FnOk l.prog w (K w.params) mg base CX0 9 fa fd ["_law_script"] (spLaw (K w.params))) :
    PySem.W.WalkO q loose XP YP l.row.toRowW d [] (fun f vs => PySem.call f vs) :=
  L2.walk_of (n := 63) (k := 9) (x := "_law_script") (CX := fun _ => CX0) (sp := fun w => spLaw (K w.params)) hn (by decide) hdf ⟨rfl, by decide, by decide⟩ hY (fun w mg fa h X G m => by
      obtain ⟨fd, hb, hF⟩ := F w mg fa h X G m
      exact ⟨fd, hb, fun base _ _ => hF base⟩) (fun _ _ a ns hl _ hS => ⟨a, ns, rfl, hS, hl, fun _ => rfl⟩) fun _ _ _ _ _ z => z
end Lot
open PySem PySem.W PyProof.Rows
set_option maxRecDepth 100000 in
set_option maxHeartbeats 0 in
theorem PySem.Challenge.cw_truealarms_k00_whole_lots_and_their_stan_holds : PySem.Challenge.rw_truealarms_k00_whole_lots_and_their_stan.Holds := by
  w_on; o_law; k_head; (case hw => w_witness2)
  k_fill
  refine Lot.walk (l := PySem.Challenge.rw_truealarms_k00_whole_lots_and_their_stan) rfl rfl (fun w h Y => PySem.W.kIn_of Y) ?F
  case F =>
    intro w mg fa h KX G hmg
    refine' Lot.all_mk hmg ?B ?er ?wh ?d_sSeq ?d_sCS ?d_sAS ?d_sCL ?d_sCLs ?d_sLO ?d_sSO ?d_sZO ?d_sIW ?d_sLT ?d_sHd ?d_sMx ?d_sTk ?d_sEv ?d_sLs ?d_sIn ?d_sEx ?d_sRd ?d_sTS ?d_sTA ?d_sTL ?d_sTLs ?d_sTO ?d_sTF ?d_sTW ?d_sGd ?d_sTh ?d_sLR ?d_sSR ?d_sLt ?d_sRR ?d_sKR ?d_sLaw
    case er =>
      refine' Lot.mk_errs KX G ?aS ?eS ?kS ?bS ?tS ?iS ?sS ?aL ?eL ?kL ?bL ?tL ?iL ?sL ?x
      (case aS => k_is); (case eS => k_exc); (case kS => k_is); (case bS => k_is); (case tS => k_is); (case iS => k_is); (case sS => first | rfl | k_is); (case aL => k_is); (case eL => k_exc); (case kL => k_is); (case bL => k_is); (case tL => k_is); (case iL => k_is); (case sL => first | rfl | k_is); (case x => k_is)
    case wh =>
      refine' Lot.mk_wh KX G ?a ?l ?lT ?c ?k
      (case a => k_is); (case l => k_is); (case lT => k_is); (case c => k_is); (case k => k_is)
    case B =>
      refine' Lot.mk_bt KX G ?z0 ?z1 ?z2 ?z3 ?z4 ?z5 ?z6 ?z7 ?z8
      (case z0 => k_is); (case z1 => k_is); (case z2 => k_is); (case z3 => k_is); (case z4 => k_is); (case z5 => k_is); (case z6 => k_is); (case z7 => k_is); (case z8 => k_is)
    case d_sSeq =>
      refine' Lot.mk_def KX G ?a ?l ?c ?k
      (case a => k_is); (case l => k_is); (case c => k_is); (case k => k_is)
    case d_sCS =>
      refine' Lot.mk_def KX G ?a ?l ?c ?k
      (case a => k_is); (case l => k_is); (case c => k_is); (case k => k_is)
    case d_sAS =>
      refine' Lot.mk_def KX G ?a ?l ?c ?k
      (case a => k_is); (case l => k_is); (case c => k_is); (case k => k_is)
    case d_sCL =>
      refine' Lot.mk_def KX G ?a ?l ?c ?k
      (case a => k_is); (case l => k_is); (case c => k_is); (case k => k_is)
    case d_sCLs =>
      refine' Lot.mk_def KX G ?a ?l ?c ?k
      (case a => k_is); (case l => k_is); (case c => k_is); (case k => k_is)
    case d_sLO =>
      refine' Lot.mk_def KX G ?a ?l ?c ?k
      (case a => k_is); (case l => k_is); (case c => k_is); (case k => k_is)
    case d_sSO =>
      refine' Lot.mk_def KX G ?a ?l ?c ?k
      (case a => k_is); (case l => k_is); (case c => k_is); (case k => k_is)
    case d_sZO =>
      refine' Lot.mk_def KX G ?a ?l ?c ?k
      (case a => k_is); (case l => k_is); (case c => k_is); (case k => k_is)
    case d_sIW =>
      refine' Lot.mk_def KX G ?a ?l ?c ?k
      (case a => k_is); (case l => k_is); (case c => k_is); (case k => k_is)
    case d_sLT =>
      refine' Lot.mk_def KX G ?a ?l ?c ?k
      (case a => k_is); (case l => k_is); (case c => k_is); (case k => k_is)
    case d_sHd =>
      refine' Lot.mk_def KX G ?a ?l ?c ?k
      (case a => k_is); (case l => k_is); (case c => k_is); (case k => k_is)
    case d_sMx =>
      refine' Lot.mk_def KX G ?a ?l ?c ?k
      (case a => k_is); (case l => k_is); (case c => k_is); (case k => k_is)
    case d_sTk =>
      refine' Lot.mk_def KX G ?a ?l ?c ?k
      (case a => k_is); (case l => k_is); (case c => k_is); (case k => k_is)
    case d_sEv =>
      refine' Lot.mk_def KX G ?a ?l ?c ?k
      (case a => k_is); (case l => k_is); (case c => k_is); (case k => k_is)
    case d_sLs =>
      refine' Lot.mk_def KX G ?a ?l ?c ?k
      (case a => k_is); (case l => k_is); (case c => k_is); (case k => k_is)
    case d_sIn =>
      refine' Lot.mk_def KX G ?a ?l ?c ?k
      (case a => k_is); (case l => k_is); (case c => k_is); (case k => k_is)
    case d_sEx =>
      refine' Lot.mk_def KX G ?a ?l ?c ?k
      (case a => k_is); (case l => k_is); (case c => k_is); (case k => k_is)
    case d_sRd =>
      refine' Lot.mk_def KX G ?a ?l ?c ?k
      (case a => k_is); (case l => k_is); (case c => k_is); (case k => k_is)
    case d_sTS =>
      refine' Lot.mk_def KX G ?a ?l ?c ?k
      (case a => k_is); (case l => k_is); (case c => k_is); (case k => k_is)
    case d_sTA =>
      refine' Lot.mk_def KX G ?a ?l ?c ?k
      (case a => k_is); (case l => k_is); (case c => k_is); (case k => k_is)
    case d_sTL =>
      refine' Lot.mk_def KX G ?a ?l ?c ?k
      (case a => k_is); (case l => k_is); (case c => k_is); (case k => k_is)
    case d_sTLs =>
      refine' Lot.mk_def KX G ?a ?l ?c ?k
      (case a => k_is); (case l => k_is); (case c => k_is); (case k => k_is)
    case d_sTO =>
      refine' Lot.mk_def KX G ?a ?l ?c ?k
      (case a => k_is); (case l => k_is); (case c => k_is); (case k => k_is)
    case d_sTF =>
      refine' Lot.mk_def KX G ?a ?l ?c ?k
      (case a => k_is); (case l => k_is); (case c => k_is); (case k => k_is)
    case d_sTW =>
      refine' Lot.mk_def KX G ?a ?l ?c ?k
      (case a => k_is); (case l => k_is); (case c => k_is); (case k => k_is)
    case d_sGd =>
      refine' Lot.mk_def KX G ?a ?l ?c ?k
      (case a => k_is); (case l => k_is); (case c => k_is); (case k => k_is)
    case d_sTh =>
      refine' Lot.mk_def KX G ?a ?l ?c ?k
      (case a => k_is); (case l => k_is); (case c => k_is); (case k => k_is)
    case d_sLR =>
      refine' Lot.mk_def KX G ?a ?l ?c ?k
      (case a => k_is); (case l => k_is); (case c => k_is); (case k => k_is)
    case d_sSR =>
      refine' Lot.mk_def KX G ?a ?l ?c ?k
      (case a => k_is); (case l => k_is); (case c => k_is); (case k => k_is)
    case d_sLt =>
      refine' Lot.mk_def KX G ?a ?l ?c ?k
      (case a => k_is); (case l => k_is); (case c => k_is); (case k => k_is)
    case d_sRR =>
      refine' Lot.mk_def KX G ?a ?l ?c ?k
      (case a => k_is); (case l => k_is); (case c => k_is); (case k => k_is)
    case d_sKR =>
      refine' Lot.mk_def KX G ?a ?l ?c ?k
      (case a => k_is); (case l => k_is); (case c => k_is); (case k => k_is)
    case d_sLaw =>
      refine' Lot.mk_def KX G ?a ?l ?c ?k
      (case a => k_is); (case l => k_is); (case c => k_is); (case k => k_is)

