import PyProof.Rows.All
import Wide.All
import OpenK.AllK
import Wide.FinOn
import HandS.ForMost
import HandS.Exc
import HandS.FStr
import HandS.IsInst
import HandS.Wide
import HandS.Deep
import HandS.EndBits
import HandS.ExcInit
import HandS.WordsExc
import HandS.ExcField
import HandS.StrMore
import HandS.ExcValue
import HandS.ExcIs
import PySem.Challenge.RW_boastrow_k96_whole_texts_read_back
set_option Elab.async false
set_option linter.all false
set_option maxRecDepth 100000
set_option maxHeartbeats 4000000
/-! The text by places, and short words. -/
namespace Bo
open PySem L2
def top (i : Nat) : Stmt := PySem.Challenge.pw_boastrow_k96_whole_texts_read_back.main.body.getD i (.Pass ⟨0, 0, 0, 0⟩)
abbrev sNoText : Stmt := inClass (top 6) 0
abbrev sIsNumber : Stmt := top 8
abbrev sIsSaying : Stmt := top 9
abbrev sIsRow : Stmt := top 10
abbrev sPeopleSaid : Stmt := top 14
abbrev sPeopleOf : Stmt := top 15
abbrev sIsLong : Stmt := top 16
abbrev sIsStep : Stmt := top 18
abbrev sIsTable : Stmt := top 19
abbrev sIsStretch : Stmt := top 20
abbrev sPlain : Stmt := top 22
abbrev sIsEntry : Stmt := top 23
abbrev sIsShelf : Stmt := top 24
abbrev sEndText : Stmt := top 27
abbrev sPartText : Stmt := top 28
abbrev sRowText : Stmt := top 29
abbrev sShowRow : Stmt := top 30
abbrev sShowTable : Stmt := top 31
abbrev sShowStretches : Stmt := top 32
abbrev sShowShelf : Stmt := top 33
abbrev sWordsIn : Stmt := top 34
abbrev sNumberIn : Stmt := top 35
abbrev sPairIn : Stmt := top 36
abbrev sStretchIn : Stmt := top 37
abbrev sInit : Stmt := inClass (top 38) 0
abbrev sBegin : Stmt := inClass (top 38) 1
abbrev sClose : Stmt := inClass (top 38) 2
abbrev sTake : Stmt := inClass (top 38) 3
abbrev sReadRow : Stmt := top 39
abbrev sReadTable : Stmt := top 40
abbrev sReadLot : Stmt := top 41
abbrev sReadStretches : Stmt := top 42
abbrev sReadShelf : Stmt := top 43
abbrev sTin : Stmt := top 45
abbrev sDeal : Stmt := top 46
abbrev sBack : Stmt := top 47
abbrev sRefusedAt : Stmt := top 48
abbrev sDeep : Stmt := top 49
abbrev sLaw : Stmt := top 50

/-- the built-in names stand as they are -/
structure Bi (mg : Str → Option Value) : Prop where
  isinst : mg "isinstance" = none
  int : mg "int" = none
  bool : mg "bool" = none
  tuple : mg "tuple" = none
  list : mg "list" = none
  str : mg "str" = none
  all : mg "all" = none
  len : mg "len" = none
  zip : mg "zip" = none
  enumerate : mg "enumerate" = none
  range : mg "range" = none
  max : mg "max" = none
  min : mg "min" = none
  abs : mg "abs" = none

/-- a def that keeps a promise, as its callers want it -/
structure Cal (P : Program) (w : World) (K : PySem.W.Frag) (mg : Str → Option Value) (base : Heap) (CX : CXT) (k : Nat) (x : Str) (ps : List Str) (sp : Sp) : Prop where
  ex : ∃ (f : Addr) (fd : FuncData), FnOk P w K mg base CX k f fd ps sp ∧ mg x = some (.ref f) ∧ PySem.W.keepIn K (.ref f) = true ∧ Binds K fd ps []
section
variable {X : Cx} {CX : CXT} {k : Nat} {x : Str} {ps : List Str} {sp : Sp} {E : XK} {p pos : Pos} {e : Expr} {es : List Expr} {t : TA}
theorem cal (C : Cal X.prog X.w X.K X.mg X.base CX k x ps sp) (hr : Room k X.A) (hx : Passes CX X E) (ha : PA X (e :: es) t) (hg : Gl X x := by rfl)
    (hdb : (x == ("__debug__" : Str)) = false := by decide) (he : starEach (e :: es) X.env = (false, eval e X.env) :: starEach es X.env := by rfl) (hpl : (backTo pos (starEach es X.env)).any (·.1) = false := by rfl) :
    PE X (.Call (.Name x p) (e :: es) [] pos) (tCall sp [] E t) := by
  obtain ⟨f, fd, F, m, kp, b⟩ := C.ex
  exact pe_call F hr hg m kp b .nil hx ha hdb he hpl
end
theorem same_new {H : Hp} {p : Addr} (h : H p = none) (o : HO) : Same H (upd H p o) := fun b u q => by rw [upd_ne (ne_of_none q h)]; exact q
theorem small {n : Nat} (h : n ≤ 1000) : n ≤ sizeLine := Nat.le_of_lt (small1000 h)
theorem Same.tup {K : PySem.W.Frag} {H H' : Hp} {a : Addr} {xs : List V} (e : Same H H') (h : SqT K H a xs) : SqT K H' a xs := by
  rcases h with (h | ⟨o, h⟩) | h
  · exact .inl (.inl (e _ _ h))
  · exact .inl (.inr ⟨o, e _ _ h⟩)
  · exact .inr h
end Bo

namespace Bo
open PySem L2 PyProof.Rows
/-! ### the data -/
def endV : Option Int → V
  | none => .non
  | some m => .int m
def pairV (l : Int) (m : Option Int) : List V := [.int l, endV m]
def nnE : Option Int → Prop
  | none => True
  | some m => 0 ≤ m
/-- a saying or stretch is well said -/
def sayB (l : Int) : Option Int → Bool
  | none => true
  | some m => decide (l ≤ m)
/-! ### promises -/
def spNum : Sp := fun vs H Q _ => ∃ i : Int, vs = [.int i] ∧ Q (.bl (decide (0 ≤ i))) H
/-- of a pair -/
def spSay : Sp := fun vs H Q _ => ∃ (a : Addr) (l : Int) (m : Option Int), vs = [.ref a] ∧ H a = some (.tup (pairV l m)) ∧ 0 ≤ l ∧ nnE m ∧ Q (.bl (sayB l m)) H
/-- of an again -/
def againV (n : Int) (b : Addr) : List V := [.str "again", .int n, .ref b]
def spSayA : Sp := fun vs H Q _ => ∃ (a : Addr) (n : Int) (b : Addr), vs = [.ref a] ∧ H a = some (.tup (againV n b)) ∧ Q (.bl false) H
def spSay2 : Sp := fun vs H Q E => spSay vs H Q E ∨ spSayA vs H Q E
def spStep : Sp := fun vs H Q _ => ∃ (a : Addr) (i j : Int), vs = [.ref a] ∧ H a = some (.tup [.int i, .int j]) ∧ 0 ≤ i ∧ 0 ≤ j ∧ Q (.bl true) H

section
variable {X : Cx}
theorem at0 {a b : V} {r : List V} : atI (a :: b :: r) 0 = some a := atI_nat (j := 0) rfl
theorem at1 {a b : V} {r : List V} : atI (a :: b :: r) 1 = some b := atI_nat (j := 1) rfl
/-- a built-in type as a value -/
theorem pe_ty {x : Str} {T : String} {pos : Pos} (hg : Gl X x) (hm : X.mg x = none) (hb : bootBuiltins x = some (.type T)) (hn : x ≠ "__name__" := by decide) (hd : (x == ("__debug__" : Str)) = false := by decide) : PE X (.Name x pos) (tC (.ty T)) :=
  pe_bltn hg hm hb (show RelV (.ty T) (.type T) from rfl) hn hd
/-- isinstance(x, T) of a built-in type -/
theorem pe_isi {x : Str} {e : Expr} {te : TE} {T : String} {p q pos : Pos} (B : Bi X.mg) (he : PE X e te) (hg : Gl X "isinstance") (hx : Gl X x) (hm : X.mg x = none) (hb : bootBuiltins x = some (.type T))
    (hs : starEach [e, .Name x q] X.env = (false, eval e X.env) :: starEach [.Name x q] X.env := by rfl) (hpl : (backTo pos (starEach [.Name x q] X.env)).any (·.1) = false := by rfl) (hn : x ≠ "__name__" := by decide) (hd : (x == ("__debug__" : Str)) = false := by decide) :
    PE X (.Call (.Name "isinstance" p) [e, .Name x q] [] pos) (tCB (rIsi X.K) (tCons te (tCons (tC (.ty T)) tNil))) :=
  pe_callB (he := hs) (hpl := hpl) call_isi hg B.isinst boot_isinstance (pa_cons he (pa_cons (pe_bltn hx hm hb (show RelV (.ty T) (.type T) from rfl) hn hd) pa_nil) hs)
end

section
variable {P : Program} {w : World} {K : PySem.W.Frag} {mg : Str → Option Value} {base : Heap}
theorem scNum : FnScope ["thing"] ["thing"] (defScope sIsNumber) := ⟨rfl, rfl, rfl, by decide +kernel, rfl, by decide +kernel, by decide +kernel⟩
theorem ok_num {f : Addr} {fd : FuncData} (F : Fun K "is_number" "is_number" sIsNumber f fd) (B : Bi mg) : FnOk P w K mg base CX0 1 f fd ["thing"] spNum := by
  refine F.ok scNum (fun vs H Q E h => ?_) (fun cdv A outer s H vs Q E hr h => ?_)
  · obtain ⟨i, rfl, _⟩ := h
    rfl
  obtain ⟨i, rfl, q⟩ := h
  refine ⟨_, pss_one (ps_ret (pe_and (pe_isi B (pv 0) rfl rfl B.int boot_int) (pe_and (pe_not (pe_isi B (pv 0) rfl rfl B.bool boot_bool)) (pe_one (pe_cmpR op_ge (pv 0) pe_int (nomark _)))))), ?_⟩
  refine ⟨_, rfl, .int i, .ty "int", _, _, true, rfl, .ty "int", .base (.int i), kit_ty (by decide +kernel), _, rfl, iteT ?_⟩
  refine ⟨_, rfl, .int i, .ty "bool", _, _, false, rfl, .ty "bool", .base (.int i), kit_ty (by decide +kernel), _, rfl, _, rfl, iteT ?_⟩
  exact ⟨_, rfl, _, _, rfl, rfl, q⟩

abbrev CNum (P : Program) (w : World) (K : PySem.W.Frag) (mg : Str → Option Value) (base : Heap) : Prop := Cal P w K mg base CX0 1 "is_number" ["thing"] spNum
/-- the shape that is_saying and is_stretch share -/
theorem scSay : FnScope ["thing"] ["thing"] (defScope sIsSaying) := ⟨rfl, rfl, rfl, by decide +kernel, rfl, by decide +kernel, by decide +kernel⟩
theorem ok_say {f : Addr} {fd : FuncData} (F : Fun K "is_saying" "is_saying" sIsSaying f fd) (B : Bi mg) (N : CNum P w K mg base) : FnOk P w K mg base CX0 2 f fd ["thing"] spSay2 := by
  refine F.ok scSay (fun vs H Q E h => ?_) (fun cdv A outer s H vs Q E hr h => ?_)
  · rcases h with ⟨a, l, m, rfl, _⟩ | ⟨a, n, b, rfl, _⟩
    · rfl
    · rfl
  refine ⟨_, pss_cons (ps_if (PW.pt (pw_or (pt_not (pt_val (pe_isi B (pv 0) rfl rfl B.tuple boot_tuple))) (pw_or (pt_cmpR op_ne (pe_callB call_len_seq (by rfl) B.len PySem.boot_len (pa_cons (pv 0) pa_nil)) pe_int (nomark _))
      (pw_or1 (pt_not (pt_val (cal N hr pass0 (pa_cons (pe_ix ix_tup (pv 0) pe_int (fun _ _ => rfl)) pa_nil)))))))) (pss_one (ps_ret pe_bl)) pss_nil)
    (pss_one (ps_ret (pe_or (pe_cmpR op_isN (pe_ix ix_tup (pv 0) pe_int (fun _ _ => rfl)) pe_non (nomark _))
      (pe_one (pe_and (cal N hr pass0 (pa_cons (pe_ix ix_tup (pv 0) pe_int (fun _ _ => rfl)) pa_nil)) (pe_one (pe_cmpR op_ge (pe_ix ix_tup (pv 0) pe_int (fun _ _ => rfl)) (pe_ix ix_tup (pv 0) pe_int (fun _ _ => rfl)) (nomark _)))))))), ?_⟩
  rcases h with ⟨a, l, m, rfl, ha, h0, h1, q⟩ | ⟨a, n, b, rfl, ha, q⟩
  · have hT := SqT.of (K := K) ha
    refine ⟨_, rfl, .ref a, .ty "tuple", _, _, true, rfl, .ty "tuple", .base (.tup ha), kit_ty (by decide +kernel), _, rfl, iteF ?_⟩
    refine ⟨_, rfl, a, _, rfl, .inr hT, rfl, _, rfl, iteF ?_⟩
    refine ⟨_, rfl, a, _, 0, _, rfl, rfl, hT, at0, l, rfl, _, rfl, ?_⟩
    rw [decide_eq_true h0]
    refine iteF ?_
    refine ⟨_, rfl, a, _, 1, _, rfl, rfl, hT, at1, rfl, ?_⟩
    cases m with
    | none => exact ⟨_, rfl, iteT q⟩
    | some m =>
      refine ⟨_, rfl, iteF ?_⟩
      refine ⟨_, rfl, a, _, 1, _, rfl, rfl, hT, at1, m, rfl, _, rfl, ?_⟩
      have h1' : (0 : Int) ≤ m := h1
      rw [decide_eq_true h1']
      refine iteT ⟨_, rfl, a, _, 1, _, rfl, rfl, hT, at1, _, rfl, a, _, 0, _, rfl, rfl, hT, at0, _, _, rfl, rfl, q⟩
  · have hT := SqT.of (K := K) ha
    refine ⟨_, rfl, .ref a, .ty "tuple", _, _, true, rfl, .ty "tuple", .base (.tup ha), kit_ty (by decide +kernel), _, rfl, iteF ?_⟩
    exact ⟨_, rfl, a, _, rfl, .inr hT, rfl, _, rfl, iteT q⟩
theorem scStr : FnScope ["thing"] ["thing"] (defScope sIsStretch) := ⟨rfl, rfl, rfl, by decide +kernel, rfl, by decide +kernel, by decide +kernel⟩
theorem ok_stretch {f : Addr} {fd : FuncData} (F : Fun K "is_stretch" "is_stretch" sIsStretch f fd) (B : Bi mg) (N : CNum P w K mg base) : FnOk P w K mg base CX0 2 f fd ["thing"] spSay := by
  refine F.ok scStr (fun vs H Q E h => ?_) (fun cdv A outer s H vs Q E hr h => ?_)
  · obtain ⟨a, l, m, rfl, _⟩ := h
    rfl
  refine ⟨_, pss_cons (ps_if (PW.pt (pw_or (pt_not (pt_val (pe_isi B (pv 0) rfl rfl B.tuple boot_tuple))) (pw_or (pt_cmpR op_ne (pe_callB call_len_seq (by rfl) B.len PySem.boot_len (pa_cons (pv 0) pa_nil)) pe_int (nomark _))
      (pw_or1 (pt_not (pt_val (cal N hr pass0 (pa_cons (pe_ix ix_tup (pv 0) pe_int (fun _ _ => rfl)) pa_nil)))))))) (pss_one (ps_ret pe_bl)) pss_nil)
    (pss_one (ps_ret (pe_or (pe_cmpR op_isN (pe_ix ix_tup (pv 0) pe_int (fun _ _ => rfl)) pe_non (nomark _))
      (pe_one (pe_and (cal N hr pass0 (pa_cons (pe_ix ix_tup (pv 0) pe_int (fun _ _ => rfl)) pa_nil)) (pe_one (pe_cmpR op_ge (pe_ix ix_tup (pv 0) pe_int (fun _ _ => rfl)) (pe_ix ix_tup (pv 0) pe_int (fun _ _ => rfl)) (nomark _)))))))), ?_⟩
  obtain ⟨a, l, m, rfl, ha, h0, h1, q⟩ := h
  have hT := SqT.of (K := K) ha
  refine ⟨_, rfl, .ref a, .ty "tuple", _, _, true, rfl, .ty "tuple", .base (.tup ha), kit_ty (by decide +kernel), _, rfl, iteF ?_⟩
  refine ⟨_, rfl, a, _, rfl, .inr hT, rfl, _, rfl, iteF ?_⟩
  refine ⟨_, rfl, a, _, 0, _, rfl, rfl, hT, at0, l, rfl, _, rfl, ?_⟩
  rw [decide_eq_true h0]
  refine iteF ?_
  refine ⟨_, rfl, a, _, 1, _, rfl, rfl, hT, at1, rfl, ?_⟩
  cases m with
  | none => exact ⟨_, rfl, iteT q⟩
  | some m =>
    refine ⟨_, rfl, iteF ?_⟩
    refine ⟨_, rfl, a, _, 1, _, rfl, rfl, hT, at1, m, rfl, _, rfl, ?_⟩
    have h1' : (0 : Int) ≤ m := h1
    rw [decide_eq_true h1']
    refine iteT ⟨_, rfl, a, _, 1, _, rfl, rfl, hT, at1, _, rfl, a, _, 0, _, rfl, rfl, hT, at0, _, _, rfl, rfl, q⟩
theorem scStep : FnScope ["thing"] ["thing"] (defScope sIsStep) := ⟨rfl, rfl, rfl, by decide +kernel, rfl, by decide +kernel, by decide +kernel⟩
theorem ok_step {f : Addr} {fd : FuncData} (F : Fun K "is_step" "is_step" sIsStep f fd) (B : Bi mg) (N : CNum P w K mg base) : FnOk P w K mg base CX0 2 f fd ["thing"] spStep := by
  refine F.ok scStep (fun vs H Q E h => ?_) (fun cdv A outer s H vs Q E hr h => ?_)
  · obtain ⟨a, i, j, rfl, _⟩ := h
    rfl
  refine ⟨_, pss_one (ps_ret (pe_and (pe_isi B (pv 0) rfl rfl B.tuple boot_tuple) (pe_and (pe_cmpR op_eq (pe_callB call_len_seq (by rfl) B.len PySem.boot_len (pa_cons (pv 0) pa_nil)) pe_int (nomark _))
      (pe_and (cal N hr pass0 (pa_cons (pe_ix ix_tup (pv 0) pe_int (fun _ _ => rfl)) pa_nil)) (pe_one (cal N hr pass0 (pa_cons (pe_ix ix_tup (pv 0) pe_int (fun _ _ => rfl)) pa_nil))))))), ?_⟩
  obtain ⟨a, i, j, rfl, ha, h0, h1, q⟩ := h
  have hT := SqT.of (K := K) ha
  refine ⟨_, rfl, .ref a, .ty "tuple", _, _, true, rfl, .ty "tuple", .base (.tup ha), kit_ty (by decide +kernel), _, rfl, iteT ?_⟩
  refine ⟨_, rfl, a, _, rfl, .inr hT, rfl, _, rfl, iteT ?_⟩
  refine ⟨_, rfl, a, _, 0, _, rfl, rfl, hT, at0, i, rfl, _, rfl, ?_⟩
  rw [decide_eq_true h0]
  refine iteT ⟨_, rfl, a, _, 1, _, rfl, rfl, hT, at1, j, rfl, ?_⟩
  rw [decide_eq_true h1]
  exact q
end
end Bo

namespace Bo
open PySem L2 PyProof.Rows
/-! ### comprehensions that make a known list, changing nothing that stood -/
theorem lc_gen {J : It} {g : TG} {te : TE} {vs : List Nat} {σ : L2.St} {H1 : Hp} {D : Addr} {Qd : Hp → Prop} (ys : List V) (hz : ys.length ≤ sizeLine) (hD : H1 D = none)
    (go : ∀ j H, j < ys.length → Same H1 H → J.go j H) (stop : ∀ H, Same H1 H → J.stop ys.length H)
    (hs : ∀ (j : Nat) (y x : V) (H H' : Hp) (Q' : VK), ys[j]? = some y → Same H1 H → J.yld j H x H' → (∀ H'', Same H H'' → Q' y H'') → g x (wipe σ vs) H' fun σ2 H2 => wipe σ2 vs = wipe σ vs ∧ te σ2 H2 Q')
    (hd : ∀ H, Same H1 H → H D = some (.lst ys) → Qd H) :
    ∃ W : Nat → Nat → Hp → Prop, (∃ m, W 0 m (upd H1 D (.lst []))) ∧ ∀ i m H, W i m H →
      (J.stop i H ∧ Qd H) ∨ (J.go i H ∧ ∃ Nx : Hp → Prop, (∀ H', Nx H' → ∃ m', m' < m ∧ W (i + 1) m' H') ∧ ∀ x H', J.yld i H x H' → g x (wipe σ vs) H' fun σ2 H2 => wipe σ2 vs = wipe σ vs ∧ tYes σ2 H2 fun b H3 =>
        if b = true then te σ2 H3 fun y H4 => ∃ acc, H4 D = some (.lst acc) ∧ acc.length < sizeLine ∧ Nx (upd H4 D (.lst (acc ++ [y]))) else Nx H3) := by
  have keep : ∀ {H : Hp} {o : HO}, Same H1 H → Same H1 (upd H D o) := fun {H o} s b u q => by
    rw [upd_ne (ne_of_none q hD)]
    exact s b u q
  refine ⟨fun i m H => m = ys.length - i ∧ i ≤ ys.length ∧ Same H1 H ∧ H D = some (.lst (ys.take i)), ⟨ys.length, rfl, Nat.zero_le _, keep (Same.refl _), upd_same⟩, ?_⟩
  rintro i m H ⟨rfl, hi, s, hH⟩
  by_cases hlt : i < ys.length
  · refine .inr ⟨go i H hlt s, fun H' => Same H1 H' ∧ H' D = some (.lst (ys.take (i + 1))), fun H' ⟨a, b⟩ => ⟨_, by omega, rfl, hlt, a, b⟩, fun x H' y => ?_⟩
    have hy : ys[i]? = some ys[i] := List.getElem?_eq_getElem hlt
    refine hs i ys[i] x H H' _ hy s y fun H'' k => ⟨ys.take i, k _ _ hH, ?_, keep (s.trans k), ?_⟩
    · rw [List.length_take]
      omega
    · rw [upd_same, List.take_succ_eq_append_getElem hlt]
  · have e : i = ys.length := by omega
    subst e
    refine .inl ⟨stop H s, hd H s ?_⟩
    rw [hH, List.take_length]
/-- over a list -/
theorem lc_map {K : PySem.W.Frag} {a : Addr} {xs : List V} {g : TG} {te : TE} {vs : List Nat} {σ : L2.St} {H1 : Hp} {D : Addr} {Qd : Hp → Prop} (ys : List V) (hl : xs.length = ys.length) (hz : ys.length ≤ sizeLine) (src : SqL K H1 a xs) (hD : H1 D = none)
    (hs : ∀ (j : Nat) (x y : V) (H : Hp) (Q' : VK), xs[j]? = some x → ys[j]? = some y → Same H1 H → (∀ H'', Same H H'' → Q' y H'') → g x (wipe σ vs) H fun σ2 H2 => wipe σ2 vs = wipe σ vs ∧ te σ2 H2 Q')
    (hd : ∀ H, Same H1 H → H D = some (.lst ys) → Qd H) :
    ∃ W : Nat → Nat → Hp → Prop, (∃ m, W 0 m (upd H1 D (.lst []))) ∧ ∀ i m H, W i m H →
      ((Itl K a).stop i H ∧ Qd H) ∨ ((Itl K a).go i H ∧ ∃ Nx : Hp → Prop, (∀ H', Nx H' → ∃ m', m' < m ∧ W (i + 1) m' H') ∧ ∀ x H', (Itl K a).yld i H x H' → g x (wipe σ vs) H' fun σ2 H2 => wipe σ2 vs = wipe σ vs ∧ tYes σ2 H2 fun b H3 =>
        if b = true then te σ2 H3 fun y H4 => ∃ acc, H4 D = some (.lst acc) ∧ acc.length < sizeLine ∧ Nx (upd H4 D (.lst (acc ++ [y]))) else Nx H3) :=
  lc_gen ys hz hD (fun j H hj s => ⟨xs, xs[j], s.seq src, by simp [hl, hj]⟩) (fun H s => ⟨xs, s.seq src, by omega⟩)
    (fun j y x H H' Q' hy s ⟨e, hx⟩ q => by
      subst e
      exact hs j x y H' Q' (hx xs (s.seq src)) hy s q) hd
/-- over zip of two lists, the second one the shorter -/
theorem lc_zip {K : PySem.W.Frag} {a b : Addr} {xs zs : List V} {g : TG} {te : TE} {vs : List Nat} {σ : L2.St} {H1 : Hp} {D : Addr} {Qd : Hp → Prop} (ys : List V) (hl : zs.length = ys.length) (hl2 : ys.length ≤ xs.length) (hz : ys.length ≤ sizeLine) (src : SqL K H1 a xs) (src2 : SqL K H1 b zs) (hD : H1 D = none)
    (hs : ∀ (j : Nat) (x z y : V) (T : Addr) (H : Hp) (Q' : VK), xs[j]? = some x → zs[j]? = some z → ys[j]? = some y → Same H1 H → H T = none → (∀ H'', Same H H'' → Q' y H'') → g (.ref T) (wipe σ vs) (upd H T (.tup [x, z])) fun σ2 H2 => wipe σ2 vs = wipe σ vs ∧ te σ2 H2 Q')
    (hd : ∀ H, Same H1 H → H D = some (.lst ys) → Qd H) :
    ∃ W : Nat → Nat → Hp → Prop, (∃ m, W 0 m (upd H1 D (.lst []))) ∧ ∀ i m H, W i m H →
      ((Itz K a b).stop i H ∧ Qd H) ∨ ((Itz K a b).go i H ∧ ∃ Nx : Hp → Prop, (∀ H', Nx H' → ∃ m', m' < m ∧ W (i + 1) m' H') ∧ ∀ x H', (Itz K a b).yld i H x H' → g x (wipe σ vs) H' fun σ2 H2 => wipe σ2 vs = wipe σ vs ∧ tYes σ2 H2 fun b H3 =>
        if b = true then te σ2 H3 fun y H4 => ∃ acc, H4 D = some (.lst acc) ∧ acc.length < sizeLine ∧ Nx (upd H4 D (.lst (acc ++ [y]))) else Nx H3) :=
  lc_gen ys hz hD (fun j H hj s => ⟨xs, zs, xs[j], zs[j], s.seq src, s.seq src2, by simp [show j < xs.length by omega], by simp [hl, hj]⟩) (fun H s => ⟨xs, zs, s.seq src, s.seq src2, .inr (by omega)⟩)
    (fun j y x H H' Q' hy s ⟨T, x', z', ex, hT, e, h1, h2⟩ q => by
      subst ex
      subst e
      exact hs j x' z' y T H Q' (h1 xs (s.seq src)) (h2 zs (s.seq src2)) hy s hT q) hd

section
variable {P : Program} {w : World} {K : PySem.W.Frag} {mg : Str → Option Value} {base : Heap}
abbrev CSay (P : Program) (w : World) (K : PySem.W.Frag) (mg : Str → Option Value) (base : Heap) : Prop := Cal P w K mg base CX0 2 "is_saying" ["thing"] spSay2
/-- an item of a long row: a pair, or an again; whether it is a saying -/
def SayAt (H : Hp) (v : V) (b : Bool) : Prop := (∃ (a : Addr) (l : Int) (m : Option Int), v = .ref a ∧ H a = some (.tup (pairV l m)) ∧ 0 ≤ l ∧ nnE m ∧ b = sayB l m) ∨ ∃ (a : Addr) (n : Int) (c : Addr), v = .ref a ∧ H a = some (.tup (againV n c)) ∧ b = false
theorem SayAt.same {H H' : Hp} {v : V} {b : Bool} (h : SayAt H v b) (s : Same H H') : SayAt H' v b := by
  rcases h with ⟨a, l, m, h1, h2, h3⟩ | ⟨a, n, c, h1, h2, h3⟩
  · exact .inl ⟨a, l, m, h1, s _ _ h2, h3⟩
  · exact .inr ⟨a, n, c, h1, s _ _ h2, h3⟩
theorem SayAt.sp {H : Hp} {v : V} {b : Bool} {Q : VK} {E : XK} (h : SayAt H v b) (q : Q (.bl b) H) : spSay2 [v] H Q E := by
  rcases h with ⟨a, l, m, rfl, h2, h3, h4, rfl⟩ | ⟨a, n, c, rfl, h2, rfl⟩
  · exact .inl ⟨a, l, m, rfl, h2, h3, h4, q⟩
  · exact .inr ⟨a, n, c, rfl, h2, q⟩
/-- is_row of a list of items -/
def spRow (K : PySem.W.Frag) : Sp := fun vs H Q _ => ∃ (a : Addr) (xs : List V) (bs : List Bool), vs = [.ref a] ∧ H a = some (.lst xs) ∧ xs.length ≤ 1000 ∧ Paired (SayAt H) xs bs ∧ ∀ H', Same H H' → Q (.bl (bs.all id)) H'
theorem Paired.get {α β : Type} {R : α → β → Prop} : ∀ {xs : List α} {ys : List β} {j : Nat} {x : α} {y : β}, Paired R xs ys → xs[j]? = some x → ys[j]? = some y → R x y
  | _, _, _, _, _, .nil, h, _ => by simp at h
  | _, _, 0, _, _, .cons r _, h1, h2 => by
    simp at h1 h2
    subst h1
    subst h2
    exact r
  | _, _, j + 1, _, _, .cons _ t, h1, h2 => Paired.get (j := j) t (by simpa using h1) (by simpa using h2)
theorem scRow : FnScope ["thing", "saying"] ["thing"] (defScope sIsRow) := ⟨rfl, rfl, rfl, by decide +kernel, rfl, by decide +kernel, by decide +kernel⟩
theorem ok_row {f : Addr} {fd : FuncData} (F : Fun K "is_row" "is_row" sIsRow f fd) (B : Bi mg) (S : CSay P w K mg base) : FnOk P w K mg base CX0 3 f fd ["thing"] (spRow K) := by
  refine F.ok scRow (fun vs H Q E h => ?_) (fun cdv A outer s H vs Q E hr h => ?_)
  · obtain ⟨a, xs, bs, rfl, _⟩ := h
    rfl
  obtain ⟨a, xs, bs, rfl, ha, hl, hp, q⟩ := h
  refine ⟨_, pss_one (ps_ret (pe_and (pe_callB call_isiT (by rfl) B.isinst boot_isinstance (pa_cons (pv 0) (pa_cons (pe_tup (pa_cons (pe_ty (by rfl) B.list boot_list) (pa_cons (pe_ty (by rfl) B.tuple boot_tuple) pa_nil))) pa_nil)))
    (pe_one (pe_callB (cr_all rfl) (by rfl) B.all boot_all (pa_cons (pe_lc (own := [("saying", 1)]) (g := gName 1) (tt := tYes) rfl scRow.nd (pi_list (pv 0)) (blkOk_by (N := ["thing", "saying"]) (sc := defScope sIsRow) (by decide +kernel))
      (fun _ _ _ _ _ => pg_name (i := 1) scRow.nd rfl (Or.inl rfl)) (fun _ _ _ _ _ => pts_nil) (fun _ _ _ _ _ => cal S hr pass0 (pa_cons (pv 1) pa_nil))) pa_nil))))), ?_⟩
  refine ⟨_, rfl, (by show 2 ≤ sizeLine; decide), fun p hp0 => ?_⟩
  have s1 : Same H (upd H p (.tup [.ty "list", .ty "tuple"])) := same_new hp0 _
  refine ⟨.ref a, p, _, _, [.type "list", .type "tuple"], true, rfl, upd_same, .cons (.ty "list") (.cons (.ty "tuple") .nil), .base (.lst (s1 _ _ ha)), kitAny_cons (b := true) (kit_ty (by decide +kernel)) (fun z => absurd z (by decide)) (fun _ => rfl), _, rfl, iteT ?_⟩
  refine ⟨_, rfl, a, rfl, ⟨_, SqL.of (s1 _ _ ha)⟩, fun D hD => ?_⟩
  have hlen : xs.length = bs.length := Paired.length hp
  refine lc_map (xs := xs) (bs.map V.bl) (by rw [List.length_map]; exact hlen) (by rw [List.length_map, ← hlen]; exact small hl) (SqL.of (s1 _ _ ha)) hD (fun j x y H2 Q' hx hy s2 k => ?_) (fun H2 s2 h2 => ?_)
  · rw [List.getElem?_map] at hy
    obtain ⟨b, hb, rfl⟩ := Option.map_eq_some_iff.mp hy
    refine ⟨rfl, _, rfl, ?_⟩
    exact ((Paired.get hp hx hb).same (s1.trans s2)).sp (k H2 (Same.refl _))
  · exact ⟨D, bs, rfl, SqL.of h2, q _ (s1.trans s2)⟩
end
end Bo

namespace Bo
open PySem L2 PyProof.Rows
/-! ### data of pairs, for == and in -/
def endD : Option Int → PyData
  | none => .none
  | some m => .int m
def pairD (p : Int × Option Int) : PyData := .tuple [.int p.1, endD p.2]
theorem endD_lay : ∀ m, (endD m).canLay0 = true ∧ (endD m).depth = 0
  | none => by simp [endD, PyData.canLay0, PyData.depth]
  | some m => by simp [endD, PyData.canLay0, PyData.depth]
theorem pairD_lay (p : Int × Option Int) : (pairD p).canLay0 = true ∧ (pairD p).depth = 1 := by
  obtain ⟨h1, h2⟩ := endD_lay p.2
  simp [pairD, PyData.canLay0, PyData.canLayAll0, PyData.depth, PyData.depthAll, h1, h2]
theorem dataAll_lay {ds : List PyData} (h : ∀ d ∈ ds, d.canLay0 = true ∧ d.depth ≤ 1) : PyData.canLayAll0 ds = true ∧ PyData.depthAll ds ≤ 1 := by
  induction ds with
  | nil => simp [PyData.canLayAll0, PyData.depthAll]
  | cons d r ih =>
    obtain ⟨a, b⟩ := ih fun x hx => h x (List.mem_cons_of_mem _ hx)
    obtain ⟨c, e⟩ := h d List.mem_cons_self
    simp only [PyData.canLayAll0, PyData.depthAll, a, c, Bool.and_self, true_and]
    omega
theorem list_shaped {ds : List PyData} (h : ∀ d ∈ ds, d.canLay0 = true ∧ d.depth ≤ 1) : SeqAt.shaped (.list ds) = true := by
  obtain ⟨a, b⟩ := dataAll_lay h
  have e : PyData.depth (.list ds) ≤ 64 := by
    simp only [PyData.depth]
    omega
  show (PyData.canLay0 (.list ds) && decide (PyData.depth (.list ds) ≤ 64)) = true
  rw [Bool.and_eq_true]
  exact ⟨by simp only [PyData.canLay0]; exact a, decide_eq_true e⟩
theorem nil_shaped : SeqAt.shaped (.list []) = true := list_shaped (fun _ h => nomatch h)
/-- a pair in the heap -/
def PairAt (H : Hp) (v : V) (p : Int × Option Int) : Prop := ∃ a, v = .ref a ∧ H a = some (.tup (pairV p.1 p.2)) ∧ 0 ≤ p.1 ∧ nnE p.2
theorem PairAt.same {H H' : Hp} {v : V} {p : Int × Option Int} (h : PairAt H v p) (s : Same H H') : PairAt H' v p := by
  obtain ⟨a, h1, h2, h3⟩ := h
  exact ⟨a, h1, s _ _ h2, h3⟩
theorem endD_dp {K : PySem.W.Frag} {H : Hp} : ∀ m, Dp K H (endV m) (endD m)
  | none => .non
  | some m => .int m
theorem PairAt.dp {K : PySem.W.Frag} {H : Hp} {v : V} {p : Int × Option Int} (h : PairAt H v p) : Dp K H v (pairD p) := by
  obtain ⟨a, rfl, h2, h3⟩ := h
  exact .tup (SqT.of h2) (.cons (.int _) (.cons (endD_dp _) .nil))
theorem pairs_same {H H' : Hp} {vs : List V} {ps : List (Int × Option Int)} (h : Paired (PairAt H) vs ps) (s : Same H H') : Paired (PairAt H') vs ps := Paired.mapP h fun _ _ x => x.same s
theorem pairs_dp {K : PySem.W.Frag} {H : Hp} : ∀ {vs : List V} {ps : List (Int × Option Int)}, Paired (PairAt H) vs ps → DpAll K H vs (ps.map pairD)
  | _, _, .nil => .nil
  | _, _, .cons r t => .cons r.dp (pairs_dp t)
theorem pairs_shaped (ps : List (Int × Option Int)) : SeqAt.shaped (.list (ps.map pairD)) = true := list_shaped fun d hd => by
  obtain ⟨p, _, rfl⟩ := List.mem_map.mp hd
  obtain ⟨a, b⟩ := pairD_lay p
  exact ⟨a, by omega⟩
theorem eqv_nil (ds : List PyData) : PyData.eqv (.list ds) (.list []) = ds.isEmpty := by
  cases ds with
  | nil => simp [PyData.eqv, PyData.eqvAll]
  | cons d r => simp [PyData.eqv, PyData.eqvAll]

/-! ### a table, a shelf -/
def tabF (p q : Int × Option Int) : Bool := if decide (p.1 < q.1) = true then !decide (endV p.2 = endV q.2) else false
def isSome2 (p : Int × Option Int) : Prop := p.2.isSome = true
def adj {α β : Type} (f : α → α → β) (l : List α) : List β := List.zipWith f l (l.drop 1)
def isTab (ps : List (Int × Option Int)) : Bool := match ps with
  | [] => false
  | p :: r => decide (p.1 = 0) && (adj tabF (p :: r)).all id
theorem isTab_cons (p : Int × Option Int) (r : List (Int × Option Int)) : isTab (p :: r) = (decide (p.1 = 0) && (adj tabF (p :: r)).all id) := rfl
theorem adj_length {α β : Type} (f : α → α → β) (l : List α) : (adj f l).length = l.length - 1 := by
  unfold adj
  rw [List.length_zipWith, List.length_drop]
  omega
theorem adj_get {α β : Type} {f : α → α → β} {l : List α} {j : Nat} {b : β} (h : (adj f l)[j]? = some b) : ∃ x y, l[j]? = some x ∧ l[j + 1]? = some y ∧ b = f x y := by
  unfold adj at h
  rw [List.getElem?_zipWith] at h
  cases hx : l[j]? with
  | none => rw [hx] at h; simp at h
  | some x =>
    rw [hx, List.getElem?_drop, Nat.add_comm] at h
    cases hy : l[j + 1]? with
    | none => rw [hy] at h; simp at h
    | some y =>
      rw [hy] at h
      exact ⟨x, y, rfl, rfl, by simpa using h.symm⟩
theorem cut1 (xs : List V) : cutV xs (some 1) none = xs.drop 1 := by
  cases xs with
  | nil => rfl
  | cons x r =>
    have e1 : HT.sIx (x :: r).length 0 (some 1) = 1 := by
      show (if (1 : Int) < 0 then ((1 : Int) + ((r.length + 1 : Nat) : Int)).toNat else min (1 : Int).toNat (r.length + 1)) = 1
      rw [if_neg (by decide)]
      show min 1 (r.length + 1) = 1
      omega
    unfold cutV
    rw [e1]
    show (r.take (r.length + 1 - 1)) = r
    rw [Nat.add_sub_cancel, List.take_length]
def spTab : Sp := fun vs H Q _ => ∃ (a : Addr) (xs : List V) (ps : List (Int × Option Int)), vs = [.ref a] ∧ H a = some (.lst xs) ∧ xs.length ≤ 1000 ∧ Paired (PairAt H) xs ps ∧ (∀ p ∈ ps, isSome2 p) ∧ ∀ H', Same H H' → Q (.bl (isTab ps)) H'
abbrev gTwo (K : PySem.W.Frag) (i j : Nat) : TG := gTup K 2 (gCons (gName i) (gCons (gName j) gNil))
abbrev tIt (K : PySem.W.Frag) (i : Nat) (z : Int) : TE := tOp (rIxT K) (tVar i) (tC (.int z))
abbrev teTab (K : PySem.W.Frag) : TE := tAndV (tOp (rI0 fun i j => .bl (decide (i < j))) (tIt K 2 0) (tIt K 3 0)) (tOp rNe (tIt K 2 1) (tIt K 3 1))
abbrev teShf (K : PySem.W.Frag) (i j : Nat) : TE := tOp (rI0 fun i j => .bl (decide (i < j))) (tIt K i 0) (tIt K j 0)
section
variable {P : Program} {w : World} {K : PySem.W.Frag} {mg : Str → Option Value} {base : Heap}
abbrev CStep (P : Program) (w : World) (K : PySem.W.Frag) (mg : Str → Option Value) (base : Heap) : Prop := Cal P w K mg base CX0 2 "is_step" ["thing"] spStep
theorem all_true (n : Nat) : ((List.replicate n true).all id) = true := by
  induction n with
  | zero => rfl
  | succ n ih => rw [List.replicate_succ, List.all_cons, ih]; rfl
theorem scTab : FnScope ["thing", "step", "one", "other"] ["thing"] (defScope sIsTable) := ⟨rfl, rfl, rfl, by decide +kernel, rfl, by decide +kernel, by decide +kernel⟩
theorem ok_table {f : Addr} {fd : FuncData} (F : Fun K "is_table" "is_table" sIsTable f fd) (B : Bi mg) (S : CStep P w K mg base) : FnOk P w K mg base CX0 3 f fd ["thing"] spTab := by
  refine F.ok scTab (fun vs H Q E h => ?_) (fun cdv A outer s H vs Q E hr h => ?_)
  · obtain ⟨a, xs, bs, rfl, _⟩ := h
    rfl
  obtain ⟨a, xs, ps, rfl, ha, hl, hp, h2, q⟩ := h
  refine ⟨_, pss_cons (ps_if (PW.pt (pw_or (pt_not (pt_val (pe_isi B (pv 0) rfl rfl B.list boot_list))) (pw_or (pt_cmpR (op_eqD hr.units) (pv 0) (pe_lst pa_nil) (nomark _))
      (pw_or (pt_not (pt_val (pe_callB (cr_all rfl) (by rfl) B.all boot_all (pa_cons (pe_lc (own := [("step", 1)]) (g := gName 1) (tt := tYes) rfl scTab.nd (pi_list (pv 0)) (blkOk_by (N := ["thing", "step", "one", "other"]) (sc := defScope sIsTable) (by decide +kernel))
        (fun _ _ _ _ _ => pg_name (i := 1) scTab.nd rfl (Or.inl rfl)) (fun _ _ _ _ _ => pts_nil) (fun _ _ _ _ _ => cal S hr pass0 (pa_cons (pv 1) pa_nil))) pa_nil))))
      (pw_or1 (pt_cmpR op_ne (pe_ix ix_tup (pe_ix ix_list (pv 0) pe_int (fun _ _ => rfl)) pe_int (fun _ _ => rfl)) pe_int (nomark _))))))) (pss_one (ps_ret pe_bl)) pss_nil)
    (pss_one (ps_ret (pe_callB (cr_all rfl) (by rfl) B.all boot_all (pa_cons (pe_lc (own := [("one", 2), ("other", 3)]) (g := gTwo K 2 3) (tt := tYes) (te := teTab K) rfl scTab.nd
        (pi_zip (by rfl) B.zip (pa_cons (pv 0) (pa_cons (pe_slice sl_list (pv 0) (po_some pe_int) po_none) pa_nil))) (blkOk_by (N := ["thing", "step", "one", "other"]) (sc := defScope sIsTable) (by decide +kernel))
        (fun _ _ _ _ _ => pg_tup rfl (pgs_cons (pg_name (i := 2) scTab.nd rfl (Or.inl rfl)) (pgs_cons (pg_name (i := 3) scTab.nd rfl (Or.inl rfl)) pgs_nil))) (fun _ _ _ _ _ => pts_nil)
        (fun _ _ _ _ _ => pe_and (pe_cmpR op_lt (pe_ix ix_tup (pv 2) pe_int (fun _ _ => rfl)) (pe_ix ix_tup (pv 3) pe_int (fun _ _ => rfl)) (nomark _)) (pe_one (pe_cmpR op_ne (pe_ix ix_tup (pv 2) pe_int (fun _ _ => rfl)) (pe_ix ix_tup (pv 3) pe_int (fun _ _ => rfl)) (nomark _))))) pa_nil)))), ?_⟩
  have hlen : xs.length = ps.length := Paired.length hp
  refine ⟨_, rfl, .ref a, .ty "list", _, _, true, rfl, .ty "list", .base (.lst ha), kit_ty (by decide +kernel), _, rfl, iteF ?_⟩
  refine ⟨_, rfl, (by show 0 ≤ sizeLine; decide), fun l hl0 => ?_⟩
  have s1 : Same H (upd H l (.lst [])) := same_new hl0 _
  refine ⟨.list (ps.map pairD), .list [], .lst (SqL.of (s1 _ _ ha)) (pairs_dp (pairs_same hp s1)), .lst (SqL.of upd_same) .nil, pairs_shaped ps, nil_shaped, _, rfl, ?_⟩
  rw [eqv_nil]
  cases ps with
  | nil => exact iteT (q _ s1)
  | cons p r =>
    refine iteF ?_
    refine ⟨_, rfl, a, rfl, ⟨_, SqL.of (s1 _ _ ha)⟩, fun D hD => ?_⟩
    refine lc_map (xs := xs) (List.replicate xs.length (V.bl true)) (by rw [List.length_replicate]) (by rw [List.length_replicate]; exact small hl) (SqL.of (s1 _ _ ha)) hD (fun j x y H2 Q' hx hy s2 k => ?_) (fun H2 s2 e2 => ?_)
    · have hj : j < xs.length := by
        obtain ⟨z, _⟩ := List.getElem?_eq_some_iff.mp hx
        exact z
      obtain ⟨z, hz⟩ : ∃ z, (p :: r)[j]? = some z := ⟨(p :: r)[j]'(by omega), List.getElem?_eq_getElem _⟩
      have ey : y = .bl true := by
        rw [List.getElem?_replicate, if_pos hj] at hy
        exact (Option.some.inj hy).symm
      subst ey
      obtain ⟨b, rfl, hb, h3, h4⟩ := (Paired.get hp hx hz).same (s1.trans s2)
      have hz2 := h2 z (List.mem_of_getElem? hz)
      obtain ⟨z1, z2⟩ := z
      cases z2 with
      | none => cases hz2
      | some z2 => exact ⟨rfl, _, rfl, b, z1, z2, rfl, hb, h3, h4, k H2 (Same.refl _)⟩
    · have s3 := s1.trans s2
      refine ⟨D, List.replicate xs.length true, rfl, SqL.of (by rw [List.map_replicate]; exact e2), ?_⟩
      rw [all_true]
      refine ⟨_, rfl, iteF ?_⟩
      obtain ⟨x0, xr, rfl⟩ : ∃ x0 xr, xs = x0 :: xr := by
        cases xs with
        | nil => simp at hlen
        | cons x0 xr => exact ⟨x0, xr, rfl⟩
      have hp3 := pairs_same hp s3
      obtain ⟨b, rfl, hb, h3, h4⟩ := Paired.get (j := 0) hp3 rfl rfl
      refine ⟨_, rfl, a, _, 0, _, rfl, rfl, SqL.of (s3 _ _ ha), atI_nat (j := 0) rfl, b, _, 0, _, rfl, rfl, SqT.of hb, at0, rfl, _, rfl, ?_⟩
      by_cases e0 : p.1 = 0
      · rw [show decide (V.int p.1 = V.int 0) = true by rw [e0]; exact decide_eq_true rfl]
        refine iteF ?_
        refine ⟨_, rfl, _, rfl, _, rfl, a, _, rfl, SqL.of (s3 _ _ ha), fun c hc => ?_⟩
        rw [cut1]
        have s4 : Same H (upd H2 c (.lst ((V.ref b :: xr).drop 1))) := s3.trans (same_new hc _)
        refine ⟨a, c, _, _, rfl, SqL.of (s4 _ _ ha), SqL.of upd_same, fun D' hD' => ?_⟩
        have tl : (adj tabF (p :: r)).length = xr.length := by
          rw [adj_length]
          simp at hlen ⊢
          omega
        refine lc_zip (xs := V.ref b :: xr) (zs := (V.ref b :: xr).drop 1) ((adj tabF (p :: r)).map V.bl) (by rw [List.length_map, tl]; rfl) (by rw [List.length_map, tl]; simp) (by rw [List.length_map, tl]; exact small (by simp at hl; omega)) (SqL.of (s4 _ _ ha)) (SqL.of upd_same) hD' (fun j x z y T H5 Q' hx hz hy s5 hT k => ?_) (fun H5 s5 e5 => ?_)
        · rw [List.getElem?_map] at hy
          obtain ⟨yb, hyb, rfl⟩ := Option.map_eq_some_iff.mp hy
          obtain ⟨u, v, hu, hv, rfl⟩ := adj_get hyb
          rw [List.getElem?_drop, Nat.add_comm] at hz
          have s6 : Same H (upd H5 T (.tup [x, z])) := (s4.trans s5).trans (same_new hT _)
          obtain ⟨c1, rfl, hc1, h31, h41⟩ := (Paired.get hp hx hu).same s6
          obtain ⟨c2, rfl, hc2, h32, h42⟩ := (Paired.get hp hz hv).same s6
          refine ⟨T, _, rfl, SqT.of upd_same, rfl, _, _, rfl, _, _, rfl, rfl, rfl, ?_⟩
          refine ⟨_, rfl, c1, _, 0, _, rfl, rfl, SqT.of hc1, at0, _, rfl, c2, _, 0, _, rfl, rfl, SqT.of hc2, at0, _, _, rfl, rfl, _, rfl, ?_⟩
          have kk := k _ (same_new hT (.tup [.ref c1, .ref c2]))
          unfold tabF at kk
          by_cases lt : u.1 < v.1
          · rw [decide_eq_true lt] at kk ⊢
            refine iteT ⟨_, rfl, c1, _, 1, _, rfl, rfl, SqT.of hc1, at1, _, rfl, c2, _, 1, _, rfl, rfl, SqT.of hc2, at1, ?_, kk⟩
            have hu2 := h2 u (List.mem_of_getElem? hu)
            have hv2 := h2 v (List.mem_of_getElem? hv)
            obtain ⟨u1, u2⟩ := u
            obtain ⟨v1, v2⟩ := v
            cases u2 with
            | none => cases hu2
            | some u2 =>
              cases v2 with
              | none => cases hv2
              | some v2 => rfl
          · rw [decide_eq_false lt] at kk ⊢
            exact iteF kk
        · refine ⟨D', adj tabF (p :: r), rfl, SqL.of e5, ?_⟩
          have qq := q H5 (s4.trans s5)
          rw [isTab_cons, show decide (p.1 = 0) = true from decide_eq_true e0, Bool.true_and] at qq
          exact qq
      · rw [show decide (V.int p.1 = V.int 0) = false from decide_eq_false fun z => e0 (V.int.inj z)]
        refine iteT ?_
        have qq := q H2 s3
        rw [isTab_cons, show decide (p.1 = 0) = false from decide_eq_false e0, Bool.false_and] at qq
        exact qq

/-! ### shelves -/
def spPlain : Sp := fun vs H Q _ => ∃ i : Int, vs = [.int i] ∧ Q (.int (if decide (0 < i) = true then 1 else 0)) H
theorem scPlain : FnScope ["number"] ["number"] (defScope sPlain) := ⟨rfl, rfl, rfl, by decide +kernel, rfl, by decide +kernel, by decide +kernel⟩
theorem ok_plain {f : Addr} {fd : FuncData} (F : Fun K "plain" "plain" sPlain f fd) (B : Bi mg) : FnOk P w K mg base CX0 1 f fd ["number"] spPlain := by
  refine F.ok scPlain (fun vs H Q E h => ?_) (fun cdv A outer s H vs Q E hr h => ?_)
  · obtain ⟨i, rfl, _⟩ := h
    rfl
  obtain ⟨i, rfl, q⟩ := h
  refine ⟨_, pss_one (ps_ret (pe_callTy call_int1 (by rfl) B.int boot_int (pa_cons (pe_cmpR op_gt (pv 0) pe_int (nomark _)) pa_nil))), ?_⟩
  exact ⟨_, rfl, _, _, rfl, rfl, .inr ⟨_, rfl, q⟩⟩
abbrev CPlain (P : Program) (w : World) (K : PySem.W.Frag) (mg : Str → Option Value) (base : Heap) : Prop := Cal P w K mg base CX0 1 "plain" ["number"] spPlain
def entB (i j : Int) : Bool := !decide (V.int j = V.int (if decide (0 < i) = true then 1 else 0))
def spEntry : Sp := fun vs H Q _ => ∃ (a : Addr) (i j : Int), vs = [.ref a] ∧ H a = some (.tup [.int i, .int j]) ∧ 0 ≤ i ∧ 0 ≤ j ∧ Q (.bl (entB i j)) H
theorem scEntry : FnScope ["thing"] ["thing"] (defScope sIsEntry) := ⟨rfl, rfl, rfl, by decide +kernel, rfl, by decide +kernel, by decide +kernel⟩
theorem ok_entry {f : Addr} {fd : FuncData} (F : Fun K "is_entry" "is_entry" sIsEntry f fd) (B : Bi mg) (N : CNum P w K mg base) (L : CPlain P w K mg base) : FnOk P w K mg base CX0 2 f fd ["thing"] spEntry := by
  refine F.ok scEntry (fun vs H Q E h => ?_) (fun cdv A outer s H vs Q E hr h => ?_)
  · obtain ⟨a, i, j, rfl, _⟩ := h
    rfl
  refine ⟨_, pss_cons (ps_if (PW.pt (pw_or (pt_not (pt_val (pe_isi B (pv 0) rfl rfl B.tuple boot_tuple))) (pw_or (pt_cmpR op_ne (pe_callB call_len_seq (by rfl) B.len PySem.boot_len (pa_cons (pv 0) pa_nil)) pe_int (nomark _))
      (pw_or (pt_not (pt_val (cal N hr pass0 (pa_cons (pe_ix ix_tup (pv 0) pe_int (fun _ _ => rfl)) pa_nil)))) (pw_or1 (pt_not (pt_val (cal N hr pass0 (pa_cons (pe_ix ix_tup (pv 0) pe_int (fun _ _ => rfl)) pa_nil))))))))) (pss_one (ps_ret pe_bl)) pss_nil)
    (pss_one (ps_ret (pe_cmpR op_ne (pe_ix ix_tup (pv 0) pe_int (fun _ _ => rfl)) (cal L hr pass0 (pa_cons (pe_ix ix_tup (pv 0) pe_int (fun _ _ => rfl)) pa_nil)) (nomark _)))), ?_⟩
  obtain ⟨a, i, j, rfl, ha, h0, h1, q⟩ := h
  have hT := SqT.of (K := K) ha
  refine ⟨_, rfl, .ref a, .ty "tuple", _, _, true, rfl, .ty "tuple", .base (.tup ha), kit_ty (by decide +kernel), _, rfl, iteF ?_⟩
  refine ⟨_, rfl, a, _, rfl, .inr hT, rfl, _, rfl, iteF ?_⟩
  refine ⟨_, rfl, a, _, 0, _, rfl, rfl, hT, at0, i, rfl, _, rfl, ?_⟩
  rw [decide_eq_true h0]
  refine iteF ⟨_, rfl, a, _, 1, _, rfl, rfl, hT, at1, j, rfl, _, rfl, ?_⟩
  rw [decide_eq_true h1]
  refine iteF ⟨_, rfl, a, _, 1, _, rfl, rfl, hT, at1, _, rfl, a, _, 0, _, rfl, rfl, hT, at0, i, rfl, rfl, q⟩
abbrev CEntry (P : Program) (w : World) (K : PySem.W.Frag) (mg : Str → Option Value) (base : Heap) : Prop := Cal P w K mg base CX0 2 "is_entry" ["thing"] spEntry
def entP (p : Int × Option Int) : Bool := match p.2 with
  | none => false
  | some m => entB p.1 m
def shfF (p q : Int × Option Int) : Bool := decide (p.1 < q.1)
def isShf (ps : List (Int × Option Int)) : Bool := (ps.map entP).all id && (adj shfF ps).all id
def spShf : Sp := fun vs H Q _ => ∃ (a : Addr) (xs : List V) (ps : List (Int × Option Int)), vs = [.ref a] ∧ H a = some (.lst xs) ∧ xs.length ≤ 1000 ∧ Paired (PairAt H) xs ps ∧ (∀ p ∈ ps, isSome2 p) ∧ ∀ H', Same H H' → Q (.bl (isShf ps)) H'
theorem scShf : FnScope ["thing", "entry", "one", "other"] ["thing"] (defScope sIsShelf) := ⟨rfl, rfl, rfl, by decide +kernel, rfl, by decide +kernel, by decide +kernel⟩
theorem ok_shelf {f : Addr} {fd : FuncData} (F : Fun K "is_shelf" "is_shelf" sIsShelf f fd) (B : Bi mg) (S : CEntry P w K mg base) : FnOk P w K mg base CX0 3 f fd ["thing"] spShf := by
  refine F.ok scShf (fun vs H Q E h => ?_) (fun cdv A outer s H vs Q E hr h => ?_)
  · obtain ⟨a, xs, bs, rfl, _⟩ := h
    rfl
  obtain ⟨a, xs, ps, rfl, ha, hl, hp, h2, q⟩ := h
  refine ⟨_, pss_cons (ps_if (PW.pt (pw_or (pt_not (pt_val (pe_isi B (pv 0) rfl rfl B.list boot_list)))
      (pw_or1 (pt_not (pt_val (pe_callB (cr_all rfl) (by rfl) B.all boot_all (pa_cons (pe_lc (own := [("entry", 1)]) (g := gName 1) (tt := tYes) rfl scShf.nd (pi_list (pv 0)) (blkOk_by (N := ["thing", "entry", "one", "other"]) (sc := defScope sIsShelf) (by decide +kernel))
        (fun _ _ _ _ _ => pg_name (i := 1) scShf.nd rfl (Or.inl rfl)) (fun _ _ _ _ _ => pts_nil) (fun _ _ _ _ _ => cal S hr pass0 (pa_cons (pv 1) pa_nil))) pa_nil))))))) (pss_one (ps_ret pe_bl)) pss_nil)
    (pss_one (ps_ret (pe_callB (cr_all rfl) (by rfl) B.all boot_all (pa_cons (pe_lc (own := [("one", 2), ("other", 3)]) (g := gTwo K 2 3) (tt := tYes) (te := teShf K 2 3) rfl scShf.nd
        (pi_zip (by rfl) B.zip (pa_cons (pv 0) (pa_cons (pe_slice sl_list (pv 0) (po_some pe_int) po_none) pa_nil))) (blkOk_by (N := ["thing", "entry", "one", "other"]) (sc := defScope sIsShelf) (by decide +kernel))
        (fun _ _ _ _ _ => pg_tup rfl (pgs_cons (pg_name (i := 2) scShf.nd rfl (Or.inl rfl)) (pgs_cons (pg_name (i := 3) scShf.nd rfl (Or.inl rfl)) pgs_nil))) (fun _ _ _ _ _ => pts_nil)
        (fun _ _ _ _ _ => pe_cmpR op_lt (pe_ix ix_tup (pv 2) pe_int (fun _ _ => rfl)) (pe_ix ix_tup (pv 3) pe_int (fun _ _ => rfl)) (nomark _))) pa_nil)))), ?_⟩
  have hlen : xs.length = ps.length := Paired.length hp
  refine ⟨_, rfl, .ref a, .ty "list", _, _, true, rfl, .ty "list", .base (.lst ha), kit_ty (by decide +kernel), _, rfl, iteF ?_⟩
  refine ⟨_, rfl, a, rfl, ⟨_, SqL.of ha⟩, fun D hD => ?_⟩
  refine lc_map (xs := xs) ((ps.map entP).map V.bl) (by rw [List.length_map, List.length_map]; exact hlen) (by rw [List.length_map, List.length_map, ← hlen]; exact small hl) (SqL.of ha) hD (fun j x y H2 Q' hx hy s2 k => ?_) (fun H2 s3 e2 => ?_)
  · rw [List.map_map, List.getElem?_map] at hy
    obtain ⟨z, hz, rfl⟩ := Option.map_eq_some_iff.mp hy
    obtain ⟨b, rfl, hb, h3, h4⟩ := (Paired.get hp hx hz).same s2
    have hz2 := h2 z (List.mem_of_getElem? hz)
    obtain ⟨z1, z2⟩ := z
    cases z2 with
    | none => cases hz2
    | some z2 => exact ⟨rfl, _, rfl, b, z1, z2, rfl, hb, h3, h4, k H2 (Same.refl _)⟩
  · refine ⟨D, ps.map entP, rfl, SqL.of e2, _, rfl, ?_⟩
    cases hall : (ps.map entP).all id with
    | false =>
      refine iteT ?_
      have qq := q H2 s3
      unfold isShf at qq
      rw [hall, Bool.false_and] at qq
      exact qq
    | true =>
      refine iteF ?_
      refine ⟨_, rfl, _, rfl, _, rfl, a, _, rfl, SqL.of (s3 _ _ ha), fun c hc => ?_⟩
      rw [cut1]
      have s4 : Same H (upd H2 c (.lst (xs.drop 1))) := s3.trans (same_new hc _)
      refine ⟨a, c, _, _, rfl, SqL.of (s4 _ _ ha), SqL.of upd_same, fun D' hD' => ?_⟩
      refine lc_zip (xs := xs) (zs := xs.drop 1) ((adj shfF ps).map V.bl) (by rw [List.length_map, adj_length, List.length_drop, hlen]) (by rw [List.length_map, adj_length, hlen]; omega) (by rw [List.length_map, adj_length]; exact small (by omega)) (SqL.of (s4 _ _ ha)) (SqL.of upd_same) hD' (fun j x z y T H5 Q' hx hz hy s5 hT k => ?_) (fun H5 s5 e5 => ?_)
      · rw [List.getElem?_map] at hy
        obtain ⟨yb, hyb, rfl⟩ := Option.map_eq_some_iff.mp hy
        obtain ⟨u, v, hu, hv, rfl⟩ := adj_get hyb
        rw [List.getElem?_drop, Nat.add_comm] at hz
        have s6 : Same H (upd H5 T (.tup [x, z])) := (s4.trans s5).trans (same_new hT _)
        obtain ⟨c1, rfl, hc1, h31, h41⟩ := (Paired.get hp hx hu).same s6
        obtain ⟨c2, rfl, hc2, h32, h42⟩ := (Paired.get hp hz hv).same s6
        refine ⟨T, _, rfl, SqT.of upd_same, rfl, _, _, rfl, _, _, rfl, rfl, rfl, ?_⟩
        exact ⟨_, rfl, c1, _, 0, _, rfl, rfl, SqT.of hc1, at0, _, rfl, c2, _, 0, _, rfl, rfl, SqT.of hc2, at0, _, _, rfl, rfl, k _ (same_new hT (.tup [.ref c1, .ref c2]))⟩
      · refine ⟨D', adj shfF ps, rfl, SqL.of e5, ?_⟩
        have qq := q H5 (s4.trans s5)
        unfold isShf at qq
        rw [hall, Bool.true_and] at qq
        exact qq
end
end Bo

/-! The mathematics: numbers, sayings, words, nested rows as texts (lists of codes). No program in sight. -/
namespace Bo
open PySem L2
abbrev Tx := List Nat
def ofL (l : Tx) : Str := ⟨l.toArray⟩
theorem tl_ofL (l : Tx) : TL.tl (ofL l) = l := rfl
theorem ofL_tl (x : Str) : ofL (TL.tl x) = x := TL.ext_tl rfl
theorem ofL_inj {a b : Tx} (h : ofL a = ofL b) : a = b := by
  have := congrArg TL.tl h
  exact this
theorem ofL_app (a b : Tx) : ofL a ++ ofL b = ofL (a ++ b) := TL.ext_tl (by rw [TL.tl_append]; rfl)
theorem ofL_len (l : Tx) : (ofL l).length = l.length := by rw [TL.len_tl]; rfl

/-! ### numbers -/
def numT (n : Int) : Tx := TL.numL n.toNat
theorem str_num {n : Int} (h : 0 ≤ n) : (toString n : Str) = ofL (numT n) := by
  refine TL.ext_tl ?_
  have e : n = ((n.toNat : Nat) : Int) := by omega
  rw [e]
  exact TL.tl_num n.toNat
def digs (l : Tx) : Bool := l.all fun c => decide (48 ≤ c) && decide (c ≤ 57)
def numOf (l : Tx) : Option Int := if l = [] then none else if digs l = true ∧ ¬ (l.head? = some 48 ∧ l ≠ [48]) then some (NumText.digitsVal l : Nat) else none
theorem digs_iff (l : Tx) : digs l = true ↔ NumText.AllDigits l := by
  unfold digs NumText.AllDigits
  simp [List.all_eq_true]
theorem val_snoc (r : Tx) (c : Nat) : NumText.digitsVal (r ++ [c]) = NumText.digitsVal r * 10 + (c - 48) := by
  unfold NumText.digitsVal
  rw [List.foldl_append]
  rfl
theorem val_pos : ∀ (n : Nat) (l : Tx), l.length = n → NumText.AllDigits l → l ≠ [] → l.head? ≠ some 48 → 1 ≤ NumText.digitsVal l
  | 0, l, hn, _, hne, _ => absurd (List.eq_nil_of_length_eq_zero hn) hne
  | n + 1, l, hn, hd, hne, hh => by
    obtain ⟨r, c, rfl⟩ : ∃ r c, l = r ++ [c] := ⟨l.dropLast, l.getLast hne, (List.dropLast_concat_getLast hne).symm⟩
    rw [val_snoc]
    have hc := hd c (by simp)
    cases hr : r with
    | nil =>
      rw [hr] at hh
      have : c ≠ 48 := fun z => hh (by rw [z]; rfl)
      omega
    | cons a r' =>
      have ih := val_pos n r (by simp at hn; exact hn) (fun x hx => hd x (by simp [hx])) (by rw [hr]; simp) (by rw [hr] at hh ⊢; simpa using hh)
      rw [hr] at ih
      omega
theorem num_back : ∀ (n : Nat) (l : Tx), l.length = n → NumText.AllDigits l → l ≠ [] → ¬ (l.head? = some 48 ∧ l ≠ [48]) → TL.numL (NumText.digitsVal l) = l
  | 0, l, hn, _, hne, _ => absurd (List.eq_nil_of_length_eq_zero hn) hne
  | n + 1, l, hn, hd, hne, hh => by
    obtain ⟨r, c, rfl⟩ : ∃ r c, l = r ++ [c] := ⟨l.dropLast, l.getLast hne, (List.dropLast_concat_getLast hne).symm⟩
    have hc := hd c (by simp)
    rw [val_snoc]
    cases hr : r with
    | nil =>
      show TL.numL (0 * 10 + (c - 48)) = [c]
      rw [TL.numL_lt (by omega)]
      congr 1
      omega
    | cons a r' =>
      have h48 : (r ++ [c]).head? ≠ some 48 := fun z => hh ⟨z, by rw [hr]; simp⟩
      have hr48 : r.head? ≠ some 48 := by rw [hr] at h48 ⊢; simpa using h48
      have hrd : NumText.AllDigits r := fun x hx => hd x (by simp [hx])
      have hlen : r.length = n := by simp at hn; exact hn
      have p := val_pos n r hlen hrd (by rw [hr]; simp) hr48
      have ih := num_back n r hlen hrd (by rw [hr]; simp) (fun z => hr48 z.1)
      rw [← hr, TL.numL_step (by omega)]
      have e1 : (NumText.digitsVal r * 10 + (c - 48)) / 10 = NumText.digitsVal r := by omega
      have e2 : (NumText.digitsVal r * 10 + (c - 48)) % 10 = c - 48 := by omega
      rw [e1, e2, ih]
      congr 2
      omega
theorem numOf_some {l : Tx} {n : Int} (h : numOf l = some n) : 0 ≤ n ∧ numT n = l := by
  unfold numOf at h
  split at h
  · cases h
  · rename_i hne
    split at h
    · rename_i hc
      have e := Option.some.inj h
      subst e
      refine ⟨Int.natCast_nonneg _, ?_⟩
      show TL.numL (((NumText.digitsVal l : Nat) : Int)).toNat = l
      rw [Int.toNat_natCast]
      exact num_back _ l rfl ((digs_iff l).mp hc.1) hne hc.2
    · cases h
theorem numL_head : ∀ (n k : Nat), n ≤ k → (TL.numL n).head? = some 48 → n = 0
  | n, 0, h, _ => by omega
  | n, k + 1, h, hh => by
    by_cases h10 : n < 10
    · rw [TL.numL_lt h10] at hh
      simp at hh
      omega
    · rw [TL.numL_step (by omega)] at hh
      have hne := TL.numL_ne (n / 10)
      have : (TL.numL (n / 10)).head? = some 48 := by
        cases hq : TL.numL (n / 10) with
        | nil => exact absurd hq hne
        | cons a r => rw [hq] at hh; simpa using hh
      have := numL_head (n / 10) k (by omega) this
      omega
theorem numOf_num {n : Int} (h : 0 ≤ n) : numOf (numT n) = some n := by
  have e : n = ((n.toNat : Nat) : Int) := by omega
  unfold numOf
  rw [if_neg (show ¬ numT n = [] from TL.numL_ne _), if_pos]
  · congr 1
    show ((NumText.digitsVal (TL.numL n.toNat) : Nat) : Int) = n
    rw [TL.numL_val]
    omega
  · refine ⟨(digs_iff _).mpr (TL.numL_digits _), fun z => ?_⟩
    have z0 := numL_head n.toNat n.toNat (Nat.le_refl _) z.1
    refine z.2 ?_
    show TL.numL n.toNat = [48]
    rw [z0]
    exact TL.numL_lt (by decide)
theorem numT_ne (n : Int) : numT n ≠ [] := TL.numL_ne _
theorem numT_free {n : Int} {s : Nat} (h : s < 48 ∨ 57 < s) : s ∉ numT n := TL.numL_free h
/-- the number is below ten to its length -/
theorem numL_below : ∀ (k n : Nat), n ≤ k → n < 10 ^ (TL.numL n).length
  | 0, n, h => by
    have : n = 0 := by omega
    subst this
    exact Nat.pow_pos (by decide)
  | k + 1, n, h => by
    by_cases h10 : n < 10
    · rw [TL.numL_lt h10]
      exact h10
    · rw [TL.numL_step (by omega), List.length_append, Nat.pow_add]
      have ih := numL_below k (n / 10) (by omega)
      have h1 : n / 10 + 1 ≤ 10 ^ (TL.numL (n / 10)).length := ih
      have h2 := Nat.mul_le_mul_right 10 h1
      show n < 10 ^ (TL.numL (n / 10)).length * 10
      omega
theorem numT_below {n : Int} (h : 0 ≤ n) : n < ((10 ^ (numT n).length : Nat) : Int) := by
  have := numL_below n.toNat n.toNat (Nat.le_refl _)
  have e : n = ((n.toNat : Nat) : Int) := by omega
  have : ((n.toNat : Nat) : Int) < ((10 ^ (TL.numL n.toNat).length : Nat) : Int) := Int.ofNat_lt.mpr this
  rw [← e] at this
  exact this

/-! ### pairs: a-b, a-, a:b -/
def endT : Option Int → Tx
  | none => []
  | some m => numT m
def pairT (s : Nat) (l : Int) (m : Option Int) : Tx := numT l ++ (s :: endT m)
def pairOf (s : Nat) (l : Tx) : Option (Int × Int) := match TL.par [s] [] l with
  | none => none
  | some (x, y) => match numOf x, numOf y with
    | some a, some b => some (a, b)
    | _, _ => none
theorem pre1 (s c : Nat) (r : Tx) : TL.pre [s] (c :: r) = decide (c = s) := by
  show (([c] : Tx) == [s]) = decide (c = s)
  by_cases h : c = s
  · subst h
    simp
  · simp [h]
theorem par1_some {s : Nat} : ∀ (l acc x y : Tx), TL.par [s] acc l = some (x, y) → x ++ (s :: y) = acc ++ l
  | [], acc, x, y, h => by cases h
  | c :: r, acc, x, y, h => by
    by_cases hc : c = s
    · subst hc
      rw [TL.par_hit (by rw [pre1]; exact decide_eq_true rfl)] at h
      cases h
      rfl
    · rw [TL.par_miss (by rw [pre1]; exact decide_eq_false hc)] at h
      have ih := par1_some r (acc ++ [c]) x y h
      rw [ih, List.append_assoc]
      rfl
theorem pairOf_some {s : Nat} {l : Tx} {a b : Int} (h : pairOf s l = some (a, b)) : 0 ≤ a ∧ 0 ≤ b ∧ pairT s a (some b) = l := by
  unfold pairOf at h
  cases hp : TL.par [s] [] l with
  | none => rw [hp] at h; cases h
  | some q =>
    obtain ⟨x, y⟩ := q
    rw [hp] at h
    cases hx : numOf x with
    | none => simp [hx] at h
    | some a' =>
      cases hy : numOf y with
      | none => simp [hx, hy] at h
      | some b' =>
        simp [hx, hy] at h
        obtain ⟨rfl, rfl⟩ := h
        obtain ⟨h1, h2⟩ := numOf_some hx
        obtain ⟨h3, h4⟩ := numOf_some hy
        refine ⟨h1, h3, ?_⟩
        show numT a' ++ (s :: numT b') = l
        rw [h2, h4]
        exact par1_some l [] x y hp
def endsW (s : Nat) (l : Tx) : Bool := l.getLast? == some s
theorem last_back {l : Tx} {a : Nat} (h : l.getLast? = some a) : l.dropLast ++ [a] = l := by
  have hne : l ≠ [] := fun z => by rw [z] at h; cases h
  obtain ⟨r, c, rfl⟩ : ∃ r c, l = r ++ [c] := ⟨l.dropLast, l.getLast hne, (List.dropLast_concat_getLast hne).symm⟩
  simp at h
  subst h
  simp
/-- a saying, or stretch, that a word writes -/
def sayOf (l : Tx) : Option (Int × Option Int) :=
  if endsW 45 l = true ∧ (numOf l.dropLast).isSome = true then (numOf l.dropLast).map fun a => (a, none)
  else match pairOf 45 l with
    | none => none
    | some (a, b) => if b < a then none else some (a, some b)
def okP (p : Int × Option Int) : Prop := 0 ≤ p.1 ∧ (∀ m, p.2 = some m → p.1 ≤ m)
theorem sayOf_some {l : Tx} {p : Int × Option Int} (h : sayOf l = some p) : okP p ∧ pairT 45 p.1 p.2 = l := by
  unfold sayOf at h
  split at h
  · rename_i hc
    cases hn : numOf l.dropLast with
    | none => rw [hn] at h; cases h
    | some a =>
      rw [hn] at h
      have e := Option.some.inj h
      subst e
      obtain ⟨h1, h2⟩ := numOf_some hn
      refine ⟨⟨h1, fun m z => nomatch z⟩, ?_⟩
      show numT a ++ [45] = l
      have hl : l.getLast? = some 45 := beq_iff_eq.mp hc.1
      rw [h2]
      exact last_back hl
  · split at h
    · cases h
    · rename_i a b hp
      split at h
      · cases h
      · rename_i hab
        have e := Option.some.inj h
        subst e
        obtain ⟨h1, h2, h3⟩ := pairOf_some hp
        exact ⟨⟨h1, fun m z => by cases z; show a ≤ b; omega⟩, h3⟩
theorem pairT_len (s : Nat) (l : Int) (m : Option Int) : 2 ≤ (pairT s l m).length := by
  have h : 0 < (numT l).length := List.length_pos_iff.mpr (numT_ne l)
  show 2 ≤ (numT l ++ (s :: endT m)).length
  rw [List.length_append, List.length_cons]
  omega
end Bo

namespace Bo
open PySem L2
/-! ### words -/
theorem spl_ne (S : Tx) : ∀ (k : Nat) (acc l : Tx), TL.spl S k acc l ≠ []
  | k, acc, [] => by rw [TL.spl_nil]; simp
  | 0, acc, c :: r => by
    cases h : TL.pre S (c :: r) with
    | true => rw [TL.spl_hit h]; simp
    | false => rw [TL.spl_miss h]; exact spl_ne S 0 _ r
  | k + 1, acc, c :: r => by
    rw [TL.spl_pass, List.drop_succ_cons, ← TL.spl_pass]
    exact spl_ne S k acc r
theorem join_cons (S p : Tx) {r : List Tx} (h : r ≠ []) : TL.joinL S (p :: r) = p ++ (S ++ TL.joinL S r) := by
  cases r with
  | nil => exact absurd rfl h
  | cons q r => rfl
theorem spl_back {S : Tx} (hS : S ≠ []) : ∀ (n : Nat) (l acc : Tx), l.length ≤ n → TL.joinL S (TL.spl S 0 acc l) = acc ++ l
  | 0, l, acc, h => by
    have : l = [] := List.eq_nil_of_length_eq_zero (by omega)
    subst this
    rw [TL.spl_nil, List.append_nil]
    rfl
  | n + 1, [], acc, h => by
    rw [TL.spl_nil, List.append_nil]
    rfl
  | n + 1, c :: r, acc, h => by
    cases hp : TL.pre S (c :: r) with
    | false =>
      rw [TL.spl_miss hp, spl_back hS n r _ (by simp at h; omega), List.append_assoc]
      rfl
    | true =>
      rw [TL.spl_hit hp, TL.spl_pass, join_cons _ _ (spl_ne S 0 [] _), spl_back hS n _ [] (by simp at h ⊢; omega), List.nil_append]
      congr 1
      have e : (c :: r).take S.length = S := beq_iff_eq.mp hp
      cases S with
      | nil => exact absurd rfl hS
      | cons s S' =>
        have e2 : r.drop ((s :: S').length - 1) = (c :: r).drop (s :: S').length := rfl
        rw [e2]
        conv => lhs; lhs; rw [← e]
        exact List.take_append_drop _ _
def wsOf (l : Tx) : List Tx := if l = [] then [] else TL.spl [32] 0 [] l
def joinB (ts : List Tx) : Tx := TL.joinL [32] ts
theorem join_ws (l : Tx) : joinB (wsOf l) = l := by
  unfold wsOf joinB
  split
  · rename_i h
    rw [h]
    rfl
  · rw [spl_back (by simp) l.length l [] (Nat.le_refl _)]
    rfl
/-- all with a blank behind -/
def blanks (ts : List Tx) : Tx := (ts.map fun t => t ++ [32]).flatten
theorem blanks_cons (t : Tx) (r : List Tx) : blanks (t :: r) = t ++ [32] ++ blanks r := rfl
theorem blanks_app (a b : List Tx) : blanks (a ++ b) = blanks a ++ blanks b := by
  unfold blanks
  rw [List.map_append, List.flatten_append]
theorem blanks_join : ∀ {ts : List Tx}, ts ≠ [] → blanks ts = joinB ts ++ [32]
  | [], h => absurd rfl h
  | [t], _ => by
    show t ++ [32] ++ [] = t ++ [32]
    rw [List.append_nil]
  | t :: u :: r, _ => by
    rw [blanks_cons, blanks_join (by simp : u :: r ≠ [])]
    show t ++ [32] ++ (joinB (u :: r) ++ [32]) = (t ++ ([32] ++ joinB (u :: r))) ++ [32]
    simp only [List.append_assoc]
theorem blanks_len (ts : List Tx) : (blanks ts).length = (ts.map (·.length)).sum + ts.length := by
  induction ts with
  | nil => rfl
  | cons t r ih =>
    rw [blanks_cons, List.length_append, List.length_append, ih]
    simp only [List.map_cons, List.sum_cons, List.length_cons, List.length_nil]
    omega
theorem join_len (ts : List Tx) : (joinB ts).length + 1 = (ts.map (·.length)).sum + ts.length + (if ts = [] then 1 else 0) := by
  by_cases h : ts = []
  · subst h
    rfl
  · have := congrArg List.length (blanks_join h)
    rw [blanks_len, List.length_append] at this
    rw [if_neg h]
    simp at this
    omega
theorem ws_count (l : Tx) : (wsOf l).length ≤ l.length + 1 := by
  have h1 := join_ws l
  have h2 := join_len (wsOf l)
  rw [h1] at h2
  split at h2 <;> omega
theorem single_le_sum {ts : List Tx} {w : Tx} (h : w ∈ ts) : w.length ≤ (ts.map (·.length)).sum := by
  induction ts with
  | nil => cases h
  | cons t r ih =>
    rw [List.map_cons, List.sum_cons]
    rcases List.mem_cons.mp h with rfl | h
    · omega
    · have := ih h
      omega
theorem ws_len {l w : Tx} (h : w ∈ wsOf l) : w.length ≤ l.length := by
  have h1 := join_ws l
  have h2 := join_len (wsOf l)
  have h3 : w.length ≤ ((wsOf l).map (·.length)).sum := single_le_sum h
  have h4 : 0 < (wsOf l).length := List.length_pos_of_mem h
  rw [h1] at h2
  split at h2 <;> omega
end Bo

namespace Bo
open PySem L2
/-! ### what is known of an item: its text, its people, whether it is a saying -/
structure Inf where
  t : Tx
  p : Nat
  s : Bool
def sayInf (p : Int × Option Int) : Inf := ⟨pairT 45 p.1 p.2, 1, true⟩
def pSum (is : List Inf) : Nat := (is.map (·.p)).sum
def joinI (is : List Inf) : Tx := joinB (is.map (·.t))
def agInf (n : Int) (is : List Inf) : Inf := ⟨numT n ++ [42, 40] ++ joinI is ++ [41], n.toNat * pSum is, false⟩
/-- the reader: the agains begun (the innermost first), what is within the innermost -/
structure RS where
  rest : List (Int × List Inf)
  top : List Inf
def bl (is : List Inf) : Tx := blanks (is.map (·.t))
def Rt : List (Int × List Inf) → List Inf → Tx
  | [], top => bl top
  | (n, par) :: rest, top => Rt rest par ++ (numT n ++ [42, 40]) ++ bl top
def RS.tx (S : RS) : Tx := Rt S.rest S.top
def beginS (n : Int) (S : RS) : RS := ⟨(n, S.top) :: S.rest, []⟩
def closeS (S : RS) : Option RS := match S.rest with
  | [] => none
  | (n, par) :: rest => some ⟨rest, par ++ [agInf n S.top]⟩
def begins (S : RS) : List Tx → Option RS
  | [] => some S
  | h :: r => match numOf h with
    | none => none
    | some n => begins (beginS n S) r
def closes : Nat → RS → Option RS
  | 0, S => some S
  | k + 1, S => match closeS S with
    | none => none
    | some S' => closes k S'
def addS (S : RS) (is : List Inf) : RS := ⟨S.rest, S.top ++ is⟩
def heads (w : Tx) : List Tx := TL.spl [42, 40] 0 [] w
def coreOf (l : Tx) : Tx := (l.reverse.dropWhile (· == 41)).reverse
def lastOf (w : Tx) : Tx := (heads w).getLastD []
def takeS (S : RS) (w : Tx) : Option RS := match begins S (heads w).dropLast with
  | none => none
  | some S1 => match sayOf (coreOf (lastOf w)) with
    | none => if coreOf (lastOf w) ≠ [] ∨ (heads w).length = 1 ∨ (lastOf w).length - (coreOf (lastOf w)).length = 0 then none else closes ((lastOf w).length - (coreOf (lastOf w)).length) S1
    | some p => closes ((lastOf w).length - (coreOf (lastOf w)).length) (addS S1 [sayInf p])
theorem bl_app (a b : List Inf) : bl (a ++ b) = bl a ++ bl b := by
  unfold bl
  rw [List.map_append, blanks_app]
theorem Rt_app (rest : List (Int × List Inf)) (a b : List Inf) : Rt rest (a ++ b) = Rt rest a ++ bl b := by
  cases rest with
  | nil => exact bl_app a b
  | cons f r =>
    obtain ⟨n, par⟩ := f
    show Rt r par ++ (numT n ++ [42, 40]) ++ bl (a ++ b) = Rt r par ++ (numT n ++ [42, 40]) ++ bl a ++ bl b
    rw [bl_app]
    simp only [List.append_assoc]
theorem add_tx (S : RS) (i : Inf) : (addS S [i]).tx = S.tx ++ i.t ++ [32] := by
  show Rt S.rest (S.top ++ [i]) = _
  rw [Rt_app]
  show S.tx ++ (i.t ++ [32] ++ []) = _
  rw [List.append_nil, List.append_assoc]
theorem begin_tx (n : Int) (S : RS) : (beginS n S).tx = S.tx ++ (numT n ++ [42, 40]) := by
  show Rt S.rest S.top ++ (numT n ++ [42, 40]) ++ [] = _
  rw [List.append_nil]
  rfl
/-- Q is the text so far, no blank behind -/
def Bt (S : RS) (Q : Tx) : Prop := (S.top ≠ [] ∧ S.tx = Q ++ [32]) ∨ (S.top = [] ∧ S.tx = Q)
theorem close_bt {S S' : RS} {Q : Tx} (b : Bt S Q) (h : closeS S = some S') : S'.top ≠ [] ∧ S'.tx = Q ++ [41] ++ [32] := by
  obtain ⟨rest, top⟩ := S
  cases rest with
  | nil => cases h
  | cons f rest =>
    obtain ⟨n, par⟩ := f
    have e : (⟨rest, par ++ [agInf n top]⟩ : RS) = S' := Option.some.inj h
    subst e
    refine ⟨by simp, ?_⟩
    have e1 : (⟨rest, par ++ [agInf n top]⟩ : RS).tx = Rt rest par ++ (numT n ++ [42, 40] ++ joinI top ++ [41]) ++ [32] := add_tx ⟨rest, par⟩ (agInf n top)
    rw [e1]
    have key : Rt rest par ++ (numT n ++ [42, 40]) ++ joinI top = Q := by
      rcases b with ⟨hne, hb⟩ | ⟨hn, hb⟩
      · have hb' : Rt rest par ++ (numT n ++ [42, 40]) ++ blanks (top.map (·.t)) = Q ++ [32] := hb
        rw [blanks_join (by simpa using hne), ← List.append_assoc] at hb'
        exact List.append_cancel_right hb'
      · have hn' : top = [] := hn
        subst hn'
        have hb' : Rt rest par ++ (numT n ++ [42, 40]) ++ [] = Q := hb
        exact hb'
    rw [← key]
    simp only [List.append_assoc]
theorem closes_bt : ∀ {k : Nat} {S S' : RS} {Q : Tx}, Bt S Q → closes k S = some S' → Bt S' (Q ++ List.replicate k 41) ∧ (S.top ≠ [] ∨ 0 < k → S'.top ≠ [])
  | 0, S, S', Q, b, h => by
    have e : S = S' := Option.some.inj h
    subst e
    rw [List.replicate_zero, List.append_nil]
    exact ⟨b, fun z => z.elim id fun z => absurd z (Nat.lt_irrefl _)⟩
  | k + 1, S, S', Q, b, h => by
    unfold closes at h
    cases hc : closeS S with
    | none => rw [hc] at h; cases h
    | some S1 =>
      rw [hc] at h
      obtain ⟨h1, h2⟩ := close_bt b hc
      obtain ⟨h3, h4⟩ := closes_bt (.inl ⟨h1, h2⟩) h
      refine ⟨?_, fun _ => h4 (.inl h1)⟩
      rw [List.append_assoc] at h3
      exact h3
theorem begins_tx : ∀ {hs : List Tx} {S S1 : RS}, begins S hs = some S1 → S1.tx = S.tx ++ (hs.map fun h => h ++ [42, 40]).flatten ∧ (hs ≠ [] → S1.top = [])
  | [], S, S1, h => by
    have e : S = S1 := Option.some.inj h
    subst e
    exact ⟨by simp, fun z => absurd rfl z⟩
  | a :: r, S, S1, h => by
    unfold begins at h
    cases hn : numOf a with
    | none => rw [hn] at h; cases h
    | some n =>
      rw [hn] at h
      obtain ⟨h1, h2⟩ := begins_tx (hs := r) h
      obtain ⟨h3, h4⟩ := numOf_some hn
      rw [begin_tx, h4] at h1
      refine ⟨?_, fun _ => ?_⟩
      · rw [h1, List.append_assoc]
        rfl
      · cases r with
        | nil =>
          have e : beginS n S = S1 := Option.some.inj h
          rw [← e]
          rfl
        | cons b r => exact h2 (by simp)
theorem core_eq (l : Tx) : coreOf l ++ List.replicate (l.length - (coreOf l).length) 41 = l := by
  unfold coreOf
  have key : ∀ r : Tx, ∃ k, r = List.replicate k 41 ++ r.dropWhile (· == 41) := by
    intro r
    induction r with
    | nil => exact ⟨0, rfl⟩
    | cons c r ih =>
      rw [List.dropWhile_cons]
      by_cases h : (c == 41) = true
      · rw [if_pos h]
        obtain ⟨k, e⟩ := ih
        refine ⟨k + 1, ?_⟩
        rw [List.replicate_succ, List.cons_append, ← e, beq_iff_eq.mp h]
      · rw [if_neg h]
        exact ⟨0, rfl⟩
  obtain ⟨k, e⟩ := key l.reverse
  generalize l.reverse.dropWhile (· == 41) = d at e
  have el : l = d.reverse ++ List.replicate k 41 := by
    have := congrArg List.reverse e
    rw [List.reverse_reverse, List.reverse_append, List.reverse_replicate] at this
    exact this
  have hk : l.length - d.reverse.length = k := by
    rw [el]
    simp
  rw [hk, ← el]
theorem heads_back (w : Tx) : ((heads w).dropLast.map fun h => h ++ [42, 40]).flatten ++ lastOf w = w := by
  have h1 : TL.joinL [42, 40] (heads w) = [] ++ w := spl_back (by simp) w.length w [] (Nat.le_refl _)
  rw [List.nil_append] at h1
  have hne : heads w ≠ [] := spl_ne _ _ _ _
  have key : ∀ ts : List Tx, ts ≠ [] → (ts.dropLast.map fun h => h ++ [42, 40]).flatten ++ ts.getLastD [] = TL.joinL [42, 40] ts := by
    intro ts
    induction ts with
    | nil => intro h; exact absurd rfl h
    | cons t r ih =>
      intro _
      cases r with
      | nil => rfl
      | cons u r =>
        have := ih (by simp)
        rw [join_cons _ _ (by simp), ← this]
        show t ++ [42, 40] ++ (((u :: r).dropLast.map fun h => h ++ [42, 40]).flatten) ++ (u :: r).getLastD [] = _
        simp only [List.append_assoc]
  unfold lastOf
  rw [key _ hne, h1]
theorem takeS_tx {S S' : RS} {w : Tx} (h : takeS S w = some S') : S'.top ≠ [] ∧ S'.tx = S.tx ++ w ++ [32] := by
  unfold takeS at h
  cases hb : begins S (heads w).dropLast with
  | none => rw [hb] at h; cases h
  | some S1 =>
    rw [hb] at h
    obtain ⟨h1, h2⟩ := begins_tx hb
    have hw := heads_back w
    have hc := core_eq (lastOf w)
    have fin : ∀ {Q : Tx}, Bt S' Q → S'.top ≠ [] → S'.tx = Q ++ [32] := fun {Q} b hne => b.elim (fun z => z.2) fun z => absurd z.1 hne
    cases hs : sayOf (coreOf (lastOf w)) with
    | none =>
      simp only [hs] at h
      split at h
      · cases h
      · rename_i hn
        have hn1 : coreOf (lastOf w) = [] := Classical.byContradiction fun z => hn (.inl z)
        have hn2 : (heads w).length ≠ 1 := fun z => hn (.inr (.inl z))
        have hn3 : (lastOf w).length - (coreOf (lastOf w)).length ≠ 0 := fun z => hn (.inr (.inr z))
        have hne : (heads w).dropLast ≠ [] := fun z => by
          have hne0 : heads w ≠ [] := spl_ne _ _ _ _
          have l1 := congrArg List.length z
          rw [List.length_dropLast] at l1
          have l2 := List.length_pos_iff.mpr hne0
          simp at l1
          omega
        obtain ⟨b1, b2⟩ := closes_bt (.inr ⟨h2 hne, rfl⟩) h
        have hne' := b2 (.inr (by omega))
        refine ⟨hne', ?_⟩
        rw [fin b1 hne', h1]
        rw [hn1, List.nil_append] at hc
        rw [hn1, hc, List.append_assoc S.tx, hw]
    | some p =>
      simp only [hs] at h
      obtain ⟨_, e⟩ := sayOf_some hs
      have hadd : (addS S1 [sayInf p]).tx = S1.tx ++ coreOf (lastOf w) ++ [32] := by
        rw [add_tx]
        show S1.tx ++ pairT 45 p.1 p.2 ++ [32] = _
        rw [e]
      obtain ⟨b1, b2⟩ := closes_bt (.inl ⟨by simp [addS], hadd⟩) h
      have hne' := b2 (.inl (by simp [addS]))
      refine ⟨hne', ?_⟩
      rw [fin b1 hne', h1, List.append_assoc, List.append_assoc, List.append_assoc, ← List.append_assoc (coreOf (lastOf w)), hc, ← List.append_assoc _ (lastOf w), hw, List.append_assoc]
end Bo

namespace Bo
open PySem L2
/-! ### sizes -/
def szF (rest : List (Int × List Inf)) : Nat := (rest.map fun f => f.2.length + 1).sum
def RS.sz (S : RS) : Nat := S.top.length + szF S.rest
theorem bl_len (is : List Inf) : is.length ≤ (bl is).length := by
  unfold bl
  rw [blanks_len, List.length_map]
  omega
theorem Rt_len : ∀ (rest : List (Int × List Inf)) (top : List Inf), top.length + szF rest ≤ (Rt rest top).length
  | [], top => by
    have := bl_len top
    show top.length + 0 ≤ (bl top).length
    omega
  | (n, par) :: rest, top => by
    have h1 := Rt_len rest par
    have h2 := bl_len top
    show top.length + ((par.length + 1) + szF rest) ≤ (Rt rest par ++ (numT n ++ [42, 40]) ++ bl top).length
    simp only [List.length_append, List.length_cons, List.length_nil]
    omega
theorem sz_le (S : RS) : S.sz ≤ S.tx.length := Rt_len S.rest S.top

/-! ### people -/
def okI (i : Inf) : Prop := i.t ≠ [] ∧ i.p < 10 ^ i.t.length
theorem okI_say (p : Int × Option Int) : okI (sayInf p) := by
  have h := pairT_len 45 p.1 p.2
  refine ⟨fun z => ?_, ?_⟩
  · have z' : pairT 45 p.1 p.2 = [] := z
    rw [z'] at h
    simp at h
  · show 1 < 10 ^ (pairT 45 p.1 p.2).length
    exact Nat.one_lt_pow (by omega) (by decide)
theorem pSum_below : ∀ {is : List Inf}, (∀ i ∈ is, okI i) → pSum is < 10 ^ (joinI is).length
  | [], _ => by decide
  | i :: r, h => by
    have h1 := (h i List.mem_cons_self).2
    have h2 := pSum_below (is := r) fun x hx => h x (List.mem_cons_of_mem _ hx)
    have e : pSum (i :: r) = i.p + pSum r := by
      unfold pSum
      rw [List.map_cons, List.sum_cons]
    rw [e]
    cases r with
    | nil =>
      show i.p + 0 < 10 ^ i.t.length
      omega
    | cons j r =>
      have e2 : (joinI (i :: j :: r)).length = i.t.length + (1 + (joinI (j :: r)).length) := by
        show (i.t ++ ([32] ++ joinI (j :: r))).length = _
        simp only [List.length_append, List.length_cons, List.length_nil]
      rw [e2]
      have p1 : 10 ^ i.t.length ≤ 10 ^ (i.t.length + (joinI (j :: r)).length) := Nat.pow_le_pow_right (by decide) (Nat.le_add_right _ _)
      have p2 : 10 ^ (joinI (j :: r)).length ≤ 10 ^ (i.t.length + (joinI (j :: r)).length) := Nat.pow_le_pow_right (by decide) (Nat.le_add_left _ _)
      have p3 : 10 ^ (i.t.length + (1 + (joinI (j :: r)).length)) = 10 ^ (i.t.length + (joinI (j :: r)).length) * 10 := by
        rw [← Nat.pow_succ]
        congr 1
        omega
      rw [p3]
      omega
theorem okI_again {n : Int} {is : List Inf} (hn : 0 ≤ n) (h : ∀ i ∈ is, okI i) : okI (agInf n is) := by
  refine ⟨?_, ?_⟩
  · show numT n ++ [42, 40] ++ joinI is ++ [41] ≠ []
    simp
  · have h1 := pSum_below h
    have h2 := TL_below n
    show n.toNat * pSum is < 10 ^ (numT n ++ [42, 40] ++ joinI is ++ [41]).length
    have e : (numT n ++ [42, 40] ++ joinI is ++ [41]).length = (numT n).length + (joinI is).length + 3 := by
      simp only [List.length_append, List.length_cons, List.length_nil]
      omega
    rw [e]
    have p : 10 ^ ((numT n).length + (joinI is).length) ≤ 10 ^ ((numT n).length + (joinI is).length + 3) := Nat.pow_le_pow_right (by decide) (Nat.le_add_right _ _)
    refine Nat.lt_of_lt_of_le ?_ p
    rw [Nat.pow_add]
    exact Nat.mul_lt_mul'' h2 h1
where
  TL_below (n : Int) : n.toNat < 10 ^ (numT n).length := numL_below n.toNat n.toNat (Nat.le_refl _)
/-- all that is known is in order -/
def okS (S : RS) : Prop := (∀ i ∈ S.top, okI i) ∧ ∀ f ∈ S.rest, 0 ≤ f.1 ∧ ∀ i ∈ f.2, okI i
theorem okS_begin {S : RS} {n : Int} (h : okS S) (hn : 0 ≤ n) : okS (beginS n S) := ⟨fun i hi => (nomatch hi), fun f hf => by
  rcases List.mem_cons.mp hf with rfl | hf
  · exact ⟨hn, h.1⟩
  · exact h.2 f hf⟩
theorem okS_add {S : RS} {i : Inf} (h : okS S) (hi : okI i) : okS (addS S [i]) := ⟨fun j hj => by
  rcases List.mem_append.mp hj with hj | hj
  · exact h.1 j hj
  · rw [List.mem_singleton.mp hj]
    exact hi, h.2⟩
theorem okS_close {S S' : RS} (h : okS S) (e : closeS S = some S') : okS S' := by
  obtain ⟨rest, top⟩ := S
  cases rest with
  | nil => cases e
  | cons f rest =>
    obtain ⟨n, par⟩ := f
    have e' : (⟨rest, par ++ [agInf n top]⟩ : RS) = S' := Option.some.inj e
    subst e'
    obtain ⟨hn, hp⟩ := h.2 (n, par) List.mem_cons_self
    exact okS_add (S := ⟨rest, par⟩) ⟨hp, fun f hf => h.2 f (List.mem_cons_of_mem _ hf)⟩ (okI_again hn h.1)
theorem okS_closes : ∀ {k : Nat} {S S' : RS}, okS S → closes k S = some S' → okS S'
  | 0, S, S', h, e => by
    have e' : S = S' := Option.some.inj e
    subst e'
    exact h
  | k + 1, S, S', h, e => by
    unfold closes at e
    cases hc : closeS S with
    | none => rw [hc] at e; cases e
    | some S1 =>
      rw [hc] at e
      exact okS_closes (okS_close h hc) e
theorem okS_begins : ∀ {hs : List Tx} {S S' : RS}, okS S → begins S hs = some S' → okS S'
  | [], S, S', h, e => by
    have e' : S = S' := Option.some.inj e
    subst e'
    exact h
  | a :: r, S, S', h, e => by
    unfold begins at e
    cases hn : numOf a with
    | none => rw [hn] at e; cases e
    | some n =>
      rw [hn] at e
      exact okS_begins (okS_begin h (numOf_some hn).1) e
theorem okS_take {S S' : RS} {w : Tx} (h : okS S) (e : takeS S w = some S') : okS S' := by
  unfold takeS at e
  cases hb : begins S (heads w).dropLast with
  | none => rw [hb] at e; cases e
  | some S1 =>
    rw [hb] at e
    have h1 := okS_begins h hb
    cases hs : sayOf (coreOf (lastOf w)) with
    | none =>
      simp only [hs] at e
      split at e
      · cases e
      · exact okS_closes h1 e
    | some p =>
      simp only [hs] at e
      exact okS_closes (okS_add h1 (okI_say p)) e

/-! ### a row read: the place where it is refused, or its items -/
def MOST : Int := 10 ^ 30 - 1
def readFrom : Nat → RS → List Tx → Except Nat RS
  | _, S, [] => .ok S
  | at_, S, w :: r => match takeS S w with
    | none => .error at_
    | some S' => readFrom (at_ + 1) S' r
def S0 : RS := ⟨[], []⟩
def isOk (is : List Inf) : Bool := (is.map (·.s)).all id || decide ((pSum is : Int) ≤ MOST)
def readS (l : Tx) : Except Nat (List Inf) := match readFrom 0 S0 (wsOf l) with
  | .error e => .error e
  | .ok S => if S.rest = [] ∧ isOk S.top = true then .ok S.top else .error (wsOf l).length
theorem readFrom_tx : ∀ {ws : List Tx} {k : Nat} {S S' : RS}, readFrom k S ws = .ok S' → S'.tx = S.tx ++ blanks ws ∧ (okS S → okS S') ∧ (S.top ≠ [] ∨ ws ≠ [] → S'.top ≠ [])
  | [], k, S, S', h => by
    have e : S = S' := by injection h
    subst e
    refine ⟨by show S.tx = S.tx ++ []; rw [List.append_nil], id, fun z => z.elim id fun z => absurd rfl z⟩
  | w :: r, k, S, S', h => by
    unfold readFrom at h
    cases ht : takeS S w with
    | none => rw [ht] at h; cases h
    | some S1 =>
      rw [ht] at h
      obtain ⟨h1, h2, h3⟩ := readFrom_tx h
      obtain ⟨h4, h5⟩ := takeS_tx ht
      refine ⟨?_, fun z => h2 (okS_take z ht), fun _ => h3 (.inl h4)⟩
      rw [h1, h5, blanks_cons]
      simp only [List.append_assoc]
theorem readFrom_at : ∀ {ws : List Tx} {k e : Nat} {S : RS}, readFrom k S ws = .error e → e < k + ws.length
  | [], k, e, S, h => by cases h
  | w :: r, k, e, S, h => by
    unfold readFrom at h
    cases ht : takeS S w with
    | none =>
      rw [ht] at h
      have : k = e := by injection h
      simp only [List.length_cons]
      omega
    | some S1 =>
      rw [ht] at h
      have := readFrom_at h
      simp only [List.length_cons]
      omega
theorem readS_at {l : Tx} {e : Nat} (h : readS l = .error e) : e ≤ (wsOf l).length := by
  unfold readS at h
  cases hr : readFrom 0 S0 (wsOf l) with
  | error e' =>
    rw [hr] at h
    have e2 : e' = e := by injection h
    have := readFrom_at hr
    omega
  | ok S =>
    rw [hr] at h
    simp only at h
    split at h
    · cases h
    · have : (wsOf l).length = e := by injection h
      omega
theorem readS_tx {l : Tx} {is : List Inf} (h : readS l = .ok is) : joinI is = l ∧ (∀ i ∈ is, okI i) ∧ isOk is = true := by
  unfold readS at h
  cases hr : readFrom 0 S0 (wsOf l) with
  | error e' => rw [hr] at h; cases h
  | ok S =>
    rw [hr] at h
    simp only at h
    split at h
    · rename_i hc
      have e : S.top = is := by injection h
      obtain ⟨h1, h2, h3⟩ := readFrom_tx hr
      have ok := h2 ⟨fun i hi => (nomatch hi), fun f hf => (nomatch hf)⟩
      rw [e] at hc h3
      refine ⟨?_, fun i hi => ok.1 i (by rw [e]; exact hi), hc.2⟩
      have e1 : S.tx = bl is := by
        show Rt S.rest S.top = bl is
        rw [hc.1, e]
        rfl
      have e2 : bl is = blanks (wsOf l) := by
        rw [← e1, h1]
        rfl
      have jl := join_ws l
      by_cases hw : wsOf l = []
      · have hb : is.length ≤ (bl is).length := bl_len is
        rw [e2, hw] at hb
        have hn : is = [] := List.eq_nil_of_length_eq_zero (by simpa [blanks] using hb)
        rw [hn]
        rw [hw] at jl
        exact jl
      · have hne := h3 (.inr hw)
        have e3 : joinI is ++ [32] = joinB (wsOf l) ++ [32] := by
          rw [← blanks_join hw, ← e2]
          exact (blanks_join (by simpa using hne)).symm
        rw [← jl]
        exact List.append_cancel_right e3
    · cases h
end Bo

namespace Bo
open PySem L2
/-! ### texts of agains within one another -/
def preN (ns : List Int) : Tx := (ns.map fun n => numT n ++ [42, 40]).flatten
def pushes (S : RS) : List Int → RS
  | [] => S
  | n :: r => pushes (beginS n S) r
def nestL : List Int → List Inf → List Inf
  | [], is => is
  | n :: r, is => [agInf n (nestL r is)]
theorem heads_nest {last : Tx} (h : 42 ∉ last) : ∀ ns : List Int, heads (preN ns ++ last) = ns.map numT ++ [last]
  | [] => by
    show TL.spl [42, 40] 0 [] ([] ++ last) = [last]
    rw [List.nil_append, TL.spl_last1 h]
    rfl
  | n :: r => by
    have e : preN (n :: r) ++ last = numT n ++ ([42, 40] ++ (preN r ++ last)) := by
      show (numT n ++ [42, 40] ++ preN r) ++ last = _
      simp only [List.append_assoc]
    have ih := heads_nest h r
    unfold heads at ih ⊢
    rw [e, TL.spl_part1 (numT_free (.inl (by decide))), ih]
    rfl
theorem begins_nest : ∀ {ns : List Int} {S : RS}, (∀ n ∈ ns, 0 ≤ n) → begins S (ns.map numT) = some (pushes S ns)
  | [], S, _ => rfl
  | n :: r, S, h => by
    show (match numOf (numT n) with | none => none | some n => begins (beginS n S) (r.map numT)) = _
    rw [numOf_num (h n List.mem_cons_self)]
    exact begins_nest fun m hm => h m (List.mem_cons_of_mem _ hm)
theorem core_of {c : Tx} (k : Nat) (h : c.getLast? ≠ some 41) : coreOf (c ++ List.replicate k 41) = c := by
  unfold coreOf
  rw [List.reverse_append, List.reverse_replicate]
  have e : ∀ (k : Nat) (r : Tx), r.head? ≠ some 41 → (List.replicate k 41 ++ r).dropWhile (· == 41) = r := by
    intro k
    induction k with
    | zero =>
      intro r hr
      rw [List.replicate_zero, List.nil_append]
      cases r with
      | nil => rfl
      | cons a r =>
        rw [List.dropWhile_cons, if_neg]
        intro z
        exact hr (by rw [← beq_iff_eq.mp z]; rfl)
    | succ k ih =>
      intro r hr
      rw [List.replicate_succ, List.cons_append, List.dropWhile_cons, if_pos (by rfl)]
      exact ih r hr
  rw [e k c.reverse (by rw [List.head?_reverse]; exact h), List.reverse_reverse]
theorem closes_push : ∀ (ns : List Int) (S : RS) (is : List Inf), closes ns.length (addS (pushes S ns) is) = some (addS S (nestL ns is))
  | [], S, is => rfl
  | n :: r, S, is => by
    have ih := closes_push r (beginS n S) is
    have app : ∀ (a : Nat) (S S' : RS), closes a S = some S' → closes (a + 1) S = closeS S' := by
      intro a
      induction a with
      | zero =>
        intro S S' h
        have e : S = S' := Option.some.inj h
        subst e
        show (match closeS S with | none => none | some S' => closes 0 S') = closeS S
        cases closeS S <;> rfl
      | succ a iha =>
        intro S S' h
        unfold closes at h
        cases hc : closeS S with
        | none => rw [hc] at h; cases h
        | some S1 =>
          rw [hc] at h
          show (match closeS S with | none => none | some S' => closes (a + 1) S') = closeS S'
          rw [hc]
          exact iha S1 S' h
    rw [List.length_cons]
    show closes (r.length + 1) (addS (pushes (beginS n S) r) is) = _
    rw [app _ _ _ ih]
    rfl
theorem last_eq (ns : List Int) (l : Tx) : (ns.map numT ++ [l]).getLastD [] = l ∧ (ns.map numT ++ [l]).dropLast = ns.map numT := by
  constructor
  · simp [List.getLastD_eq_getLast?]
  · simp
/-- a word: agains begun, a saying, agains ended -/
theorem take_say {ns : List Int} {c : Tx} {p : Int × Option Int} (k : Nat) (S : RS) (hn : ∀ n ∈ ns, 0 ≤ n) (hs : sayOf c = some p) (h41 : c.getLast? ≠ some 41) (h42 : 42 ∉ c) :
    takeS S (preN ns ++ (c ++ List.replicate k 41)) = closes k (addS (pushes S ns) [sayInf p]) := by
  have h : 42 ∉ c ++ List.replicate k 41 := fun z => by
    rcases List.mem_append.mp z with z | z
    · exact h42 z
    · have := List.eq_of_mem_replicate z
      omega
  have hh := heads_nest h ns
  obtain ⟨e1, e2⟩ := last_eq ns (c ++ List.replicate k 41)
  unfold takeS lastOf
  rw [hh, e1, e2, begins_nest hn]
  simp only [core_of k h41, hs]
  congr 1
  simp
/-- .. without a saying -/
theorem take_none {ns : List Int} (k : Nat) (S : RS) (hn : ∀ n ∈ ns, 0 ≤ n) (h1 : ns ≠ []) (hk : 0 < k) : takeS S (preN ns ++ List.replicate k 41) = closes k (pushes S ns) := by
  have h : 42 ∉ List.replicate k 41 := fun z => by
    have := List.eq_of_mem_replicate z
    omega
  have hh := heads_nest h ns
  obtain ⟨e1, e2⟩ := last_eq ns (List.replicate k 41)
  have ec : coreOf (List.replicate k 41) = [] := core_of (c := []) k (by decide)
  have es : sayOf [] = none := by decide
  unfold takeS lastOf
  rw [hh, e1, e2, begins_nest hn]
  simp only [ec, es, List.length_replicate, List.length_nil, Nat.sub_zero]
  rw [if_neg]
  intro z
  rcases z with z | z | z
  · exact z rfl
  · have := List.length_pos_iff.mpr h1
    rw [List.length_append, List.length_map, List.length_singleton] at z
    omega
  · omega
def prodN (ns : List Int) : Nat := (ns.map Int.toNat).foldr (· * ·) 1
theorem pSum_nest (is : List Inf) : ∀ ns : List Int, pSum (nestL ns is) = prodN ns * pSum is
  | [] => by
    show pSum is = 1 * pSum is
    rw [Nat.one_mul]
  | n :: r => by
    have ih := pSum_nest is r
    show n.toNat * pSum (nestL r is) + 0 = (n.toNat * prodN r) * pSum is
    rw [ih, Nat.add_zero, Nat.mul_assoc]
/-- the text of agains around sayings' words -/
def nestT (ns : List Int) (cs : List Tx) : Tx := preN ns ++ (joinB cs ++ List.replicate ns.length 41)
theorem preN_free {s : Nat} (h1 : s < 40 ∨ 57 < s) (ns : List Int) : s ∉ preN ns := by
  unfold preN
  intro z
  obtain ⟨l, hl, hz⟩ := List.mem_flatten.mp z
  obtain ⟨n, _, rfl⟩ := List.mem_map.mp hl
  rcases List.mem_append.mp hz with hz | hz
  · exact numT_free (n := n) (by omega) hz
  · simp at hz
    omega
theorem ws_one {l : Tx} (h : 32 ∉ l) (hne : l ≠ []) : wsOf l = [l] := by
  unfold wsOf
  rw [if_neg hne, TL.spl_last1 h]
  rfl
theorem ws_two {a b : Tx} (ha : 32 ∉ a) (hb : 32 ∉ b) : wsOf (a ++ ([32] ++ b)) = [a, b] := by
  unfold wsOf
  rw [if_neg (by simp), TL.spl_part1 ha, TL.spl_last1 hb]
  rfl
theorem rep_free {s k : Nat} (h : s ≠ 41) : s ∉ List.replicate k 41 := fun z => h (List.eq_of_mem_replicate z)
theorem notin_app {s : Nat} {a b : Tx} (ha : s ∉ a) (hb : s ∉ b) : s ∉ a ++ b := fun z => (List.mem_append.mp z).elim ha hb
/-- what is read of such a text, where it is one saying, two, or none -/
theorem read_nest {ns : List Int} (hn : ∀ n ∈ ns, 0 ≤ n) (h1 : ns ≠ []) {cs : List Tx} {is : List Inf}
    (hc : (cs = [] ∧ is = []) ∨ (∃ c p, cs = [c] ∧ is = [sayInf p] ∧ sayOf c = some p ∧ c.getLast? ≠ some 41 ∧ 42 ∉ c ∧ 32 ∉ c) ∨
      ∃ c p d q, cs = [c, d] ∧ is = [sayInf p, sayInf q] ∧ sayOf c = some p ∧ c.getLast? ≠ some 41 ∧ 42 ∉ c ∧ 32 ∉ c ∧ sayOf d = some q ∧ d.getLast? ≠ some 41 ∧ 42 ∉ d ∧ 32 ∉ d) :
    readFrom 0 S0 (wsOf (nestT ns cs)) = .ok ⟨[], nestL ns is⟩ ∧ (wsOf (nestT ns cs)).length = max 1 cs.length := by
  have hp : 32 ∉ preN ns := preN_free (.inl (by decide)) ns
  have hl : 0 < ns.length := List.length_pos_iff.mpr h1
  have hr : ∀ k, 32 ∉ List.replicate k 41 := fun k => rep_free (by decide)
  have pne : preN ns ≠ [] := fun z => by
    cases ns with
    | nil => exact h1 rfl
    | cons n r =>
      have z' : numT n ++ [42, 40] ++ preN r = [] := z
      simp at z'
  rcases hc with ⟨rfl, rfl⟩ | ⟨c, p, rfl, rfl, s1, s2, s3, s4⟩ | ⟨c, p, d, q, rfl, rfl, s1, s2, s3, s4, t1, t2, t3, t4⟩
  · have e : nestT ns [] = preN ns ++ List.replicate ns.length 41 := rfl
    have ew : wsOf (nestT ns []) = [preN ns ++ List.replicate ns.length 41] := by
      rw [e]
      exact ws_one (notin_app hp (hr _)) (by simp [pne])
    rw [ew]
    refine ⟨?_, rfl⟩
    have tk := take_none ns.length S0 hn h1 hl
    have cp := closes_push ns S0 []
    have ea : addS (pushes S0 ns) [] = pushes S0 ns := by
      show (⟨_, (pushes S0 ns).top ++ []⟩ : RS) = _
      rw [List.append_nil]
    rw [ea] at cp
    show (match takeS S0 (preN ns ++ List.replicate ns.length 41) with | none => Except.error 0 | some S' => readFrom 1 S' []) = _
    rw [tk, cp]
    rfl
  · have e : nestT ns [c] = preN ns ++ (c ++ List.replicate ns.length 41) := rfl
    have ew : wsOf (nestT ns [c]) = [preN ns ++ (c ++ List.replicate ns.length 41)] := by
      rw [e]
      exact ws_one (notin_app hp (notin_app s4 (hr _))) (by simp [pne])
    rw [ew]
    refine ⟨?_, rfl⟩
    show (match takeS S0 (preN ns ++ (c ++ List.replicate ns.length 41)) with | none => Except.error 0 | some S' => readFrom 1 S' []) = _
    rw [take_say ns.length S0 hn s1 s2 s3, closes_push ns S0 [sayInf p]]
    rfl
  · have e : nestT ns [c, d] = (preN ns ++ c) ++ ([32] ++ (d ++ List.replicate ns.length 41)) := by
      show preN ns ++ ((c ++ ([32] ++ d)) ++ _) = _
      simp only [List.append_assoc]
    have ew : wsOf (nestT ns [c, d]) = [preN ns ++ c, d ++ List.replicate ns.length 41] := by
      rw [e]
      exact ws_two (notin_app hp s4) (notin_app t4 (hr _))
    rw [ew]
    refine ⟨?_, rfl⟩
    have tk1 := take_say (ns := ns) (c := c) 0 S0 hn s1 s2 s3
    rw [List.replicate_zero, List.append_nil] at tk1
    have tk2 := take_say (ns := []) (c := d) ns.length (addS (pushes S0 ns) [sayInf p]) (fun n z => nomatch z) t1 t2 t3
    show (match takeS S0 (preN ns ++ c) with | none => Except.error 0 | some S' => readFrom 1 S' [d ++ List.replicate ns.length 41]) = _
    rw [tk1]
    show (match takeS (addS (pushes S0 ns) [sayInf p]) (d ++ List.replicate ns.length 41) with | none => Except.error 1 | some S' => readFrom 2 S' []) = _
    have tk2' : takeS (addS (pushes S0 ns) [sayInf p]) (d ++ List.replicate ns.length 41) = closes ns.length (addS (pushes S0 ns) [sayInf p, sayInf q]) := by
      have z : addS (addS (pushes S0 ns) [sayInf p]) [sayInf q] = addS (pushes S0 ns) [sayInf p, sayInf q] := by
        show (⟨_, ((pushes S0 ns).top ++ [sayInf p]) ++ [sayInf q]⟩ : RS) = ⟨_, (pushes S0 ns).top ++ [sayInf p, sayInf q]⟩
        rw [List.append_assoc]
        rfl
      rw [← z]
      exact tk2
    rw [tk2', closes_push ns S0 [sayInf p, sayInf q]]
    rfl
theorem nest_say {ns : List Int} (h1 : ns ≠ []) (is : List Inf) : ((nestL ns is).map (·.s)).all id = false := by
  cases ns with
  | nil => exact absurd rfl h1
  | cons n r => rfl
theorem readS_nest {l : Tx} {ns : List Int} {is : List Inf} (h1 : ns ≠ []) (h : readFrom 0 S0 (wsOf l) = .ok ⟨[], nestL ns is⟩) :
    readS l = if ((prodN ns * pSum is : Nat) : Int) ≤ MOST then .ok (nestL ns is) else .error (wsOf l).length := by
  unfold readS
  rw [h]
  simp only [true_and]
  unfold isOk
  rw [nest_say h1, Bool.false_or, pSum_nest]
  by_cases hm : ((prodN ns * pSum is : Nat) : Int) ≤ MOST
  · rw [if_pos hm, decide_eq_true hm, if_pos rfl]
  · rw [if_neg hm, decide_eq_false hm, if_neg (by decide)]

/-! ### the law's own texts -/
/-- eight agains of small numbers around three sayings' texts -/
def innerC : List (List Tx) := [[[51, 45]], [[48, 45, 53], [50, 45]], []]
theorem prod_small : ∀ {ns : List Int}, (∀ n ∈ ns, n < 3) → prodN ns ≤ 2 ^ ns.length
  | [], _ => by decide
  | n :: r, h => by
    have ih := prod_small (ns := r) fun m hm => h m (List.mem_cons_of_mem _ hm)
    have h0 := h n List.mem_cons_self
    have h1 : n.toNat ≤ 2 := by omega
    show n.toNat * prodN r ≤ 2 ^ (r.length + 1)
    rw [Nat.pow_succ, Nat.mul_comm (2 ^ r.length)]
    exact Nat.mul_le_mul h1 ih
theorem read_deep {ns : List Int} (hn : ∀ n ∈ ns, 0 ≤ n ∧ n < 3) (hl : ns.length = 8) {cs : List Tx} (hc : cs ∈ innerC) : ∃ is, readS (nestT ns cs) = .ok is := by
  have h1 : ns ≠ [] := fun z => by rw [z] at hl; cases hl
  have hp := prod_small fun n h => (hn n h).2
  rw [hl] at hp
  have fin : ∀ is : List Inf, pSum is ≤ 2 → readFrom 0 S0 (wsOf (nestT ns cs)) = .ok ⟨[], nestL ns is⟩ → ∃ is, readS (nestT ns cs) = .ok is := fun is h2 h => by
    refine ⟨nestL ns is, ?_⟩
    rw [readS_nest h1 h, if_pos]
    have h3 := Nat.mul_le_mul hp h2
    have h4 : ((prodN ns * pSum is : Nat) : Int) ≤ ((2 ^ 8 * 2 : Nat) : Int) := Int.ofNat_le.mpr h3
    have h5 : ((2 ^ 8 * 2 : Nat) : Int) ≤ MOST := by decide
    omega
  have hn0 : ∀ n ∈ ns, 0 ≤ n := fun n h => (hn n h).1
  simp only [innerC, List.mem_cons, List.not_mem_nil, or_false] at hc
  rcases hc with rfl | rfl | rfl
  · exact fin [sayInf (3, none)] (by decide) (read_nest hn0 h1 (.inr (.inl ⟨_, (3, none), rfl, rfl, by decide, by decide, by decide, by decide⟩))).1
  · exact fin [sayInf (0, some 5), sayInf (2, none)] (by decide) (read_nest hn0 h1 (.inr (.inr ⟨_, (0, some 5), _, (2, none), rfl, rfl, by decide, by decide, by decide, by decide, by decide, by decide, by decide, by decide⟩))).1
  · exact fin [] (by decide) (read_nest hn0 h1 (.inl ⟨rfl, rfl⟩)).1
def greatC : List Tx := [[48, 45], [49, 45]]
theorem great_read {ns : List Int} (hn : ∀ n ∈ ns, 0 ≤ n) (h1 : ns ≠ []) : readFrom 0 S0 (wsOf (nestT ns greatC)) = .ok ⟨[], nestL ns [sayInf (0, none), sayInf (1, none)]⟩ ∧ (wsOf (nestT ns greatC)).length = 2 :=
  read_nest hn h1 (.inr (.inr ⟨_, (0, none), _, (1, none), rfl, rfl, by decide, by decide, by decide, by decide, by decide, by decide, by decide, by decide⟩))
theorem read_great {g : Int} (h : 10 ^ 15 ≤ g) : readS (nestT [g, g] greatC) = .error 2 := by
  have hg : 0 ≤ g := by omega
  obtain ⟨e1, e2⟩ := great_read (ns := [g, g]) (by simp [hg]) (by simp)
  rw [readS_nest (by simp) e1, e2, if_neg]
  have e : prodN [g, g] * pSum [sayInf (0, none), sayInf (1, none)] = g.toNat * (g.toNat * 1) * 2 := rfl
  rw [e]
  have hk : 10 ^ 15 ≤ g.toNat := by omega
  have h2 := Nat.mul_le_mul hk hk
  have h3 : (10 : Nat) ^ 15 * 10 ^ 15 = 10 ^ 30 := by decide
  rw [h3] at h2
  rw [Nat.mul_one]
  have h4 : ((10 ^ 30 * 2 : Nat) : Int) ≤ ((g.toNat * g.toNat * 2 : Nat) : Int) := Int.ofNat_le.mpr (Nat.mul_le_mul_right 2 h2)
  have h5 : MOST < ((10 ^ 30 * 2 : Nat) : Int) := by decide
  omega
theorem read_less : ∃ is, readS (nestT [10 ^ 29] greatC) = .ok is := by
  obtain ⟨e1, e2⟩ := great_read (ns := [10 ^ 29]) (by simp) (by simp)
  exact ⟨_, by rw [readS_nest (by simp) e1, if_pos (by decide)]⟩
end Bo

namespace Bo
open PySem L2 PyProof.Rows
theorem ofL_dec (a b : Tx) : decide (V.str (ofL a) = V.str (ofL b)) = decide (a = b) := by
  by_cases h : a = b
  · subst h
    simp
  · rw [decide_eq_false h]
    exact decide_eq_false fun z => h (ofL_inj (V.str.inj z))
def spNumIn : Sp := fun vs H Q _ => ∃ l : Tx, vs = [.str (ofL l)] ∧ l.length ≤ 600 ∧ ∀ H', Same H H' → Q (endV (numOf l)) H'
def figS : Str := "0123456789"
theorem fig_mem (c : Nat) : decide (c ∈ figS.cps.toList) = (decide (48 ≤ c) && decide (c ≤ 57)) := by
  have e : figS.cps.toList = [48, 49, 50, 51, 52, 53, 54, 55, 56, 57] := by decide +kernel
  rw [e, ← Bool.decide_and]
  congr 1
  simp only [List.mem_cons, List.not_mem_nil, or_false, eq_iff_iff]
  omega
section
variable {P : Program} {w : World} {K : PySem.W.Frag} {mg : Str → Option Value} {base : Heap}
theorem scNumIn : FnScope ["word", "sign"] ["word"] (defScope sNumberIn) := ⟨rfl, rfl, rfl, by decide +kernel, rfl, by decide +kernel, by decide +kernel⟩
theorem ok_numIn {f : Addr} {fd : FuncData} {tf : Tok} (F : Fun K "number_in" "number_in" sNumberIn f fd) (B : Bi mg) (mF : mg "FIGURES" = some (.str "0123456789" tf)) : FnOk P w K mg base CX0 1 f fd ["word"] spNumIn := by
  refine F.ok scNumIn (fun vs H Q E h => ?_) (fun cdv A outer s H vs Q E hr h => ?_)
  · obtain ⟨l, rfl, _⟩ := h
    rfl
  obtain ⟨l, rfl, hl, q⟩ := h
  refine ⟨_, pss_cons (ps_if (PW.pt (pw_or (pt_cmpR op_eq (pv 0) pe_str (nomark _))
      (pw_or (pt_not (pt_val (pe_callB (cr_all rfl) (by rfl) B.all boot_all (pa_cons (pe_lc (own := [("sign", 1)]) (g := gName 1) (tt := tYes) rfl scNumIn.nd (pi_str (pv 0)) (blkOk_by (N := ["word", "sign"]) (sc := defScope sNumberIn) (by decide +kernel))
        (fun _ _ _ _ _ => pg_name (i := 1) scNumIn.nd rfl (Or.inl rfl)) (fun _ _ _ _ _ => pts_nil) (fun _ _ _ _ _ => pe_cmpR op_in_sign (pv 1) (pe_glob (v := .str "0123456789") rfl mF ⟨_, rfl⟩) rfl)) pa_nil))))
      (pw_or1 (PW.pt (pw_and (pt_cmpR op_eq (pe_ix ix_str (pv 0) pe_int (fun _ _ => rfl)) pe_str (nomark _)) (pw_and1 (pt_cmpR op_ne (pv 0) pe_str (nomark _))))))))) (pss_one (ps_ret pe_non)) pss_nil)
    (pss_one (ps_ret (pe_callTy call_int_str (by rfl) B.int boot_int (pa_cons (pv 0) pa_nil)))), ?_⟩
  refine ⟨_, rfl, rfl, _, rfl, ?_⟩
  rw [show (Str.ofString "" : Str) = ofL [] by decide +kernel, ofL_dec]
  cases l with
  | nil => exact iteT (q H (Same.refl _))
  | cons c r =>
    refine iteF ?_
    refine ⟨_, rfl, _, rfl, fun D hD => ?_⟩
    refine lc_gen (((c :: r).map fun x => decide (48 ≤ x) && decide (x ≤ 57)).map V.bl) (by rw [List.length_map, List.length_map]; exact small (by omega)) hD (fun j H2 hj _ => ?_) (fun H2 _ => ?_) (fun j y x H2 H3 Q' hy s2 yy k => ?_) (fun H2 s2 e2 => ?_)
    · show j < (c :: r).toArray.size
      simpa using hj
    · show (c :: r).toArray.size ≤ _
      simp
    · obtain ⟨e, d, hd, rfl⟩ := yy
      subst e
      refine ⟨rfl, _, rfl, d, _, rfl, rfl, ?_⟩
      have hd' : (c :: r)[j]? = some d := by simpa [ofL] using hd
      rw [List.map_map, List.getElem?_map, hd'] at hy
      have ey : y = .bl (decide (48 ≤ d) && decide (d ≤ 57)) := (Option.some.inj hy).symm
      have em : decide (d ∈ (Str.ofString "0123456789").cps.toList) = (decide (48 ≤ d) && decide (d ≤ 57)) := fig_mem d
      rw [em, ← ey]
      exact k _ (Same.refl _)
    · refine ⟨D, _, rfl, SqL.of e2, _, rfl, ?_⟩
      have ed : ((c :: r).map fun x => decide (48 ≤ x) && decide (x ≤ 57)).all id = digs (c :: r) := by
        unfold digs
        rw [List.all_map]
        rfl
      rw [ed]
      have nO : numOf (c :: r) = if digs (c :: r) = true ∧ ¬ ((c :: r).head? = some 48 ∧ c :: r ≠ [48]) then some ((NumText.digitsVal (c :: r) : Nat) : Int) else none := if_neg (by simp)
      have qq := q H2 s2
      rw [nO] at qq
      cases hd : digs (c :: r) with
      | false =>
        refine iteT ?_
        rw [hd, if_neg (fun z => Bool.false_ne_true z.1)] at qq
        exact qq
      | true =>
        refine iteF ?_
        refine ⟨_, rfl, _, _, c, rfl, rfl, (by rw [ofL_len]; exact small (by omega)), atI_nat (j := 0) rfl, rfl, _, rfl, ?_⟩
        have fin : ¬ ((c :: r).head? = some 48 ∧ c :: r ≠ [48]) → (if false = true then tRet (tC .non) { nx := fun _ H' => Q .non H', rt := Q } (L2.start ["word", "sign"] [.str (ofL (c :: r))]) H2 else
            tRet (tCB (fun xs H Q => ∃ a n, xs = [.str a] ∧ PySem.intText? a = some n ∧ a.length ≤ 640 ∧ Q (.int n) H) (tCons (tVar 0) tNil)) { nx := fun _ H' => Q .non H', rt := Q } (L2.start ["word", "sign"] [.str (ofL (c :: r))]) H2) := fun hn => by
          refine iteF ⟨_, rfl, _, _, rfl, PySem.intText_digits ((digs_iff _).mp hd) (by simp [ofL]) (by rw [ofL_len]; omega), (by rw [ofL_len]; omega), ?_⟩
          rw [hd, if_pos ⟨rfl, hn⟩] at qq
          exact qq
        rw [show (Str.ofString "0" : Str) = ofL [48] by decide +kernel, show (⟨#[c]⟩ : Str) = ofL [c] from rfl, ofL_dec]
        by_cases hc : c = 48
        · rw [show decide ([c] = [48]) = true by rw [hc]; rfl]
          refine iteT ⟨_, rfl, rfl, _, rfl, ?_⟩
          rw [ofL_dec]
          by_cases h1 : c :: r = [48]
          · rw [decide_eq_true h1]
            exact fin fun z => z.2 h1
          · rw [decide_eq_false h1]
            rw [hd, if_neg (fun z => z.2 ⟨by rw [hc]; rfl, h1⟩)] at qq
            exact iteT qq
        · rw [show decide ([c] = [48]) = false from decide_eq_false fun z => hc (by injection z)]
          exact iteF (fin fun z => hc (by simpa using z.1))
end
end Bo

namespace Bo
open PySem L2 PyProof.Rows
abbrev strV (l : Tx) : V := .str (ofL l)
theorem split_ws {l : Tx} (h : l ≠ []) : (Txt.split (ofL l) (ofL [32])).map V.str = (wsOf l).map strV := by
  have e : (Txt.split (ofL l) (ofL [32])).map TL.tl = TL.spl [32] 0 [] l := TL.split_spl (ofL l) (ofL [32]) (by rw [tl_ofL]; simp) (TL.kind_ok (by simp [ofL]))
  have e2 : wsOf l = TL.spl [32] 0 [] l := if_neg h
  rw [e2, ← e, List.map_map]
  refine List.map_congr_left fun x _ => ?_
  show V.str x = V.str (ofL (TL.tl x))
  rw [ofL_tl]
theorem part_par (l : Tx) (s : Nat) (h : s < 256) : Txt.partition (ofL l) (ofL [s]) = (match TL.par [s] [] l with | some (a, b) => (ofL a, ofL [s], ofL b) | none => (ofL l, ofL [], ofL [])) := by
  rw [TL.partition_par _ _ (by rw [tl_ofL]; simp)]
  rfl
theorem ends_dash (l : Tx) (s : Nat) : Txt.endswith (ofL l) (ofL [s]) = endsW s l := by
  unfold Txt.endswith
  rw [StrLaws.subAt_eq, ofL_len, ofL_len]
  show (decide (0 + 1 ≤ l.length) && ((l.drop (l.length - 1)).take 1 == [s])) = (l.getLast? == some s)
  by_cases hl : l = []
  · subst hl
    rfl
  · obtain ⟨r, c, rfl⟩ : ∃ r c, l = r ++ [c] := ⟨l.dropLast, l.getLast hl, (List.dropLast_concat_getLast hl).symm⟩
    rw [List.length_append, List.length_singleton, Nat.add_sub_cancel, List.drop_left, List.getLast?_append]
    rw [decide_eq_true (by omega), Bool.true_and]
    show (([c] : Tx) == [s]) = (some c == some s)
    by_cases h : c = s
    · subst h
      simp
    · simp [h]
theorem cut_last (l : Tx) : cutS (ofL l) none (some (-1)) = ofL l.dropLast := by
  unfold cutS
  have e1 : HT.sIx (ofL l).length (ofL l).length (some (-1)) = l.length - 1 := by
    show (if (-1 : Int) < 0 then ((-1 : Int) + ((ofL l).length : Int)).toNat else min (-1 : Int).toNat (ofL l).length) = l.length - 1
    rw [if_pos (by decide), ofL_len]
    omega
  rw [e1]
  show ofL ((l.drop 0).take (l.length - 1 - 0)) = ofL l.dropLast
  rw [List.drop_zero, Nat.sub_zero, List.dropLast_eq_take]
def spPairIn : Sp := fun vs H Q _ => ∃ (l : Tx) (s : Nat), vs = [strV l, strV [s]] ∧ s < 256 ∧ l.length ≤ 600 ∧ (pairOf s l = none → ∀ H', Same H H' → Q .non H') ∧ ∀ a b, pairOf s l = some (a, b) → ∀ p H', Same H H' → H' p = some (.tup (pairV a (some b))) → Q (.ref p) H'
def spStrIn : Sp := fun vs H Q _ => ∃ l : Tx, vs = [strV l] ∧ l.length ≤ 600 ∧ (sayOf l = none → ∀ H', Same H H' → Q .non H') ∧ ∀ p, sayOf l = some p → ∀ a H', Same H H' → H' a = some (.tup (pairV p.1 p.2)) → Q (.ref a) H'
def spWords : Sp := fun vs H Q _ => ∃ l : Tx, vs = [strV l] ∧ l.length ≤ 600 ∧ ∀ p H', Same H H' → H p = none → H' p = some (.lst ((wsOf l).map strV)) → Q (.ref p) H'
theorem inV_two (a b : Option Int) : inV .non [endV a, endV b] = (a.isNone || b.isNone) := by
  cases a <;> cases b <;> rfl
theorem flat_end (a : Option Int) : flatV (endV a) = true := by cases a <;> rfl
section
variable {P : Program} {w : World} {K : PySem.W.Frag} {mg : Str → Option Value} {base : Heap}
abbrev CNumIn (P : Program) (w : World) (K : PySem.W.Frag) (mg : Str → Option Value) (base : Heap) : Prop := Cal P w K mg base CX0 1 "number_in" ["word"] spNumIn
abbrev CPairIn (P : Program) (w : World) (K : PySem.W.Frag) (mg : Str → Option Value) (base : Heap) : Prop := Cal P w K mg base CX0 2 "pair_in" ["word", "mark"] spPairIn
theorem scPairIn : FnScope ["word", "mark", "one", "between", "other", "pair"] ["word", "mark"] (defScope sPairIn) := ⟨rfl, rfl, rfl, by decide +kernel, rfl, by decide +kernel, by decide +kernel⟩
theorem ok_pairIn {f : Addr} {fd : FuncData} (F : Fun K "pair_in" "pair_in" sPairIn f fd) (N : CNumIn P w K mg base) : FnOk P w K mg base CX0 2 f fd ["word", "mark"] spPairIn := by
  refine F.ok scPairIn (fun vs H Q E h => ?_) (fun cdv A outer s H vs Q E hr h => ?_)
  · obtain ⟨l, s, rfl, _⟩ := h
    rfl
  obtain ⟨l, sp, rfl, hs, hl, qn, qs⟩ := h
  refine ⟨_, pss_cons (ps_asg (pe_partition (pv 0) (pv 1)) (pg_tup (by rfl) (pgs_cons (pg_name (i := 2) scPairIn.nd rfl (Or.inl rfl)) (pgs_cons (pg_name (i := 3) scPairIn.nd rfl (Or.inl rfl)) (pgs_cons (pg_name (i := 4) scPairIn.nd rfl (Or.inl rfl)) pgs_nil)))))
    (pss_cons (ps_set (i := 5) scPairIn.nd rfl (Or.inl rfl) (pe_tup (pa_cons (cal N hr pass0 (pa_cons (pv 2) pa_nil)) (pa_cons (cal N hr pass0 (pa_cons (pv 4) pa_nil)) pa_nil))))
    (pss_one (ps_ret (pe_ifExp (PW.pt (pw_or (pt_cmpR op_eq (pv 3) pe_str (nomark _)) (pw_or1 (pt_cmpR op_in_seq pe_non (pv 5) (by rfl))))) pe_non (pv 5))))), ?_⟩
  refine ⟨_, rfl, ⟨_, rfl⟩, _, rfl, ofL l, ofL [sp], rfl, rfl, rfl, (by rw [ofL_len]; exact small (by omega)), fun p hp => ?_⟩
  rw [part_par l sp hs]
  cases hpar : TL.par [sp] [] l with
  | none =>
    have en : pairOf sp l = none := by
      unfold pairOf
      rw [hpar]
    have s1 : Same H (upd H p (.tup [.str (ofL l), .str (ofL []), .str (ofL [])])) := same_new hp _
    refine ⟨p, _, rfl, SqT.of upd_same, rfl, _, _, rfl, _, _, rfl, _, _, rfl, rfl, ?_⟩
    refine ⟨_, rfl, l, rfl, hl, fun H2 s2 => ?_⟩
    refine ⟨_, rfl, [], rfl, Nat.zero_le _, fun H3 s3 => ?_⟩
    refine ⟨(by show 2 ≤ sizeLine; decide), fun c hc => ?_⟩
    refine ⟨_, rfl, rfl, _, rfl, ?_⟩
    rw [show (Str.ofString "" : Str) = ofL [] by decide +kernel, ofL_dec]
    exact iteT (qn en _ (((s1.trans s2).trans s3).trans (same_new hc _)))
  | some xy =>
    obtain ⟨x, y⟩ := xy
    have hxy := par1_some l [] x y hpar
    have hlen := congrArg List.length hxy
    simp only [List.length_append, List.length_cons, List.length_nil] at hlen
    have s1 : Same H (upd H p (.tup [.str (ofL x), .str (ofL [sp]), .str (ofL y)])) := same_new hp _
    refine ⟨p, _, rfl, SqT.of upd_same, rfl, _, _, rfl, _, _, rfl, _, _, rfl, rfl, ?_⟩
    refine ⟨_, rfl, x, rfl, by omega, fun H2 s2 => ?_⟩
    refine ⟨_, rfl, y, rfl, by omega, fun H3 s3 => ?_⟩
    refine ⟨(by show 2 ≤ sizeLine; decide), fun c hc => ?_⟩
    have s4 : Same H (upd H3 c (.tup [endV (numOf x), endV (numOf y)])) := ((s1.trans s2).trans s3).trans (same_new hc _)
    refine ⟨_, rfl, rfl, _, rfl, ?_⟩
    rw [show (Str.ofString "" : Str) = ofL [] by decide +kernel, ofL_dec]
    refine iteF ?_
    refine ⟨_, rfl, c, _, rfl, .inr (SqT.of upd_same), rfl, ?_, ?_⟩
    · show (flatV (endV (numOf x)) && (flatV (endV (numOf y)) && true)) = true
      rw [flat_end, flat_end]
      rfl
    refine ⟨_, rfl, ?_⟩
    rw [if_neg Bool.false_ne_true, inV_two]
    cases hx : numOf x with
    | none =>
      exact iteT (qn (by unfold pairOf; rw [hpar]; simp [hx]) _ (by rw [hx] at s4; exact s4))
    | some a =>
      cases hy : numOf y with
      | none => exact iteT (qn (by unfold pairOf; rw [hpar]; simp [hx, hy]) _ (by rw [hx, hy] at s4; exact s4))
      | some b => exact iteF ⟨_, rfl, qs a b (by unfold pairOf; rw [hpar]; simp [hx, hy]) c _ (by rw [hx, hy] at s4; exact s4) upd_same⟩

theorem scStrIn : FnScope ["word", "pair"] ["word"] (defScope sStretchIn) := ⟨rfl, rfl, rfl, by decide +kernel, rfl, by decide +kernel, by decide +kernel⟩
theorem ok_strIn {f : Addr} {fd : FuncData} (F : Fun K "stretch_in" "stretch_in" sStretchIn f fd) (N : CNumIn P w K mg base) (C : CPairIn P w K mg base) : FnOk P w K mg base CX0 3 f fd ["word"] spStrIn := by
  refine F.ok scStrIn (fun vs H Q E h => ?_) (fun cdv A outer s H vs Q E hr h => ?_)
  · obtain ⟨l, rfl, _⟩ := h
    rfl
  obtain ⟨l, rfl, hl, qn, qs⟩ := h
  have hr1 := hr.mono (show 1 ≤ 2 by decide)
  refine ⟨_, pss_cons (ps_if (PW.pt (pw_and (pt_val (pe_m1 PySem.F.slot_str_endswith PySem.F.type_str_endswith mt_endswith (pv 0) pe_str)) (pw_and1 (pt_cmpR op_notN (cal N hr1 pass0 (pa_cons (pe_slice sl_str (pv 0) po_none (po_some (pe_un un_neg pe_int))) pa_nil)) pe_non (nomark _)))))
      (pss_one (ps_ret (pe_tup (pa_cons (cal N hr1 pass0 (pa_cons (pe_slice sl_str (pv 0) po_none (po_some (pe_un un_neg pe_int))) pa_nil)) (pa_cons pe_non pa_nil))))) pss_nil)
    (pss_cons (ps_set (i := 1) scStrIn.nd rfl (Or.inl rfl) (cal C hr pass0 (pa_cons (pv 0) (pa_cons pe_str pa_nil))))
    (pss_one (ps_ret (pe_ifExp (PW.pt (pw_or (pt_cmpR op_isN (pv 1) pe_non (nomark _)) (pw_or1 (pt_cmpR op_lt (pe_ix ix_tup (pv 1) pe_int (fun _ _ => rfl)) (pe_ix ix_tup (pv 1) pe_int (fun _ _ => rfl)) (nomark _))))) pe_non (pv 1))))), ?_⟩
  have hz : (ofL l).length ≤ sizeLine := by
    rw [ofL_len]
    exact small (by omega)
  have e45 : (Str.ofString "-" : Str) = ofL [45] := by decide +kernel
  refine ⟨_, rfl, ⟨_, rfl⟩, ofL l, _, rfl, rfl, ?_⟩
  rw [e45, ends_dash]
  -- the way on, where it is no stretch without bound
  have go : ∀ H1, Same H H1 → ¬ (endsW 45 l = true ∧ (numOf l.dropLast).isSome = true) →
      tSeq (tAsg (tCall spPairIn [] E0 (tCons (tVar 0) (tCons (tC (.str (Str.ofString "-"))) tNil))) (gName 1))
        (tRet (tIf (tOr (tTest (tOp (fun x y H Q => y = .non ∧ Q (.bl (decide (x = .non))) H) (tVar 1) (tC .non))) (tTest (tOp (rI0 fun i j => .bl (decide (i < j))) (tOp (rIxT K) (tVar 1) (tC (.int 1))) (tOp (rIxT K) (tVar 1) (tC (.int 0)))))) (tC .non) (tVar 1)))
        { nx := fun _ H' => Q .non H', rt := Q } (L2.start ["word", "pair"] [strV l]) H1 := by
    intro H1 s1 hn
    have hs : sayOf l = (match pairOf 45 l with | none => none | some (a, b) => if b < a then none else some (a, some b)) := if_neg hn
    refine ⟨_, rfl, l, 45, ?_, by decide, hl, fun hp H2 s2 => ?_, fun a b hp p H2 s2 h2 => ?_⟩
    · rw [e45]
      rfl
    · rw [hp] at hs
      exact ⟨_, rfl, rfl, _, rfl, iteT (qn hs _ (s1.trans s2))⟩
    · rw [hp] at hs
      have hs' : sayOf l = if b < a then none else some (a, some b) := hs
      refine ⟨_, rfl, rfl, _, rfl, iteF ?_⟩
      refine ⟨_, rfl, p, _, 1, _, rfl, rfl, SqT.of h2, at1, _, rfl, p, _, 0, _, rfl, rfl, SqT.of h2, at0, _, _, rfl, rfl, _, rfl, ?_⟩
      by_cases hab : b < a
      · rw [if_pos hab] at hs'
        rw [decide_eq_true hab]
        exact iteT (qn hs' _ (s1.trans s2))
      · rw [if_neg hab] at hs'
        rw [decide_eq_false hab]
        exact iteF ⟨_, rfl, qs _ hs' p _ (s1.trans s2) h2⟩
  refine ⟨_, rfl, ?_⟩
  cases he : endsW 45 l with
  | false => exact iteF (go H (Same.refl _) fun z => by rw [he] at z; exact Bool.false_ne_true z.1)
  | true =>
    have hdl : l.dropLast.length ≤ 600 := by
      rw [List.length_dropLast]
      omega
    refine iteT ⟨_, rfl, 1, rfl, -1, rfl, ofL l, rfl, hz, l.dropLast, by rw [cut_last]; rfl, hdl, fun H1 s1 => ⟨rfl, _, rfl, ?_⟩⟩
    cases hn : numOf l.dropLast with
    | none => exact iteF (go H1 s1 fun z => by rw [hn] at z; exact Bool.false_ne_true z.2)
    | some a =>
      have hs : sayOf l = some (a, none) := by
        unfold sayOf
        rw [if_pos ⟨he, by rw [hn]; rfl⟩, hn]
        rfl
      refine iteT ⟨_, rfl, 1, rfl, -1, rfl, ofL l, rfl, hz, l.dropLast, by rw [cut_last]; rfl, hdl, fun H2 s2 => ?_⟩
      rw [hn]
      exact ⟨(by show 2 ≤ sizeLine; decide), fun p hp => qs _ hs p _ ((s1.trans s2).trans (same_new hp _)) upd_same⟩
theorem scWords : FnScope ["text"] ["text"] (defScope sWordsIn) := ⟨rfl, rfl, rfl, by decide +kernel, rfl, by decide +kernel, by decide +kernel⟩
theorem ok_words {f : Addr} {fd : FuncData} (F : Fun K "words_in" "words_in" sWordsIn f fd) (B : Bi mg) : FnOk P w K mg base CX0 1 f fd ["text"] spWords := by
  refine F.ok scWords (fun vs H Q E h => ?_) (fun cdv A outer s H vs Q E hr h => ?_)
  · obtain ⟨l, rfl, _⟩ := h
    rfl
  obtain ⟨l, rfl, hl, q⟩ := h
  refine ⟨_, pss_cons (ps_if (pt_not (pt_val (pe_isi B (pv 0) rfl rfl B.str boot_str))) (pss_one ps_never) pss_nil)
    (pss_one (ps_ret (pe_ifExp (pt_cmpR op_ne (pv 0) pe_str (nomark _)) (pe_split (pv 0) pe_str) (pe_lst pa_nil)))), ?_⟩
  refine ⟨_, rfl, _, .ty "str", _, _, true, rfl, .ty "str", .base (.str (ofL l)), kit_ty (by decide +kernel), _, rfl, iteF ?_⟩
  refine ⟨_, rfl, rfl, _, rfl, ?_⟩
  rw [show (Str.ofString "" : Str) = ofL [] by decide +kernel, ofL_dec]
  by_cases h0 : l = []
  · rw [decide_eq_true h0]
    refine iteF ⟨Nat.zero_le _, fun p hp => q p _ (same_new hp _) hp ?_⟩
    rw [upd_same, h0]
    rfl
  · rw [decide_eq_false h0]
    refine iteT ⟨_, rfl, ⟨_, rfl⟩, ofL l, ofL [32], rfl, ?_, rfl, (by rw [ofL_len]; exact small (by omega)), fun p hp => ?_⟩
    · rw [show (Str.ofString " " : Str) = ofL [32] by decide +kernel]
    · rw [split_ws h0]
      exact q p _ (same_new hp _) hp upd_same
end
end Bo

namespace Bo
open PySem L2 PyProof.Rows
/-! ### items in the heap; F: lists that are still open -/
inductive Itm (H : Hp) (F : List Addr) : V → Inf → Prop
  | say {a : Addr} {p : Int × Option Int} (h : H a = some (.tup (pairV p.1 p.2))) (ok : okP p) : Itm H F (.ref a) (sayInf p)
  | again {a b : Addr} {n : Int} {xs : List V} {is : List Inf} (h : H a = some (.tup (againV n b))) (hn : 0 ≤ n) (hb : H b = some (.lst xs)) (hF : b ∉ F) (hp : Paired (Itm H F) xs is) : Itm H F (.ref a) (agInf n is)
theorem okP.nn {p : Int × Option Int} (h : okP p) : nnE p.2 := by
  obtain ⟨l, m⟩ := p
  cases m with
  | none => trivial
  | some m =>
    have h1 := h.1
    have h2 := h.2 m rfl
    show 0 ≤ m
    simp only at h1 h2
    omega
theorem okP.say {p : Int × Option Int} (h : okP p) : sayB p.1 p.2 = true := by
  obtain ⟨l, m⟩ := p
  cases m with
  | none => rfl
  | some m => exact decide_eq_true (h.2 m rfl)
theorem Itm.sayAt {H : Hp} {F : List Addr} {v : V} {i : Inf} (h : Itm H F v i) : SayAt H v i.s := by
  cases h with
  | say h ok => exact .inl ⟨_, _, _, rfl, h, ok.1, ok.nn, ok.say.symm⟩
  | again h hn hb hF hp => exact .inr ⟨_, _, _, rfl, h, rfl⟩
theorem pairedImp {α β : Type} {R R' : α → β → Prop} : ∀ {xs : List α} {ys : List β}, Paired R xs ys → (∀ x y, y ∈ ys → R x y → R' x y) → Paired R' xs ys
  | _, _, .nil, _ => .nil
  | _, _, .cons r t, h => .cons (h _ _ List.mem_cons_self r) (pairedImp t fun x y hy => h x y (List.mem_cons_of_mem _ hy))
theorem pairedMap {α β γ : Type} {R : α → β → Prop} {R' : α → γ → Prop} (f : β → γ) : ∀ {xs : List α} {ys : List β}, Paired R xs ys → (∀ x y, R x y → R' x (f y)) → Paired R' xs (ys.map f)
  | _, _, .nil, _ => .nil
  | _, _, .cons r t, h => .cons (h _ _ r) (pairedMap f t h)
theorem mem_join {is : List Inf} {i : Inf} (h : i ∈ is) : i.t.length ≤ (joinI is).length := by
  have h1 := join_len (is.map (·.t))
  have h2 : i.t.length ≤ ((is.map (·.t)).map (·.length)).sum := single_le_sum (List.mem_map.mpr ⟨i, h, rfl⟩)
  have h3 : 0 < is.length := List.length_pos_of_mem h
  unfold joinI
  rw [List.length_map] at h1
  split at h1 <;> omega
theorem agInf_len (n : Int) (is : List Inf) : (agInf n is).t.length = (numT n).length + (joinI is).length + 3 := by
  show (numT n ++ [42, 40] ++ joinI is ++ [41]).length = _
  simp only [List.length_append, List.length_cons, List.length_nil]
  omega
theorem Itm.mono {H H' : Hp} {F F' : List Addr} (ht : ∀ b xs, H b = some (.tup xs) → H' b = some (.tup xs)) (hl : ∀ b xs, H b = some (.lst xs) → b ∉ F → H' b = some (.lst xs) ∧ b ∉ F') :
    ∀ (n : Nat) {v : V} {i : Inf}, i.t.length ≤ n → Itm H F v i → Itm H' F' v i := by
  intro n
  induction n with
  | zero =>
    intro v i hn x
    cases x with
    | say h ok => exact .say (ht _ _ h) ok
    | again h h0 hb hF hp =>
      rw [agInf_len] at hn
      omega
  | succ n ih =>
    intro v i hn x
    cases x with
    | say h ok => exact .say (ht _ _ h) ok
    | again h h0 hb hF hp =>
      rw [agInf_len] at hn
      obtain ⟨e1, e2⟩ := hl _ _ hb hF
      exact .again (ht _ _ h) h0 e1 e2 (pairedImp hp fun x y hy r => ih (by have := mem_join hy; omega) r)
theorem Itm.to {H H' : Hp} {F F' : List Addr} {v : V} {i : Inf} (x : Itm H F v i) (ht : ∀ b xs, H b = some (.tup xs) → H' b = some (.tup xs)) (hl : ∀ b xs, H b = some (.lst xs) → b ∉ F → H' b = some (.lst xs) ∧ b ∉ F') : Itm H' F' v i :=
  x.mono ht hl _ (Nat.le_refl _)
theorem Itm.same {H H' : Hp} {F : List Addr} {v : V} {i : Inf} (x : Itm H F v i) (s : Same H H') : Itm H' F v i := x.to (fun b xs h => s _ _ h) fun b xs h hF => ⟨s _ _ h, hF⟩
theorem items_same {H H' : Hp} {F : List Addr} {xs : List V} {is : List Inf} (x : Paired (Itm H F) xs is) (s : Same H H') : Paired (Itm H' F) xs is := pairedImp x fun _ _ _ r => r.same s
theorem mem_paired {α β : Type} {R : α → β → Prop} : ∀ {xs : List α} {ys : List β} {y : β}, Paired R xs ys → y ∈ ys → ∃ x, R x y
  | _, _, y, .cons r t, h => by
    rcases List.mem_cons.mp h with rfl | h
    · exact ⟨_, r⟩
    · exact mem_paired t h
theorem Itm.ok {H : Hp} {F : List Addr} : ∀ (n : Nat) {v : V} {i : Inf}, i.t.length ≤ n → Itm H F v i → okI i := by
  intro n
  induction n with
  | zero =>
    intro v i hn x
    cases x with
    | say h ok => exact okI_say _
    | again h h0 hb hF hp =>
      rw [agInf_len] at hn
      omega
  | succ n ih =>
    intro v i hn x
    cases x with
    | say h ok => exact okI_say _
    | again h h0 hb hF hp =>
      rw [agInf_len] at hn
      refine okI_again h0 fun i hi => ?_
      obtain ⟨x, hx⟩ := mem_paired hp hi
      exact ih (by have := mem_join hi; omega) hx
theorem items_ok {H : Hp} {F : List Addr} {xs : List V} {is : List Inf} (x : Paired (Itm H F) xs is) : ∀ i ∈ is, okI i := fun i hi => by
  obtain ⟨x, hx⟩ := mem_paired x hi
  exact Itm.ok _ (Nat.le_refl _) hx
theorem is_len (is : List Inf) (h : ∀ i ∈ is, okI i) : is.length ≤ (joinI is).length + 1 := by
  have h1 := join_len (is.map (·.t))
  unfold joinI
  rw [List.length_map] at h1
  split at h1 <;> omega

/-! ### people -/
def spPS (n : Nat) : Sp := fun vs H Q _ => ∃ (v : V) (i : Inf), vs = [v] ∧ Itm H [] v i ∧ i.s = false ∧ i.t.length ≤ n ∧ n ≤ 100 ∧ ∀ H', Same H H' → Q (.int (i.p : Nat)) H'
def spPO (n : Nat) : Sp := fun vs H Q _ => ∃ (b : Addr) (xs : List V) (is : List Inf), vs = [.ref b] ∧ H b = some (.lst xs) ∧ Paired (Itm H []) xs is ∧ (∀ i ∈ is, i.t.length ≤ n) ∧ (joinI is).length ≤ 100 ∧ n ≤ 100 ∧ ∀ H', Same H H' → Q (.int (pSum is : Nat)) H'
theorem pSum_take {is : List Inf} {j : Nat} {i : Inf} (h : is[j]? = some i) : pSum (is.take (j + 1)) = pSum (is.take j) + i.p := by
  obtain ⟨hj, e⟩ := List.getElem?_eq_some_iff.mp h
  rw [List.take_succ_eq_append_getElem hj]
  unfold pSum
  rw [List.map_append, List.sum_append, ← e]
  simp
theorem pow_100 : (10 : Nat) ^ 100 < 2 ^ 400 := by decide +kernel
theorem num_small {n : Int} (h : 0 ≤ n) (hl : (numT n).length ≤ 100) : n.natAbs < 2 ^ 400 := by
  have h1 := numL_below n.toNat n.toNat (Nat.le_refl _)
  have h2 : 10 ^ (TL.numL n.toNat).length ≤ 10 ^ 100 := Nat.pow_le_pow_right (by decide) hl
  have h3 := pow_100
  omega
theorem num_log {n : Int} (h : 0 ≤ n) (hl : (numT n).length ≤ 100) : n.natAbs.log2 < 1920 := Nat.lt_of_lt_of_le (PySem.Flt.log2_lt_of (by decide) (num_small h hl)) (by decide)
theorem sum_small {is : List Inf} (h : ∀ i ∈ is, okI i) (hl : (joinI is).length ≤ 100) : ((pSum is : Nat) : Int).natAbs < 2 ^ 400 := by
  have h1 := pSum_below h
  have h2 : 10 ^ (joinI is).length ≤ 10 ^ 100 := Nat.pow_le_pow_right (by decide) hl
  have h3 := pow_100
  rw [Int.natAbs_natCast]
  omega
section
variable {P : Program} {w : World} {K : PySem.W.Frag} {mg : Str → Option Value} {base : Heap}
theorem scPS : FnScope ["item", "inner"] ["item"] (defScope sPeopleSaid) := ⟨rfl, rfl, rfl, by decide +kernel, rfl, by decide +kernel, by decide +kernel⟩
theorem ok_ps {n : Nat} {f : Addr} {fd : FuncData} {ta : Tok} (F : Fun K "people_said" "people_said" sPeopleSaid f fd) (B : Bi mg) (mA : mg "AGAIN" = some (.str "again" ta)) (N : CNum P w K mg base)
    (C : Cal P w K mg base CX0 (3 + 2 * n) "people_of" ["thing"] (spPO n)) : FnOk P w K mg base CX0 (2 + 2 * (n + 1)) f fd ["item"] (spPS (n + 1)) := by
  have e : 2 + 2 * (n + 1) = (3 + 2 * n) + 1 := by omega
  rw [e]
  refine F.ok scPS (fun vs H Q E h => ?_) (fun cdv A outer s H vs Q E hr h => ?_)
  · obtain ⟨v, i, rfl, _⟩ := h
    rfl
  obtain ⟨v, i, rfl, hi, hs, hn, h100, q⟩ := h
  refine ⟨_, pss_cons (ps_if (PW.pt (pw_or (pt_not (pt_val (pe_isi B (pv 0) rfl rfl B.tuple boot_tuple))) (pw_or (pt_cmpR op_ne (pe_callB call_len_seq (by rfl) B.len PySem.boot_len (pa_cons (pv 0) pa_nil)) pe_int (nomark _))
      (pw_or (pt_not (pt_val (pe_isi B (pe_ix ix_tup (pv 0) pe_int (fun _ _ => rfl)) rfl rfl B.str boot_str))) (pw_or1 (pt_cmpR op_ne (pe_ix ix_tup (pv 0) pe_int (fun _ _ => rfl)) (pe_glob (v := .str "again") rfl mA ⟨_, rfl⟩) (nomark _))))))) (pss_one (ps_ret pe_non)) pss_nil)
    (pss_cons (ps_set (i := 1) scPS.nd rfl (Or.inl rfl) (cal C hr pass0 (pa_cons (pe_ix ix_tup (pv 0) pe_int (fun _ _ => rfl)) pa_nil)))
    (pss_one (ps_ret (pe_ifExp (PW.pt (pw_and (pt_val (cal N (hr.mono (by omega)) pass0 (pa_cons (pe_ix ix_tup (pv 0) pe_int (fun _ _ => rfl)) pa_nil))) (pw_and1 (pt_cmpR op_notN (pv 1) pe_non (nomark _)))))
      (pe_op op_mulW (pe_ix ix_tup (pv 0) pe_int (fun _ _ => rfl)) (pv 1)) pe_non)))), ?_⟩
  cases hi with
  | say h ok => cases hs
  | @again a b m xs is h h0 hb hF hp =>
    rw [agInf_len] at hn
    have hT := SqT.of (K := K) h
    have a2 : atI (againV m b) 2 = some (.ref b) := atI_nat (j := 2) rfl
    refine ⟨_, rfl, .ref a, .ty "tuple", _, _, true, rfl, .ty "tuple", .base (.tup h), kit_ty (by decide +kernel), _, rfl, iteF ?_⟩
    refine ⟨_, rfl, a, _, rfl, .inr hT, rfl, _, rfl, iteF ?_⟩
    refine ⟨_, rfl, a, _, 0, _, rfl, rfl, hT, at0, .str "again", .ty "str", _, _, true, rfl, .ty "str", .base (.str _), kit_ty (by decide +kernel), _, rfl, iteF ?_⟩
    refine ⟨_, rfl, a, _, 0, _, rfl, rfl, hT, at0, rfl, _, rfl, ?_⟩
    rw [decide_eq_true (show (V.str "again" = V.str (Str.ofString "again")) from rfl)]
    refine iteF ?_
    refine ⟨_, rfl, a, _, 2, _, rfl, rfl, hT, a2, b, xs, is, rfl, hb, hp, fun i hi => ?_, by omega, by omega, fun H1 s1 => ?_⟩
    · have := mem_join hi
      omega
    · have hT1 := Same.tup s1 hT
      refine ⟨_, rfl, a, _, 1, _, rfl, rfl, hT1, at1, m, rfl, _, rfl, ?_⟩
      rw [decide_eq_true h0]
      refine iteT ⟨_, rfl, rfl, _, rfl, iteT ?_⟩
      refine ⟨_, rfl, a, _, 1, _, rfl, rfl, hT1, at1, _, rfl, _, _, rfl, rfl, wide_mul (num_small h0 (by omega)) (sum_small (items_ok hp) (by omega)) (by decide) (by decide) (by decide), ?_⟩
      have e2 : ((agInf m is).p : Int) = m * ((pSum is : Nat) : Int) := by
        show ((m.toNat * pSum is : Nat) : Int) = _
        rw [Int.natCast_mul, Int.toNat_of_nonneg h0]
      have qq := q H1 s1
      rw [e2] at qq
      exact qq
theorem scPO : FnScope ["thing", "found", "item", "many"] ["thing"] (defScope sPeopleOf) := ⟨rfl, rfl, rfl, by decide +kernel, rfl, by decide +kernel, by decide +kernel⟩
theorem ok_po {n : Nat} {f : Addr} {fd : FuncData} (F : Fun K "people_of" "people_of" sPeopleOf f fd) (B : Bi mg) (S : CSay P w K mg base)
    (C : Cal P w K mg base CX0 (2 + 2 * n) "people_said" ["item"] (spPS n)) : FnOk P w K mg base CX0 (3 + 2 * n) f fd ["thing"] (spPO n) := by
  have e : 3 + 2 * n = (2 + 2 * n) + 1 := by omega
  rw [e]
  refine F.ok scPO (fun vs H Q E h => ?_) (fun cdv A outer s H vs Q E hr h => ?_)
  · obtain ⟨b, xs, is, rfl, _⟩ := h
    rfl
  obtain ⟨b, xs, is, rfl, hb, hp, hn, hj, h100, q⟩ := h
  refine ⟨_, pss_cons (ps_if (pt_not (pt_val (pe_callB call_isiT (by rfl) B.isinst boot_isinstance (pa_cons (pv 0) (pa_cons (pe_tup (pa_cons (pe_ty (by rfl) B.list boot_list) (pa_cons (pe_ty (by rfl) B.tuple boot_tuple) pa_nil))) pa_nil))))) (pss_one (ps_ret pe_non)) pss_nil)
    (pss_cons (ps_set (i := 1) scPO.nd rfl (Or.inl rfl) pe_int)
    (pss_cons (ps_for PassesOwn.never rfl (pi_list (pv 0)) (pg_name (i := 2) scPO.nd rfl (Or.inl rfl))
      (pss_cons (ps_set (i := 3) scPO.nd rfl (Or.inl rfl) (pe_ifExp (pt_val (cal S (hr.mono (by omega)) pass0 (pa_cons (pv 2) pa_nil))) pe_int (cal C hr pass0 (pa_cons (pv 2) pa_nil))))
      (pss_cons (ps_if (pt_cmpR op_isN (pv 3) pe_non (nomark _)) (pss_one (ps_ret pe_non)) pss_nil)
      (pss_one (ps_aug (i := 1) scPO.nd rfl (Or.inl rfl) (pv 3) ip_add)))))
    (pss_one (ps_ret (pv 1))))), ?_⟩
  refine ⟨_, rfl, (by show 2 ≤ sizeLine; decide), fun p hp0 => ?_⟩
  have s1 : Same H (upd H p (.tup [.ty "list", .ty "tuple"])) := same_new hp0 _
  refine ⟨.ref b, p, _, _, [.type "list", .type "tuple"], true, rfl, upd_same, .cons (.ty "list") (.cons (.ty "tuple") .nil), .base (.lst (s1 _ _ hb)), kitAny_cons (b := true) (kit_ty (by decide +kernel)) (fun z => absurd z (by decide)) (fun _ => rfl), _, rfl, iteF ?_⟩
  refine ⟨_, rfl, b, rfl, ⟨_, SqL.of (s1 _ _ hb)⟩, ?_⟩
  refine for_list (xs := xs) (fun j σ H2 => Same H H2 ∧ ∃ x y, σ = [some (.ref b), some (.int (pSum (is.take j) : Nat)), x, y]) ⟨s1, none, none, rfl⟩ (fun j σ H2 _ z => z.1.seq (SqL.of hb)) (fun j v σ H2 hv z => ?_) (fun σ H2 z => ?_)
  · obtain ⟨s2, x, y, rfl⟩ := z
    have hlen : xs.length = is.length := Paired.length hp
    obtain ⟨hj', _⟩ := List.getElem?_eq_some_iff.mp hv
    obtain ⟨i, hi⟩ : ∃ i, is[j]? = some i := ⟨is[j]'(by omega), List.getElem?_eq_getElem _⟩
    have I := (Paired.get hp hv hi).same s2
    have nxt : ∀ H3, Same H H3 → (∃ x y, ([some (.ref b), some (.int ((pSum (is.take j) : Nat) + (i.p : Nat))), some v, some (.int (i.p : Nat))] : L2.St) = [some (.ref b), some (.int (pSum (is.take (j + 1)) : Nat)), x, y]) := fun H3 s3 => ⟨_, _, by rw [pSum_take hi]; rfl⟩
    refine ⟨_, rfl, I.sayAt.sp ⟨_, rfl, ?_⟩⟩
    cases hs : i.s with
    | true =>
      have ep : i.p = 1 := by
        cases I with
        | say h ok => rfl
        | again => cases hs
      refine iteT ⟨_, rfl, rfl, _, rfl, iteF ?_⟩
      refine ⟨_, rfl, _, rfl, _, _, rfl, rfl, s2, ?_⟩
      have z := nxt H2 s2
      rw [ep] at z
      exact z
    | false =>
      refine iteF ⟨_, rfl, v, i, rfl, I, hs, hn i (List.mem_of_getElem? hi), h100, fun H3 s3 => ?_⟩
      refine ⟨_, rfl, rfl, _, rfl, iteF ?_⟩
      exact ⟨_, rfl, _, rfl, _, _, rfl, rfl, s2.trans s3, nxt H3 (s2.trans s3)⟩
  · obtain ⟨s2, x, y, rfl⟩ := z
    have hlen : xs.length = is.length := Paired.length hp
    rw [hlen, List.take_length]
    exact ⟨_, rfl, q _ s2⟩
theorem ps_zero {f : Addr} {fd : FuncData} : FnOk P w K mg base CX0 2 f fd ["item"] (spPS 0) := by
  have no : ∀ vs H Q E, ¬ spPS 0 vs H Q E := fun vs H Q E h => by
    obtain ⟨v, i, _, hi, _, hn, _⟩ := h
    exact (Itm.ok _ (Nat.le_refl _) hi).1 (List.eq_nil_of_length_eq_zero (by omega))
  exact ⟨fun vs H Q E h => absurd h (no vs H Q E), fun A outer s H args us vs Q E _ _ _ _ h => absurd h (no vs H Q E)⟩
theorem people_both {f g : Addr} {fd gd : FuncData} {ta : Tok} (FS : Fun K "people_said" "people_said" sPeopleSaid f fd) (mS : mg "people_said" = some (.ref f)) (bS : Binds K fd ["item"] []) (FO : Fun K "people_of" "people_of" sPeopleOf g gd) (mO : mg "people_of" = some (.ref g)) (bO : Binds K gd ["thing"] [])
    (B : Bi mg) (mA : mg "AGAIN" = some (.str "again" ta)) (N : CNum P w K mg base) (S : CSay P w K mg base) :
    ∀ n : Nat, Cal P w K mg base CX0 (3 + 2 * n) "people_of" ["thing"] (spPO n)
  | 0 => ⟨⟨g, gd, ok_po FO B S ⟨⟨f, fd, ps_zero, mS, FS.kp, bS⟩⟩, mO, FO.kp, bO⟩⟩
  | n + 1 => ⟨⟨g, gd, ok_po FO B S ⟨⟨f, fd, ok_ps FS B mA N (people_both FS mS bS FO mO bO B mA N S n), mS, FS.kp, bS⟩⟩, mO, FO.kp, bO⟩⟩
/-! ### is_long -/
def spLong : Sp := fun vs H Q _ => ∃ (b : Addr) (xs : List V) (is : List Inf), vs = [.ref b] ∧ H b = some (.lst xs) ∧ Paired (Itm H []) xs is ∧ (joinI is).length ≤ 100 ∧ ∀ H', Same H H' → Q (.bl (decide ((pSum is : Int) ≤ MOST))) H'
theorem scLong : FnScope ["thing", "many"] ["thing"] (defScope sIsLong) := ⟨rfl, rfl, rfl, by decide +kernel, rfl, by decide +kernel, by decide +kernel⟩
theorem ok_long {f : Addr} {fd : FuncData} {tm : Tok} (F : Fun K "is_long" "is_long" sIsLong f fd) (mM : mg "MOST_PEOPLE" = some (.int MOST tm)) (C : Cal P w K mg base CX0 203 "people_of" ["thing"] (spPO 100)) : FnOk P w K mg base CX0 204 f fd ["thing"] spLong := by
  refine F.ok scLong (fun vs H Q E h => ?_) (fun cdv A outer s H vs Q E hr h => ?_)
  · obtain ⟨b, xs, is, rfl, _⟩ := h
    rfl
  obtain ⟨b, xs, is, rfl, hb, hp, hj, q⟩ := h
  refine ⟨_, pss_cons (ps_set (i := 1) scLong.nd rfl (Or.inl rfl) (cal C hr pass0 (pa_cons (pv 0) pa_nil)))
    (pss_one (ps_ret (pe_and (pe_cmpR op_notN (pv 1) pe_non (nomark _)) (pe_one (pe_cmpR op_le (pv 1) (pe_glob (v := .int MOST) rfl mM ⟨_, rfl⟩) (nomark _)))))), ?_⟩
  refine ⟨_, rfl, b, xs, is, rfl, hb, hp, fun i hi => ?_, hj, Nat.le_refl _, fun H1 s1 => ?_⟩
  · have := mem_join hi
    omega
  · exact ⟨_, rfl, rfl, _, rfl, iteT ⟨_, rfl, _, _, rfl, rfl, q H1 s1⟩⟩
end
end Bo

namespace Bo
open PySem L2 PyProof.Rows
def spEnd : Sp := fun vs H Q _ => ∃ m : Option Int, vs = [endV m] ∧ nnE m ∧ (endT m).length ≤ 100 ∧ Q (strV (endT m)) H
theorem join_str (ts : List Tx) : Txt.join (ofL [32]) (ts.map ofL) = ofL (joinB ts) := by
  refine TL.ext_tl ?_
  rw [TL.join_eq, TL.tl_join, List.map_map]
  show TL.joinL [32] (ts.map (TL.tl ∘ ofL)) = TL.joinL [32] ts
  have e : (TL.tl ∘ ofL : Tx → Tx) = id := rfl
  rw [e, List.map_id]
theorem map_strV (ts : List Tx) : (ts.map ofL).map V.str = ts.map strV := by
  rw [List.map_map]
  rfl
theorem line100 {n : Nat} (h : n ≤ 300) : n ≤ sizeLine := small (by omega)
theorem app_len (a b : Tx) : (ofL a ++ ofL b).length = a.length + b.length := by rw [ofL_app, ofL_len, List.length_append]
theorem empty_app (a : Tx) : Str.empty ++ ofL a = ofL a := by
  show ofL [] ++ ofL a = ofL a
  rw [ofL_app]
  rfl
def spPT (n : Nat) : Sp := fun vs H Q _ => ∃ (v : V) (i : Inf), vs = [v] ∧ Itm H [] v i ∧ i.t.length ≤ n ∧ n ≤ 100 ∧ ∀ H', Same H H' → Q (strV i.t) H'
def spRT (n : Nat) : Sp := fun vs H Q _ => ∃ (b : Addr) (xs : List V) (is : List Inf), vs = [.ref b] ∧ H b = some (.lst xs) ∧ Paired (Itm H []) xs is ∧ (∀ i ∈ is, i.t.length ≤ n) ∧ (joinI is).length ≤ 100 ∧ n ≤ 100 ∧ ∀ H', Same H H' → Q (strV (joinI is)) H'
/-- joining a list of texts that was just made -/
theorem join_sz {ts : List Tx} (h : (joinB ts).length ≤ 100) : ((ts.map ofL).map (·.length)).sum + (ts.map ofL).length * (ofL [32]).length ≤ 16777216 := by
  have h1 := join_len ts
  have e : (ts.map ofL).map (·.length) = ts.map (·.length) := by
    rw [List.map_map]
    exact List.map_congr_left fun x _ => ofL_len x
  rw [e, List.length_map, ofL_len, List.length_singleton, Nat.mul_one]
  split at h1 <;> omega
section
variable {P : Program} {w : World} {K : PySem.W.Frag} {mg : Str → Option Value} {base : Heap}
theorem scEnd : FnScope ["number"] ["number"] (defScope sEndText) := ⟨rfl, rfl, rfl, by decide +kernel, rfl, by decide +kernel, by decide +kernel⟩
theorem ok_end {f : Addr} {fd : FuncData} (F : Fun K "end_text" "end_text" sEndText f fd) (B : Bi mg) : FnOk P w K mg base CX0 1 f fd ["number"] spEnd := by
  refine F.ok scEnd (fun vs H Q E h => ?_) (fun cdv A outer s H vs Q E hr h => ?_)
  · obtain ⟨m, rfl, _⟩ := h
    rfl
  obtain ⟨m, rfl, hn, hl, q⟩ := h
  refine ⟨_, pss_one (ps_ret (pe_ifExp (pt_cmpR op_isN (pv 0) pe_non (nomark _)) pe_str (pe_callTy call_str_int (by rfl) B.str boot_str (pa_cons (pv 0) pa_nil)))), ?_⟩
  cases m with
  | none =>
    refine ⟨_, rfl, rfl, _, rfl, iteT ?_⟩
    show Q (.str (Str.ofString "")) H
    rw [show (Str.ofString "" : Str) = ofL [] by decide +kernel]
    exact q
  | some m =>
    refine ⟨_, rfl, rfl, _, rfl, iteF ⟨_, rfl, m, rfl, num_log hn hl, ?_⟩⟩
    rw [str_num hn]
    exact q
abbrev CEnd (P : Program) (w : World) (K : PySem.W.Frag) (mg : Str → Option Value) (base : Heap) : Prop := Cal P w K mg base CX0 1 "end_text" ["number"] spEnd
theorem scPT : FnScope ["part"] ["part"] (defScope sPartText) := ⟨rfl, rfl, rfl, by decide +kernel, rfl, by decide +kernel, by decide +kernel⟩
theorem ok_pt {n : Nat} {f : Addr} {fd : FuncData} (F : Fun K "part_text" "part_text" sPartText f fd) (N : CEnd P w K mg base)
    (C : Cal P w K mg base CX0 (3 + 2 * n) "row_text" ["row"] (spRT n)) : FnOk P w K mg base CX0 (2 + 2 * (n + 1)) f fd ["part"] (spPT (n + 1)) := by
  have e : 2 + 2 * (n + 1) = (3 + 2 * n) + 1 := by omega
  rw [e]
  refine F.ok scPT (fun vs H Q E h => ?_) (fun cdv A outer s H vs Q E hr h => ?_)
  · obtain ⟨v, i, rfl, _⟩ := h
    rfl
  obtain ⟨v, i, rfl, hi, hn, h100, q⟩ := h
  refine ⟨_, pss_cons (ps_if (pt_cmpR op_eq (pe_ix ix_tup (pv 0) pe_int (fun _ _ => rfl)) pe_str (nomark _))
      (pss_one (ps_ret (pe_joined (.cons (pe_fmt (pe_ix ix_tup (pv 0) pe_int (fun _ _ => rfl))) (.cons pe_str (.cons (pe_fmt (cal C hr pass0 (pa_cons (pe_ix ix_tup (pv 0) pe_int (fun _ _ => rfl)) pa_nil))) (.cons pe_str .nil))))))) pss_nil)
    (pss_one (ps_ret (pe_joined (.cons (pe_fmt (pe_ix ix_tup (pv 0) pe_int (fun _ _ => rfl))) (.cons pe_str (.cons (pe_fmt (cal N (hr.mono (by omega)) pass0 (pa_cons (pe_ix ix_tup (pv 0) pe_int (fun _ _ => rfl)) pa_nil))) .nil)))))), ?_⟩
  cases hi with
  | @say a p h ok =>
    have hT := SqT.of (K := K) h
    have hl : (pairT 45 p.1 p.2).length ≤ 100 := by
      have : (pairT 45 p.1 p.2).length ≤ n + 1 := hn
      omega
    have hl2 : (numT p.1).length + (1 + (endT p.2).length) ≤ 100 := by
      have e : (pairT 45 p.1 p.2).length = (numT p.1).length + (1 + (endT p.2).length) := by
        show (numT p.1 ++ (45 :: endT p.2)).length = _
        simp only [List.length_append, List.length_cons]
        omega
      omega
    refine ⟨_, rfl, a, _, 0, _, rfl, rfl, hT, at0, rfl, _, rfl, iteF ?_⟩
    refine ⟨_, rfl, a, _, 0, _, rfl, rfl, hT, at0, .inr ⟨_, rfl, num_log ok.1 (by omega), ?_⟩⟩
    rw [str_num ok.1, show (Str.ofString "-" : Str) = ofL [45] by decide +kernel]
    refine ⟨_, rfl, (by rw [empty_app, ofL_len]; exact line100 (by omega)), ?_⟩
    rw [empty_app]
    refine ⟨_, rfl, (by rw [app_len]; exact line100 (by simp only [List.length_singleton]; omega)), ?_⟩
    rw [ofL_app]
    refine ⟨_, rfl, a, _, 1, _, rfl, rfl, hT, at1, p.2, rfl, ok.nn, by omega, .inl ⟨_, rfl, (by rw [ofL_len]; exact line100 (by omega)), ?_⟩⟩
    refine ⟨_, rfl, (by rw [app_len, List.length_append, List.length_singleton]; exact line100 (by omega)), ?_⟩
    rw [ofL_app]
    have e3 : numT p.1 ++ [45] ++ endT p.2 = pairT 45 p.1 p.2 := by
      rw [List.append_assoc]
      rfl
    rw [e3]
    exact q H (Same.refl _)
  | @again a b m xs is h h0 hb hF hp =>
    have hT := SqT.of (K := K) h
    rw [agInf_len] at hn
    have a2 : atI (againV m b) 2 = some (.ref b) := atI_nat (j := 2) rfl
    refine ⟨_, rfl, a, _, 0, _, rfl, rfl, hT, at0, rfl, _, rfl, ?_⟩
    rw [decide_eq_true (show (V.str "again" = V.str (Str.ofString "again")) from rfl)]
    refine iteT ?_
    refine ⟨_, rfl, a, _, 1, _, rfl, rfl, hT, at1, .inr ⟨_, rfl, num_log h0 (by omega), ?_⟩⟩
    rw [str_num h0, show (Str.ofString "*(" : Str) = ofL [42, 40] by decide +kernel, show (Str.ofString ")" : Str) = ofL [41] by decide +kernel]
    refine ⟨_, rfl, (by rw [empty_app, ofL_len]; exact line100 (by omega)), ?_⟩
    rw [empty_app]
    refine ⟨_, rfl, (by rw [app_len]; exact line100 (by simp only [List.length_cons, List.length_nil]; omega)), ?_⟩
    rw [ofL_app]
    refine ⟨_, rfl, a, _, 2, _, rfl, rfl, hT, a2, b, xs, is, rfl, hb, hp, fun i hi => ?_, by omega, by omega, fun H1 s1 => .inl ⟨_, rfl, (by rw [ofL_len]; exact line100 (by omega)), ?_⟩⟩
    · have := mem_join hi
      omega
    · refine ⟨_, rfl, (by rw [app_len]; exact line100 (by simp only [List.length_append, List.length_cons, List.length_nil]; omega)), ?_⟩
      rw [ofL_app]
      refine ⟨_, rfl, (by rw [app_len]; exact line100 (by simp only [List.length_append, List.length_cons, List.length_nil]; omega)), ?_⟩
      rw [ofL_app]
      exact q H1 s1
theorem scRT : FnScope ["row", "part"] ["row"] (defScope sRowText) := ⟨rfl, rfl, rfl, by decide +kernel, rfl, by decide +kernel, by decide +kernel⟩
theorem ok_rt {n : Nat} {f : Addr} {fd : FuncData} (F : Fun K "row_text" "row_text" sRowText f fd)
    (C : Cal P w K mg base CX0 (2 + 2 * n) "part_text" ["part"] (spPT n)) : FnOk P w K mg base CX0 (3 + 2 * n) f fd ["row"] (spRT n) := by
  have e : 3 + 2 * n = (2 + 2 * n) + 1 := by omega
  rw [e]
  refine F.ok scRT (fun vs H Q E h => ?_) (fun cdv A outer s H vs Q E hr h => ?_)
  · obtain ⟨b, xs, is, rfl, _⟩ := h
    rfl
  obtain ⟨b, xs, is, rfl, hb, hp, hn, hj, h100, q⟩ := h
  refine ⟨_, pss_one (ps_ret (pe_join pe_str (pe_lc (own := [("part", 1)]) (g := gName 1) (tt := tYes) rfl scRT.nd (pi_list (pv 0)) (blkOk_by (N := ["row", "part"]) (sc := defScope sRowText) (by decide +kernel))
      (fun _ _ _ _ _ => pg_name (i := 1) scRT.nd rfl (Or.inl rfl)) (fun _ _ _ _ _ => pts_nil) (fun _ _ _ _ _ => cal C hr pass0 (pa_cons (pv 1) pa_nil))))), ?_⟩
  have hlen : xs.length = is.length := Paired.length hp
  have hil := is_len is (items_ok hp)
  refine ⟨⟨_, rfl⟩, _, rfl, b, rfl, ⟨_, SqL.of hb⟩, fun D hD => ?_⟩
  refine lc_map (xs := xs) ((is.map (·.t)).map strV) (by rw [List.length_map, List.length_map]; exact hlen) (by rw [List.length_map, List.length_map]; exact line100 (by omega)) (SqL.of hb) hD (fun j x y H2 Q' hx hy s2 k => ?_) (fun H2 s2 h2 => ?_)
  · rw [List.map_map, List.getElem?_map] at hy
    obtain ⟨i, hi, rfl⟩ := Option.map_eq_some_iff.mp hy
    exact ⟨rfl, _, rfl, x, i, rfl, (Paired.get hp hx hi).same s2, hn i (List.mem_of_getElem? hi), h100, fun H3 s3 => k H3 s3⟩
  · refine ⟨_, D, (is.map (·.t)).map ofL, rfl, rfl, .inl (SqL.of (by rw [h2, map_strV])), ?_, ?_⟩
    · rw [show (Str.ofString " " : Str) = ofL [32] by decide +kernel]
      exact join_sz hj
    · rw [show (Str.ofString " " : Str) = ofL [32] by decide +kernel, join_str]
      exact q H2 s2
theorem pt_zero {f : Addr} {fd : FuncData} : FnOk P w K mg base CX0 2 f fd ["part"] (spPT 0) := by
  have no : ∀ vs H Q E, ¬ spPT 0 vs H Q E := fun vs H Q E h => by
    obtain ⟨v, i, _, hi, hn, _⟩ := h
    exact (Itm.ok _ (Nat.le_refl _) hi).1 (List.eq_nil_of_length_eq_zero (by omega))
  exact ⟨fun vs H Q E h => absurd h (no vs H Q E), fun A outer s H args us vs Q E _ _ _ _ h => absurd h (no vs H Q E)⟩
theorem text_both {f g : Addr} {fd gd : FuncData} (FP : Fun K "part_text" "part_text" sPartText f fd) (mP : mg "part_text" = some (.ref f)) (bP : Binds K fd ["part"] []) (FR : Fun K "row_text" "row_text" sRowText g gd) (mR : mg "row_text" = some (.ref g)) (bR : Binds K gd ["row"] [])
    (N : CEnd P w K mg base) : ∀ n : Nat, Cal P w K mg base CX0 (3 + 2 * n) "row_text" ["row"] (spRT n)
  | 0 => ⟨⟨g, gd, ok_rt FR ⟨⟨f, fd, pt_zero, mP, FP.kp, bP⟩⟩, mR, FR.kp, bR⟩⟩
  | n + 1 => ⟨⟨g, gd, ok_rt FR ⟨⟨f, fd, ok_pt FP N (text_both FP mP bP FR mR bR N n), mP, FP.kp, bP⟩⟩, mR, FR.kp, bR⟩⟩

/-! ### show_row -/
def spShowRow : Sp := fun vs H Q _ => ∃ (b : Addr) (xs : List V) (is : List Inf), vs = [.ref b] ∧ H b = some (.lst xs) ∧ Paired (Itm H []) xs is ∧ (joinI is).length ≤ 100 ∧ isOk is = true ∧ ∀ H', Same H H' → Q (strV (joinI is)) H'
theorem items_say {H : Hp} {xs : List V} {is : List Inf} (hp : Paired (Itm H []) xs is) : Paired (SayAt H) xs (is.map (·.s)) := pairedMap (·.s) hp fun _ _ r => r.sayAt
abbrev CRow (P : Program) (w : World) (K : PySem.W.Frag) (mg : Str → Option Value) (base : Heap) : Prop := Cal P w K mg base CX0 3 "is_row" ["thing"] (spRow K)
abbrev CLong (P : Program) (w : World) (K : PySem.W.Frag) (mg : Str → Option Value) (base : Heap) : Prop := Cal P w K mg base CX0 204 "is_long" ["thing"] spLong
theorem scShowRow : FnScope ["row"] ["row"] (defScope sShowRow) := ⟨rfl, rfl, rfl, by decide +kernel, rfl, by decide +kernel, by decide +kernel⟩
theorem ok_showRow {f : Addr} {fd : FuncData} (F : Fun K "show_row" "show_row" sShowRow f fd) (R : CRow P w K mg base) (L : CLong P w K mg base) (C : Cal P w K mg base CX0 203 "row_text" ["row"] (spRT 100)) : FnOk P w K mg base CX0 205 f fd ["row"] spShowRow := by
  refine F.ok scShowRow (fun vs H Q E h => ?_) (fun cdv A outer s H vs Q E hr h => ?_)
  · obtain ⟨b, xs, is, rfl, _⟩ := h
    rfl
  obtain ⟨b, xs, is, rfl, hb, hp, hj, hok, q⟩ := h
  have hlen : xs.length = is.length := Paired.length hp
  have hil := is_len is (items_ok hp)
  refine ⟨_, pss_cons (ps_if (PW.pt (pw_and (pt_not (pt_val (cal R (hr.mono (by decide)) pass0 (pa_cons (pv 0) pa_nil)))) (pw_and1 (pt_not (pt_val (cal L hr pass0 (pa_cons (pv 0) pa_nil))))))) (pss_one ps_never) pss_nil)
    (pss_one (ps_ret (cal C (hr.mono (by decide)) pass0 (pa_cons (pv 0) pa_nil)))), ?_⟩
  have go : ∀ H1, Same H H1 → tCall (spRT 100) [] E0 (tCons (tVar 0) tNil) (L2.start ["row"] [.ref b]) H1 Q := fun H1 s1 => ⟨_, rfl, b, xs, is, rfl, s1 _ _ hb, items_same hp s1, fun i hi => by
    have := mem_join hi
    omega, hj, Nat.le_refl _, fun H2 s2 => q H2 (s1.trans s2)⟩
  refine ⟨_, rfl, b, xs, is.map (·.s), rfl, hb, by omega, items_say hp, fun H1 s1 => ⟨_, rfl, ?_⟩⟩
  unfold isOk at hok
  cases ha : (is.map (·.s)).all id with
  | true => exact iteF (go H1 s1)
  | false =>
    rw [ha, Bool.false_or] at hok
    refine iteT ⟨_, rfl, b, xs, is, rfl, s1 _ _ hb, items_same hp s1, hj, fun H2 s2 => ⟨_, rfl, ?_⟩⟩
    rw [hok]
    exact iteF (go H2 (s1.trans s2))
/-! ### show_table, show_shelf, show_stretches -/
def txP (s : Nat) (p : Int × Option Int) : Tx := pairT s p.1 p.2
def joinP (s : Nat) (ps : List (Int × Option Int)) : Tx := joinB (ps.map (txP s))
theorem mem_joinB {ts : List Tx} {t : Tx} (h : t ∈ ts) : t.length ≤ (joinB ts).length := by
  have h1 := join_len ts
  have h2 : t.length ≤ (ts.map (·.length)).sum := single_le_sum h
  have h3 : 0 < ts.length := List.length_pos_of_mem h
  split at h1 <;> omega
theorem txP_len (s : Nat) (p : Int × Option Int) : (txP s p).length = (numT p.1).length + (1 + (endT p.2).length) := by
  show (numT p.1 ++ (s :: endT p.2)).length = _
  simp only [List.length_append, List.length_cons]
  omega
theorem joinP_count (s : Nat) (ps : List (Int × Option Int)) : ps.length ≤ (joinP s ps).length + 1 := by
  have h1 := join_len (ps.map (txP s))
  unfold joinP
  rw [List.length_map] at h1
  split at h1 <;> omega
def spShow (s : Nat) (good : List (Int × Option Int) → Prop) : Sp := fun vs H Q _ => ∃ (a : Addr) (xs : List V) (ps : List (Int × Option Int)), vs = [.ref a] ∧ H a = some (.lst xs) ∧ Paired (PairAt H) xs ps ∧ good ps ∧ (joinP s ps).length ≤ 100 ∧ ∀ H', Same H H' → Q (strV (joinP s ps)) H'
def goodT (ps : List (Int × Option Int)) : Prop := (∀ p ∈ ps, isSome2 p) ∧ isTab ps = true
def goodS (ps : List (Int × Option Int)) : Prop := (∀ p ∈ ps, isSome2 p) ∧ isShf ps = true
def goodL (ps : List (Int × Option Int)) : Prop := ∀ p ∈ ps, okP p
/-- two numbers around a sign, as the f-string makes them -/
theorem two_nums {s : Nat} {sg : Str} {te1 te2 te3 : TE} {σ : L2.St} {H : Hp} {Q : VK} {p : Int × Option Int} (es : sg = ofL [s]) (h0 : 0 ≤ p.1) (hl : (txP s p).length ≤ 100)
    (h1 : ∀ Q', Q' (strV (numT p.1)) H → te1 σ H Q') (h2 : ∀ Q', Q' (.str sg) H → te2 σ H Q') (h3 : ∀ Q', Q' (strV (endT p.2)) H → te3 σ H Q') (q : Q (strV (txP s p)) H) :
    (fun σ H Q => tJs [te1, te2, te3] Str.empty σ H fun out H1 => Q (.str out) H1 : TE) σ H Q := by
  rw [txP_len] at hl
  refine h1 _ ⟨_, rfl, (by rw [empty_app, ofL_len]; exact line100 (by omega)), ?_⟩
  rw [empty_app]
  refine h2 _ ⟨_, rfl, (by rw [es, app_len]; exact line100 (by simp only [List.length_singleton]; omega)), ?_⟩
  rw [es, ofL_app]
  refine h3 _ ⟨_, rfl, (by rw [app_len, List.length_append, List.length_singleton]; exact line100 (by omega)), ?_⟩
  rw [ofL_app]
  have e3 : numT p.1 ++ [s] ++ endT p.2 = txP s p := by
    rw [List.append_assoc]
    rfl
  rw [e3]
  exact q
abbrev CTab (P : Program) (w : World) (K : PySem.W.Frag) (mg : Str → Option Value) (base : Heap) : Prop := Cal P w K mg base CX0 3 "is_table" ["thing"] spTab
abbrev CShf (P : Program) (w : World) (K : PySem.W.Frag) (mg : Str → Option Value) (base : Heap) : Prop := Cal P w K mg base CX0 3 "is_shelf" ["thing"] spShf
abbrev CStr (P : Program) (w : World) (K : PySem.W.Frag) (mg : Str → Option Value) (base : Heap) : Prop := Cal P w K mg base CX0 2 "is_stretch" ["thing"] spSay
/-- an f-string's reading, under a name -/
def teJ (ts : List TE) : TE := fun σ H Q => tJs ts Str.empty σ H fun out H1 => Q (.str out) H1
theorem pe_J {X : Cx} {v1 v2 : Expr} {rest : List Expr} {ts : List TE} {pos : Pos} (h : PJ X (v1 :: v2 :: rest) ts) : PE X (.JoinedStr (v1 :: v2 :: rest) pos) (teJ ts) := pe_joined h
/-- the comprehension of two names, for all three -/
theorem show_all {s : Nat} {a : Addr} {xs : List V} {ps : List (Int × Option Int)} {H : Hp} {te : TE} {vs : List Nat} {σ : L2.St} {i j : Nat} {D : Addr} {Qd : Hp → Prop} (ha : H a = some (.lst xs)) (hp : Paired (PairAt H) xs ps) (hl : (joinP s ps).length ≤ 100) (hD : H D = none)
    (he : ∀ (p : Int × Option Int) (H2 : Hp) (Q' : VK), p ∈ ps → 0 ≤ p.1 → nnE p.2 → Q' (strV (txP s p)) H2 → wipe (((wipe σ vs).set i (some (.int p.1))).set j (some (endV p.2))) vs = wipe σ vs ∧ te (((wipe σ vs).set i (some (.int p.1))).set j (some (endV p.2))) H2 Q')
    (hd : ∀ H', Same H H' → H' D = some (.lst ((ps.map (txP s)).map strV)) → Qd H') :
    ∃ W : Nat → Nat → Hp → Prop, (∃ m, W 0 m (upd H D (.lst []))) ∧ ∀ i' m H, W i' m H →
      ((Itl K a).stop i' H ∧ Qd H) ∨
        ((Itl K a).go i' H ∧ ∃ Nx : Hp → Prop, (∀ H', Nx H' → ∃ m', m' < m ∧ W (i' + 1) m' H') ∧ ∀ x H', (Itl K a).yld i' H x H' → gTwo K i j x (wipe σ vs) H' fun σ2 H2 => wipe σ2 vs = wipe σ vs ∧ tYes σ2 H2 fun b H3 =>
        if b = true then te σ2 H3 fun y H4 => ∃ acc, H4 D = some (.lst acc) ∧ acc.length < sizeLine ∧ Nx (upd H4 D (.lst (acc ++ [y]))) else Nx H3) := by
  have hlen : xs.length = ps.length := Paired.length hp
  have hc := joinP_count s ps
  refine lc_map (xs := xs) ((ps.map (txP s)).map strV) (by rw [List.length_map, List.length_map]; exact hlen) (by rw [List.length_map, List.length_map]; exact line100 (by omega)) (SqL.of ha) hD (fun k x y H2 Q' hx hy s2 kk => ?_) hd
  rw [List.map_map, List.getElem?_map] at hy
  obtain ⟨p, hpi, rfl⟩ := Option.map_eq_some_iff.mp hy
  obtain ⟨b, rfl, hb, h3, h4⟩ := (Paired.get hp hx hpi).same s2
  exact ⟨b, _, rfl, SqT.of hb, rfl, _, _, rfl, _, _, rfl, rfl, he p H2 Q' (List.mem_of_getElem? hpi) h3 h4 (kk H2 (Same.refl _))⟩
theorem show_end {s : Nat} {ps : List (Int × Option Int)} {H : Hp} {D : Addr} {Q : VK} {sg : Str} (es : sg = ofL [32]) (hl : (joinP s ps).length ≤ 100) (h : H D = some (.lst ((ps.map (txP s)).map strV))) (q : Q (strV (joinP s ps)) H) :
    ∃ c p, ∃ ys : List Str, V.str sg = .str c ∧ [V.ref D] = [.ref p] ∧ (SqL K H p (ys.map V.str) ∨ SqT K H p (ys.map V.str)) ∧ (ys.map (·.length)).sum + ys.length * c.length ≤ 16777216 ∧ Q (.str (Txt.join c ys)) H := by
  refine ⟨_, D, (ps.map (txP s)).map ofL, rfl, rfl, .inl (SqL.of (by rw [h, map_strV])), ?_, ?_⟩
  · rw [es]
    exact join_sz hl
  · rw [es, join_str]
    exact q
theorem nn_pos {p : Int × Option Int} {m : Int} (h : nnE p.2) (e : p.2 = some m) : 0 ≤ m := by
  rw [e] at h
  exact h
/-- {x} of an int in slot i -/
theorem fmt_int {i : Nat} {σ : L2.St} {H : Hp} {n : Int} {Q : VK} (hs : σ[i]? = some (some (.int n))) (h : 0 ≤ n) (hl : (numT n).length ≤ 100) (q : Q (strV (numT n)) H) : tFmt (tVar i) σ H Q :=
  ⟨_, hs, .inr ⟨_, rfl, num_log h hl, by rw [str_num h]; exact q⟩⟩
theorem scShowTab : FnScope ["table", "company", "many"] ["table"] (defScope sShowTable) := ⟨rfl, rfl, rfl, by decide +kernel, rfl, by decide +kernel, by decide +kernel⟩
theorem ok_showTab {f : Addr} {fd : FuncData} (F : Fun K "show_table" "show_table" sShowTable f fd) (R : CTab P w K mg base) : FnOk P w K mg base CX0 4 f fd ["table"] (spShow 58 goodT) := by
  refine F.ok scShowTab (fun vs H Q E h => ?_) (fun cdv A outer s H vs Q E hr h => ?_)
  · obtain ⟨b, xs, ps, rfl, _⟩ := h
    rfl
  obtain ⟨b, xs, ps, rfl, hb, hp, hg, hj, q⟩ := h
  have hlen : xs.length = ps.length := Paired.length hp
  have hc := joinP_count 58 ps
  refine ⟨_, pss_cons (ps_if (pt_not (pt_val (cal R hr pass0 (pa_cons (pv 0) pa_nil)))) (pss_one ps_never) pss_nil)
    (pss_one (ps_ret (pe_join pe_str (pe_lc (own := [("company", 1), ("many", 2)]) (g := gTwo K 1 2) (tt := tYes) rfl scShowTab.nd (pi_list (pv 0)) (blkOk_by (N := ["table", "company", "many"]) (sc := defScope sShowTable) (by decide +kernel))
      (fun _ _ _ _ _ => pg_tup rfl (pgs_cons (pg_name (i := 1) scShowTab.nd rfl (Or.inl rfl)) (pgs_cons (pg_name (i := 2) scShowTab.nd rfl (Or.inl rfl)) pgs_nil))) (fun _ _ _ _ _ => pts_nil)
      (fun _ _ _ _ _ => pe_J (.cons (pe_fmt (pv 1)) (.cons pe_str (.cons (pe_fmt (pv 2)) .nil)))))))), ?_⟩
  refine ⟨_, rfl, b, xs, ps, rfl, hb, by omega, hp, hg.1, fun H1 s1 => ⟨_, rfl, ?_⟩⟩
  rw [hg.2]
  refine iteF ⟨⟨_, rfl⟩, _, rfl, b, rfl, ⟨_, SqL.of (s1 _ _ hb)⟩, fun D hD => ?_⟩
  refine show_all (K := K) (s1 _ _ hb) (pairs_same hp s1) hj hD (fun p H2 Q' hm h0 h1 k => ?_) (fun H2 s2 h2 => ?_)
  rotate_left
  · exact show_end (by decide +kernel) hj h2 (q H2 (s1.trans s2))
  refine ⟨rfl, ?_⟩
  have hl := mem_joinB (List.mem_map.mpr ⟨p, hm, rfl⟩ : txP 58 p ∈ ps.map (txP 58))
  have hl' : (txP 58 p).length ≤ 100 := Nat.le_trans hl hj
  have hl2 := hl'
  rw [txP_len] at hl2
  have hz := hg.1 p hm
  obtain ⟨p1, p2⟩ := p
  cases p2 with
  | none => cases hz
  | some m => exact two_nums (s := 58) (sg := Str.ofString ":") (by decide +kernel) h0 hl' (fun Q' z => fmt_int rfl h0 (by omega) z) (fun Q' z => z) (fun Q' z => fmt_int (n := m) rfl h1 (show (endT ((p1, some m) : Int × Option Int).2).length ≤ 100 by omega) z) k
theorem scShowShf : FnScope ["shelf", "number", "copies"] ["shelf"] (defScope sShowShelf) := ⟨rfl, rfl, rfl, by decide +kernel, rfl, by decide +kernel, by decide +kernel⟩
theorem ok_showShf {f : Addr} {fd : FuncData} (F : Fun K "show_shelf" "show_shelf" sShowShelf f fd) (R : CShf P w K mg base) : FnOk P w K mg base CX0 4 f fd ["shelf"] (spShow 58 goodS) := by
  refine F.ok scShowShf (fun vs H Q E h => ?_) (fun cdv A outer s H vs Q E hr h => ?_)
  · obtain ⟨b, xs, ps, rfl, _⟩ := h
    rfl
  obtain ⟨b, xs, ps, rfl, hb, hp, hg, hj, q⟩ := h
  have hlen : xs.length = ps.length := Paired.length hp
  have hc := joinP_count 58 ps
  refine ⟨_, pss_cons (ps_if (pt_not (pt_val (cal R hr pass0 (pa_cons (pv 0) pa_nil)))) (pss_one ps_never) pss_nil)
    (pss_one (ps_ret (pe_join pe_str (pe_lc (own := [("number", 1), ("copies", 2)]) (g := gTwo K 1 2) (tt := tYes) rfl scShowShf.nd (pi_list (pv 0)) (blkOk_by (N := ["shelf", "number", "copies"]) (sc := defScope sShowShelf) (by decide +kernel))
      (fun _ _ _ _ _ => pg_tup rfl (pgs_cons (pg_name (i := 1) scShowShf.nd rfl (Or.inl rfl)) (pgs_cons (pg_name (i := 2) scShowShf.nd rfl (Or.inl rfl)) pgs_nil))) (fun _ _ _ _ _ => pts_nil)
      (fun _ _ _ _ _ => pe_J (.cons (pe_fmt (pv 1)) (.cons pe_str (.cons (pe_fmt (pv 2)) .nil)))))))), ?_⟩
  refine ⟨_, rfl, b, xs, ps, rfl, hb, by omega, hp, hg.1, fun H1 s1 => ⟨_, rfl, ?_⟩⟩
  rw [hg.2]
  refine iteF ⟨⟨_, rfl⟩, _, rfl, b, rfl, ⟨_, SqL.of (s1 _ _ hb)⟩, fun D hD => ?_⟩
  refine show_all (K := K) (s1 _ _ hb) (pairs_same hp s1) hj hD (fun p H2 Q' hm h0 h1 k => ?_) (fun H2 s2 h2 => ?_)
  rotate_left
  · exact show_end (by decide +kernel) hj h2 (q H2 (s1.trans s2))
  refine ⟨rfl, ?_⟩
  have hl := mem_joinB (List.mem_map.mpr ⟨p, hm, rfl⟩ : txP 58 p ∈ ps.map (txP 58))
  have hl' : (txP 58 p).length ≤ 100 := Nat.le_trans hl hj
  have hl2 := hl'
  rw [txP_len] at hl2
  have hz := hg.1 p hm
  obtain ⟨p1, p2⟩ := p
  cases p2 with
  | none => cases hz
  | some m => exact two_nums (s := 58) (sg := Str.ofString ":") (by decide +kernel) h0 hl' (fun Q' z => fmt_int rfl h0 (by omega) z) (fun Q' z => z) (fun Q' z => fmt_int (n := m) rfl h1 (show (endT ((p1, some m) : Int × Option Int).2).length ≤ 100 by omega) z) k
theorem scShowStr : FnScope ["stretches", "one", "first", "last"] ["stretches"] (defScope sShowStretches) := ⟨rfl, rfl, rfl, by decide +kernel, rfl, by decide +kernel, by decide +kernel⟩
theorem ok_showStr {f : Addr} {fd : FuncData} (F : Fun K "show_stretches" "show_stretches" sShowStretches f fd) (B : Bi mg) (S : CStr P w K mg base) (N : CEnd P w K mg base) : FnOk P w K mg base CX0 3 f fd ["stretches"] (spShow 45 goodL) := by
  refine F.ok scShowStr (fun vs H Q E h => ?_) (fun cdv A outer s H vs Q E hr h => ?_)
  · obtain ⟨b, xs, ps, rfl, _⟩ := h
    rfl
  obtain ⟨b, xs, ps, rfl, hb, hp, hg, hj, q⟩ := h
  have hlen : xs.length = ps.length := Paired.length hp
  have hc := joinP_count 45 ps
  refine ⟨_, pss_cons (ps_if (PW.pt (pw_or (pt_not (pt_val (pe_callB call_isiT (by rfl) B.isinst boot_isinstance (pa_cons (pv 0) (pa_cons (pe_tup (pa_cons (pe_ty (by rfl) B.list boot_list) (pa_cons (pe_ty (by rfl) B.tuple boot_tuple) pa_nil))) pa_nil)))))
      (pw_or1 (pt_not (pt_val (pe_callB (cr_all rfl) (by rfl) B.all boot_all (pa_cons (pe_lc (own := [("one", 1)]) (g := gName 1) (tt := tYes) rfl scShowStr.nd (pi_list (pv 0)) (blkOk_by (N := ["stretches", "one", "first", "last"]) (sc := defScope sShowStretches) (by decide +kernel))
        (fun _ _ _ _ _ => pg_name (i := 1) scShowStr.nd rfl (Or.inl rfl)) (fun _ _ _ _ _ => pts_nil) (fun _ _ _ _ _ => cal S hr pass0 (pa_cons (pv 1) pa_nil))) pa_nil))))))) (pss_one ps_never) pss_nil)
    (pss_one (ps_ret (pe_join pe_str (pe_lc (own := [("first", 2), ("last", 3)]) (g := gTwo K 2 3) (tt := tYes) rfl scShowStr.nd (pi_list (pv 0)) (blkOk_by (N := ["stretches", "one", "first", "last"]) (sc := defScope sShowStretches) (by decide +kernel))
      (fun _ _ _ _ _ => pg_tup rfl (pgs_cons (pg_name (i := 2) scShowStr.nd rfl (Or.inl rfl)) (pgs_cons (pg_name (i := 3) scShowStr.nd rfl (Or.inl rfl)) pgs_nil))) (fun _ _ _ _ _ => pts_nil)
      (fun _ _ _ _ _ => pe_J (.cons (pe_fmt (pv 2)) (.cons pe_str (.cons (pe_fmt (cal N (hr.mono (by decide)) pass0 (pa_cons (pv 3) pa_nil))) .nil)))))))), ?_⟩
  refine ⟨_, rfl, (by show 2 ≤ sizeLine; decide), fun p hp0 => ?_⟩
  have s1 : Same H (upd H p (.tup [.ty "list", .ty "tuple"])) := same_new hp0 _
  refine ⟨.ref b, p, _, _, [.type "list", .type "tuple"], true, rfl, upd_same, .cons (.ty "list") (.cons (.ty "tuple") .nil), .base (.lst (s1 _ _ hb)), kitAny_cons (b := true) (kit_ty (by decide +kernel)) (fun z => absurd z (by decide)) (fun _ => rfl), _, rfl, iteF ?_⟩
  refine ⟨_, rfl, b, rfl, ⟨_, SqL.of (s1 _ _ hb)⟩, fun D hD => ?_⟩
  refine lc_map (xs := xs) (List.replicate xs.length (V.bl true)) (by rw [List.length_replicate]) (by rw [List.length_replicate]; exact line100 (by omega)) (SqL.of (s1 _ _ hb)) hD (fun j x y H2 Q' hx hy s2 k => ?_) (fun H2 s2 e2 => ?_)
  · obtain ⟨hj', _⟩ := List.getElem?_eq_some_iff.mp hx
    obtain ⟨z, hz⟩ : ∃ z, ps[j]? = some z := ⟨ps[j]'(by omega), List.getElem?_eq_getElem _⟩
    have ey : y = .bl true := by
      rw [List.getElem?_replicate, if_pos hj'] at hy
      exact (Option.some.inj hy).symm
    subst ey
    obtain ⟨c, rfl, hc1, h3, h4⟩ := (Paired.get hp hx hz).same (s1.trans s2)
    have ok := hg z (List.mem_of_getElem? hz)
    exact ⟨rfl, _, rfl, c, z.1, z.2, rfl, hc1, h3, h4, by rw [ok.say]; exact k H2 (Same.refl _)⟩
  · have s3 := s1.trans s2
    refine ⟨D, List.replicate xs.length true, rfl, SqL.of (by rw [List.map_replicate]; exact e2), ?_⟩
    rw [all_true]
    refine ⟨_, rfl, iteF ?_⟩
    refine ⟨⟨_, rfl⟩, _, rfl, b, rfl, ⟨_, SqL.of (s3 _ _ hb)⟩, fun D hD => ?_⟩
    refine show_all (K := K) (s3 _ _ hb) (pairs_same hp s3) hj hD (fun p H2 Q' hm h0 h1 k => ?_) (fun H2 s2 h2 => ?_)
    rotate_left
    · exact show_end (by decide +kernel) hj h2 (q H2 (s3.trans s2))
    refine ⟨rfl, ?_⟩
    have hl := mem_joinB (List.mem_map.mpr ⟨p, hm, rfl⟩ : txP 45 p ∈ ps.map (txP 45))
    have hl' : (txP 45 p).length ≤ 100 := Nat.le_trans hl hj
    have hl2 := hl'
    rw [txP_len] at hl2
    exact two_nums (s := 45) (sg := Str.ofString "-") (by decide +kernel) h0 hl' (fun Q' z => fmt_int rfl h0 (by omega) z) (fun Q' z => z) (fun Q' z => ⟨_, rfl, p.2, rfl, h1, by omega, .inl ⟨_, rfl, by rw [ofL_len]; exact line100 (by omega), z⟩⟩) k
end
end Bo

namespace Bo
open PySem L2 PyProof.Rows
/-! ### the reader in the heap -/
theorem ot_ : ¬ (("s11_open" : Str) = "s11_times") := by decide +kernel
theorem to_ : ¬ (("s11_times" : Str) = "s11_open") := by decide +kernel
def rf (lo lt : Addr) : List (Str × V) := putF "s11_times" (.ref lt) (putF "s11_open" (.ref lo) [])
theorem rf_open (lo lt : Addr) : (rf lo lt).lookup ("s11_open" : Str) = some (.ref lo) := by
  unfold rf
  rw [lookup_putF, if_neg ot_, lookup_putF, if_pos rfl]
theorem rf_times (lo lt : Addr) : (rf lo lt).lookup ("s11_times" : Str) = some (.ref lt) := by
  unfold rf
  rw [lookup_putF, if_pos rfl]
theorem rf_no (lo lt : Addr) {m : Str} (h1 : ¬ m = "s11_times") (h2 : ¬ m = "s11_open") : (rf lo lt).lookup m = none := by
  unfold rf
  rw [lookup_putF, if_neg h1, lookup_putF, if_neg h2]
  rfl
def OpenAt (H : Hp) (F : List Addr) (l : Addr) (is : List Inf) : Prop := ∃ xs, H l = some (.lst xs) ∧ Paired (Itm H F) xs is
structure Core (C : Addr) (E : List Addr) (H0 H : Hp) (r : Addr) (S : RS) (dx lo lt l : Addr) (ls : List Addr) : Prop where
  same : Same H0 H
  zo : H0 lo = none
  zt : H0 lt = none
  zl : ∀ b ∈ l :: ls, H0 b = none
  hr : H r = some (.ins C dx (rf lo lt))
  ho : H lo = some (.lst ((l :: ls).reverse.map V.ref))
  ht : H lt = some (.lst ((S.rest.map (·.1)).reverse.map V.int))
  nd : (lo :: lt :: l :: ls).Nodup
  top : OpenAt H (E ++ lo :: lt :: l :: ls) l S.top
  par : Paired (OpenAt H (E ++ lo :: lt :: l :: ls)) ls (S.rest.map (·.2))
  eb : ∀ e ∈ E, H0 e ≠ none
def StAt (C : Addr) (E : List Addr) (H0 H : Hp) (r : Addr) (S : RS) : Prop := ∃ dx lo lt l ls, Core C E H0 H r S dx lo lt l ls
theorem OpenAt.step {H H' : Hp} {F F' : List Addr} {l : Addr} {is : List Inf} (x : OpenAt H F l is) (hF : ∀ b xs, H b = some (.tup xs) → H' b = some (.tup xs)) (st : ∀ b xs, H b = some (.lst xs) → b ∉ F → H' b = some (.lst xs) ∧ b ∉ F') (hl : ∀ xs, H l = some (.lst xs) → H' l = some (.lst xs)) : OpenAt H' F' l is := by
  obtain ⟨xs, h, p⟩ := x
  exact ⟨xs, hl _ h, pairedImp p fun _ _ _ r => r.to hF st⟩
theorem paired_mem {α β : Type} {R R' : α → β → Prop} : ∀ {xs : List α} {ys : List β}, Paired R xs ys → (∀ x y, x ∈ xs → R x y → R' x y) → Paired R' xs ys
  | _, _, .nil, _ => .nil
  | _, _, .cons r t, h => .cons (h _ _ List.mem_cons_self r) (paired_mem t fun x y hx => h x y (List.mem_cons_of_mem _ hx))
section
variable {C : Addr} {E : List Addr} {H0 H1 H H' : Hp} {r : Addr} {S : RS} {dx lo lt l : Addr} {ls : List Addr}
theorem Core.sameTo (c : Core C E H0 H r S dx lo lt l ls) (s : Same H H') : Core C E H0 H' r S dx lo lt l ls where
  same := c.same.trans s
  zo := c.zo
  zt := c.zt
  zl := c.zl
  hr := s _ _ c.hr
  ho := s _ _ c.ho
  ht := s _ _ c.ht
  nd := c.nd
  top := c.top.step (fun b xs h => s _ _ h) (fun b xs h n => ⟨s _ _ h, n⟩) fun xs h => s _ _ h
  par := paired_mem c.par fun x y _ h => h.step (fun b xs h => s _ _ h) (fun b xs h n => ⟨s _ _ h, n⟩) fun xs h => s _ _ h
  eb := c.eb
theorem Core.base (c : Core C [] H1 H r S dx lo lt l ls) (s : Same H0 H1) : Core C [] H0 H r S dx lo lt l ls :=
  ⟨s.trans c.same, s.free c.zo, s.free c.zt, fun b hb => s.free (c.zl b hb), c.hr, c.ho, c.ht, c.nd, c.top, c.par, fun _ h => nomatch h⟩
theorem StAt.sameTo (c : StAt C E H0 H r S) (s : Same H H') : StAt C E H0 H' r S := by
  obtain ⟨dx, lo, lt, l, ls, c⟩ := c
  exact ⟨dx, lo, lt, l, ls, c.sameTo s⟩
theorem StAt.base (c : StAt C [] H1 H r S) (s : Same H0 H1) : StAt C [] H0 H r S := by
  obtain ⟨dx, lo, lt, l, ls, c⟩ := c
  exact ⟨dx, lo, lt, l, ls, c.base s⟩
theorem StAt.same (c : StAt C E H0 H r S) : Same H0 H := by
  obtain ⟨dx, lo, lt, l, ls, c⟩ := c
  exact c.same
/-- a new list beside the reader, that no item may hold -/
theorem StAt.beside {D : Addr} {o : HO} (c : StAt C E H0 H r S) (hD : H D = none) : StAt C (D :: E) (upd H0 D o) (upd H D o) r S := by
  obtain ⟨dx, lo, lt, l, ls, c⟩ := c
  have ne : ∀ {b u}, H b = some u → b ≠ D := fun h => ne_of_none h hD
  have n0 : ∀ {b u}, H b = some u → H0 b = none → upd H0 D o b = none := fun h z => by rw [upd_ne (ne h)]; exact z
  have st : ∀ b xs, H b = some (.lst xs) → b ∉ E ++ lo :: lt :: l :: ls → upd H D o b = some (.lst xs) ∧ b ∉ (D :: E) ++ lo :: lt :: l :: ls := fun b xs h n => ⟨by rw [upd_ne (ne h)]; exact h, fun z => by
    rcases List.mem_cons.mp z with z | z
    · exact ne h z
    · exact n z⟩
  have tu : ∀ b xs, H b = some (.tup xs) → upd H D o b = some (.tup xs) := fun b xs h => by rw [upd_ne (ne h)]; exact h
  have li : ∀ b xs, H b = some (.lst xs) → upd H D o b = some (.lst xs) := fun b xs h => by rw [upd_ne (ne h)]; exact h
  have tr : ∀ b ∈ l :: ls, ∃ xs, H b = some (.lst xs) := fun b hb => by
    rcases List.mem_cons.mp hb with rfl | hb
    · obtain ⟨xs, h, _⟩ := c.top
      exact ⟨xs, h⟩
    · have pm : ∀ {xs : List Addr} {ys : List (List Inf)}, Paired (OpenAt H (E ++ lo :: lt :: l :: ls)) xs ys → b ∈ xs → ∃ zs, H b = some (.lst zs) := by
        intro xs ys p
        induction p with
        | nil => intro z; cases z
        | cons r _ ih =>
          intro z
          rcases List.mem_cons.mp z with rfl | z
          · obtain ⟨zs, h, _⟩ := r
            exact ⟨zs, h⟩
          · exact ih z
      exact pm c.par hb
  refine ⟨dx, lo, lt, l, ls, ⟨fun b u h => ?_, n0 c.ho c.zo, n0 c.ht c.zt, fun b hb => ?_, ?_, li _ _ c.ho, li _ _ c.ht, c.nd, c.top.step tu st (li _), (paired_mem c.par fun x y _ h => h.step tu st (li _)), fun e he => ?_⟩⟩
  · by_cases e : b = D
    · rw [e, upd_same] at h ⊢
      exact h
    · rw [upd_ne e] at h ⊢
      exact c.same _ _ h
  · obtain ⟨xs, h⟩ := tr b hb
    exact n0 h (c.zl b hb)
  · rw [upd_ne (ne c.hr)]
    exact c.hr
  · by_cases e1 : e = D
    · rw [e1, upd_same]
      intro z
      cases z
    · rw [upd_ne e1]
      exact c.eb e ((List.mem_cons.mp he).resolve_left e1)
/-- .. written -/
theorem StAt.write {D : Addr} {o o' : HO} (c : StAt C (D :: E) H0 H r S) (h0 : H0 D = some o) (ho : ∀ xs, o ≠ .tup xs) (hi : ∀ a b fs, o ≠ .ins a b fs) : StAt C (D :: E) (upd H0 D o') (upd H D o') r S := by
  obtain ⟨dx, lo, lt, l, ls, c⟩ := c
  have hD := c.same _ _ h0
  have n0 : ∀ {b}, H0 b = none → b ≠ D := fun z e => by rw [e, h0] at z; cases z
  have st : ∀ b xs, H b = some (.lst xs) → b ∉ (D :: E) ++ lo :: lt :: l :: ls → upd H D o' b = some (.lst xs) ∧ b ∉ (D :: E) ++ lo :: lt :: l :: ls := fun b xs h n => ⟨by
    rw [upd_ne fun z => n (by rw [z]; simp)]
    exact h, n⟩
  have tu : ∀ b xs, H b = some (.tup xs) → upd H D o' b = some (.tup xs) := fun b xs h => by
    rw [upd_ne fun z => ?_]
    · exact h
    · rw [z, hD] at h
      exact ho _ (Option.some.inj h)
  have li : ∀ b, H0 b = none → ∀ xs, H b = some (.lst xs) → upd H D o' b = some (.lst xs) := fun b z xs h => by rw [upd_ne (n0 z)]; exact h
  refine ⟨dx, lo, lt, l, ls, ⟨fun b u h => ?_, by rw [upd_ne (n0 c.zo)]; exact c.zo, by rw [upd_ne (n0 c.zt)]; exact c.zt, fun b hb => by rw [upd_ne (n0 (c.zl b hb))]; exact c.zl b hb, ?_, li _ c.zo _ c.ho, li _ c.zt _ c.ht, c.nd, c.top.step tu st (li _ (c.zl l (by simp))), (paired_mem c.par fun x y hx h => h.step tu st (li _ (c.zl x (by simp [hx])))), fun e he => ?_⟩⟩
  · by_cases e : b = D
    · rw [e, upd_same] at h ⊢
      exact h
    · rw [upd_ne e] at h ⊢
      exact c.same _ _ h
  · rw [upd_ne fun z => ?_]
    · exact c.hr
    · have q := c.hr
      rw [z, hD] at q
      exact hi _ _ _ (Option.some.inj q)
  · by_cases e1 : e = D
    · rw [e1, upd_same]
      intro z
      cases z
    · rw [upd_ne e1]
      exact c.eb e he
theorem StAt.drop {D : Addr} (c : StAt C (D :: E) H0 H r S) : StAt C E H0 H r S := by
  obtain ⟨dx, lo, lt, l, ls, c⟩ := c
  have st : ∀ b xs, H b = some (.lst xs) → b ∉ (D :: E) ++ lo :: lt :: l :: ls → H b = some (.lst xs) ∧ b ∉ E ++ lo :: lt :: l :: ls := fun b xs h n => ⟨h, fun z => n (List.mem_cons_of_mem _ z)⟩
  exact ⟨dx, lo, lt, l, ls, ⟨c.same, c.zo, c.zt, c.zl, c.hr, c.ho, c.ht, c.nd, c.top.step (fun _ _ h => h) st (fun _ h => h), (paired_mem c.par fun x y _ h => h.step (fun _ _ h => h) st (fun _ h => h)), fun e he => c.eb e (List.mem_cons_of_mem _ he)⟩⟩
end
end Bo

namespace Bo
open PySem L2 PyProof.Rows
section
variable {C : Addr} {E : List Addr} {H0 H1 H H' : Hp} {r : Addr} {S : RS} {dx lo lt l : Addr} {ls : List Addr}
theorem Core.open_at (c : Core C E H0 H r S dx lo lt l ls) {b : Addr} (hb : b ∈ l :: ls) : ∃ xs, H b = some (.lst xs) := by
  rcases List.mem_cons.mp hb with rfl | hb
  · obtain ⟨xs, h, _⟩ := c.top
    exact ⟨xs, h⟩
  · have pm : ∀ {xs : List Addr} {ys : List (List Inf)}, Paired (OpenAt H (E ++ lo :: lt :: l :: ls)) xs ys → b ∈ xs → ∃ zs, H b = some (.lst zs) := by
      intro xs ys p
      induction p with
      | nil => intro z; cases z
      | cons r _ ih =>
        intro z
        rcases List.mem_cons.mp z with rfl | z
        · obtain ⟨zs, h, _⟩ := r
          exact ⟨zs, h⟩
        · exact ih z
    exact pm c.par hb
theorem Core.nds (c : Core C E H0 H r S dx lo lt l ls) : lo ≠ lt ∧ (∀ b ∈ l :: ls, b ≠ lo ∧ b ≠ lt) ∧ (l :: ls).Nodup := by
  have h := c.nd
  rw [List.nodup_cons, List.nodup_cons] at h
  obtain ⟨h1, h2, h3⟩ := h
  exact ⟨fun z => h1 (by rw [z]; simp), fun b hb => ⟨fun z => h1 (by rw [← z]; exact List.mem_cons_of_mem _ hb), fun z => h2 (by rw [← z]; exact hb)⟩, h3⟩
theorem Core.lens (c : Core C E H0 H r S dx lo lt l ls) : ls.length = S.rest.length := by
  have h := Paired.length c.par
  rw [List.length_map] at h
  exact h
/-- what an item leans on is not among the reader's own lists -/
theorem Core.tup_ne (c : Core C E H0 H r S dx lo lt l ls) {b : Addr} {xs : List V} (h : H b = some (.tup xs)) : b ≠ lo ∧ b ≠ lt ∧ ∀ d ∈ l :: ls, b ≠ d := by
  refine ⟨ne_of h c.ho (by intro z; cases z), ne_of h c.ht (by intro z; cases z), fun d hd => ?_⟩
  obtain ⟨zs, hz⟩ := c.open_at hd
  exact ne_of h hz (by intro z; cases z)
theorem Core.r_ne (c : Core C E H0 H r S dx lo lt l ls) : r ≠ lo ∧ r ≠ lt ∧ ∀ d ∈ l :: ls, r ≠ d := by
  refine ⟨ne_of c.hr c.ho (by intro z; cases z), ne_of c.hr c.ht (by intro z; cases z), fun d hd => ?_⟩
  obtain ⟨zs, hz⟩ := c.open_at hd
  exact ne_of c.hr hz (by intro z; cases z)
theorem Core.begin_ (c : Core C E H0 H r S dx lo lt l ls) {p : Addr} {n : Int} (hp : H p = none) :
    Core C E H0 (upd (upd (upd H p (.lst [])) lo (.lst ((l :: ls).reverse.map V.ref ++ [.ref p]))) lt (.lst ((S.rest.map (·.1)).reverse.map V.int ++ [.int n]))) r (beginS n S) dx lo lt p (l :: ls) := by
  obtain ⟨n1, n2, n3⟩ := c.nds
  have ne : ∀ {b u}, H b = some u → b ≠ p := fun h => ne_of_none h hp
  have plo : p ≠ lo := (ne c.ho).symm
  have plt : p ≠ lt := (ne c.ht).symm
  have keep : ∀ {b u}, H b = some u → b ≠ lo → b ≠ lt → upd (upd (upd H p (.lst [])) lo (.lst ((l :: ls).reverse.map V.ref ++ [.ref p]))) lt (.lst ((S.rest.map (·.1)).reverse.map V.int ++ [.int n])) b = some u := fun h h1 h2 => by
    rw [upd_ne h2, upd_ne h1, upd_ne (ne h)]
    exact h
  have pl : ∀ d ∈ l :: ls, p ≠ d := fun d hd z => by
    obtain ⟨zs, hz⟩ := c.open_at hd
    rw [← z, hp] at hz
    cases hz
  have tu : ∀ b xs, H b = some (.tup xs) → upd (upd (upd H p (.lst [])) lo (.lst ((l :: ls).reverse.map V.ref ++ [.ref p]))) lt (.lst ((S.rest.map (·.1)).reverse.map V.int ++ [.int n])) b = some (.tup xs) := fun b xs h => keep h (c.tup_ne h).1 (c.tup_ne h).2.1
  have st : ∀ b xs, H b = some (.lst xs) → b ∉ E ++ lo :: lt :: l :: ls → upd (upd (upd H p (.lst [])) lo (.lst ((l :: ls).reverse.map V.ref ++ [.ref p]))) lt (.lst ((S.rest.map (·.1)).reverse.map V.int ++ [.int n])) b = some (.lst xs) ∧ b ∉ E ++ lo :: lt :: p :: l :: ls := fun b xs h nb => by
    simp only [List.mem_append, List.mem_cons, not_or] at nb ⊢
    exact ⟨keep h nb.2.1 nb.2.2.1, nb.1, nb.2.1, nb.2.2.1, ne h, nb.2.2.2.1, nb.2.2.2.2⟩
  have op : ∀ d ∈ l :: ls, ∀ xs, H d = some (.lst xs) → upd (upd (upd H p (.lst [])) lo (.lst ((l :: ls).reverse.map V.ref ++ [.ref p]))) lt (.lst ((S.rest.map (·.1)).reverse.map V.int ++ [.int n])) d = some (.lst xs) := fun d hd xs h => keep h (n2 d hd).1 (n2 d hd).2
  have h0p : H0 p = none := c.same.free hp
  refine ⟨fun b u h => ?_, c.zo, c.zt, fun b hb => ?_, keep c.hr c.r_ne.1 c.r_ne.2.1, ?_, ?_, ?_, ⟨[], ?_, .nil⟩, ?_, c.eb⟩
  · refine keep (c.same _ _ h) (fun z => ?_) (fun z => ?_)
    · rw [z, c.zo] at h; cases h
    · rw [z, c.zt] at h; cases h
  · rcases List.mem_cons.mp hb with rfl | hb
    · exact h0p
    · exact c.zl b hb
  · rw [upd_ne n1, upd_same]
    congr 2
    rw [List.reverse_cons (a := p), List.map_append]
    rfl
  · rw [upd_same]
    congr 2
    show _ = ((n :: S.rest.map (·.1)).reverse.map V.int)
    rw [List.reverse_cons, List.map_append]
    rfl
  · have h := c.nd
    rw [List.nodup_cons, List.nodup_cons] at h
    obtain ⟨h1, h2, h3⟩ := h
    rw [List.nodup_cons, List.nodup_cons, List.nodup_cons]
    simp only [List.mem_cons, not_or] at h1 h2 ⊢
    have hpl := pl l List.mem_cons_self
    exact ⟨⟨h1.1, plo.symm, h1.2.1, h1.2.2⟩, ⟨plt.symm, h2.1, h2.2⟩, ⟨hpl, fun z => pl p (List.mem_cons_of_mem _ z) rfl⟩, h3⟩
  · rw [upd_ne plt, upd_ne plo, upd_same]
  · exact .cons (c.top.step tu st (op l (by simp))) (paired_mem c.par fun x y hx h => h.step tu st (op x (List.mem_cons_of_mem _ hx)))
/-- an item put to the innermost -/
theorem Core.add (c : Core C E H0 H r S dx lo lt l ls) {xs : List V} (hx : H l = some (.lst xs)) {v : V} {i : Inf} (hi : Itm H (E ++ lo :: lt :: l :: ls) v i) :
    Core C E H0 (upd H l (.lst (xs ++ [v]))) r (addS S [i]) dx lo lt l ls := by
  obtain ⟨n1, n2, n3⟩ := c.nds
  have tu : ∀ b zs, H b = some (.tup zs) → upd H l (.lst (xs ++ [v])) b = some (.tup zs) := fun b zs h => by
    rw [upd_ne ((c.tup_ne h).2.2 l List.mem_cons_self)]
    exact h
  have st : ∀ b zs, H b = some (.lst zs) → b ∉ E ++ lo :: lt :: l :: ls → upd H l (.lst (xs ++ [v])) b = some (.lst zs) ∧ b ∉ E ++ lo :: lt :: l :: ls := fun b zs h nb => ⟨by
    rw [upd_ne fun z => nb (by rw [z]; simp)]
    exact h, nb⟩
  have lls : ∀ d ∈ ls, d ≠ l := fun d hd z => (List.nodup_cons.mp n3).1 (by rw [← z]; exact hd)
  obtain ⟨zs, h1, h2⟩ := c.top
  rw [hx] at h1
  have e : xs = zs := by injection h1 with h1; injection h1
  subst e
  refine ⟨fun b u h => ?_, c.zo, c.zt, c.zl, ?_, ?_, ?_, c.nd, ⟨xs ++ [v], upd_same, ?_⟩, ?_, c.eb⟩
  · rw [upd_ne fun z => ?_]
    · exact c.same _ _ h
    · rw [z, c.zl l List.mem_cons_self] at h
      cases h
  · rw [upd_ne (c.r_ne.2.2 l List.mem_cons_self)]
    exact c.hr
  · rw [upd_ne (n2 l List.mem_cons_self).1.symm]
    exact c.ho
  · rw [upd_ne (n2 l List.mem_cons_self).2.symm]
    exact c.ht
  · exact Paired.snoc (pairedImp h2 fun _ _ _ h => h.to tu st) (hi.to tu st)
  · exact paired_mem c.par fun x y hx' h => h.step tu st fun zs hz => by
      rw [upd_ne (lls x hx')]
      exact hz
/-- the innermost again ends -/
theorem Core.close_ {n : Int} {par top : List Inf} {rest : List (Int × List Inf)} {m : Addr} (c : Core C E H0 H r ⟨(n, par) :: rest, top⟩ dx lo lt l (m :: ls)) {t : Addr} {xs : List V} (hn : 0 ≤ n) (hm : H m = some (.lst xs))
    (ht : upd (upd H lo (.lst ((m :: ls).reverse.map V.ref))) lt (.lst ((rest.map (·.1)).reverse.map V.int)) t = none) :
    Core C E H0 (upd (upd (upd (upd H lo (.lst ((m :: ls).reverse.map V.ref))) lt (.lst ((rest.map (·.1)).reverse.map V.int))) t (.tup (againV n l))) m (.lst (xs ++ [.ref t]))) r ⟨rest, par ++ [agInf n top]⟩ dx lo lt m ls := by
  obtain ⟨n1, n2, n3⟩ := c.nds
  have htn : H t = none ∧ t ≠ lo ∧ t ≠ lt := by
    by_cases h1 : t = lt
    · rw [h1, upd_same] at ht; cases ht
    · rw [upd_ne h1] at ht
      by_cases h2 : t = lo
      · rw [h2, upd_same] at ht; cases ht
      · rw [upd_ne h2] at ht
        exact ⟨ht, h2, h1⟩
  obtain ⟨t0, tlo, tlt⟩ := htn
  have ne : ∀ {b u}, H b = some u → b ≠ t := fun h => ne_of_none h t0
  have mmem : m ∈ l :: m :: ls := by simp
  have lm : l ≠ m := fun z => (List.nodup_cons.mp n3).1 (by rw [z]; simp)
  have keep : ∀ {b u}, H b = some u → b ≠ lo → b ≠ lt → b ≠ m → upd (upd (upd (upd H lo (.lst ((m :: ls).reverse.map V.ref))) lt (.lst ((rest.map (·.1)).reverse.map V.int))) t (.tup (againV n l))) m (.lst (xs ++ [.ref t])) b = some u := fun h h1 h2 h3 => by
    rw [upd_ne h3, upd_ne (ne h), upd_ne h2, upd_ne h1]
    exact h
  have tu : ∀ b zs, H b = some (.tup zs) → upd (upd (upd (upd H lo (.lst ((m :: ls).reverse.map V.ref))) lt (.lst ((rest.map (·.1)).reverse.map V.int))) t (.tup (againV n l))) m (.lst (xs ++ [.ref t])) b = some (.tup zs) := fun b zs h => keep h (c.tup_ne h).1 (c.tup_ne h).2.1 ((c.tup_ne h).2.2 m mmem)
  have st : ∀ b zs, H b = some (.lst zs) → b ∉ E ++ lo :: lt :: l :: m :: ls → upd (upd (upd (upd H lo (.lst ((m :: ls).reverse.map V.ref))) lt (.lst ((rest.map (·.1)).reverse.map V.int))) t (.tup (againV n l))) m (.lst (xs ++ [.ref t])) b = some (.lst zs) ∧ b ∉ E ++ lo :: lt :: m :: ls := fun b zs h nb => by
    simp only [List.mem_append, List.mem_cons, not_or] at nb ⊢
    exact ⟨keep h nb.2.1 nb.2.2.1 nb.2.2.2.2.1, nb.1, nb.2.1, nb.2.2.1, nb.2.2.2.2.1, nb.2.2.2.2.2⟩
  have nls := List.nodup_cons.mp (List.nodup_cons.mp n3).2
  obtain ⟨ys, hy1, hy2⟩ := c.top
  have hpar : Paired (OpenAt H (E ++ lo :: lt :: l :: m :: ls)) (m :: ls) (par :: rest.map (·.2)) := c.par
  have hnE : l ∉ E ++ lo :: lt :: m :: ls := by
    simp only [List.mem_append, List.mem_cons, not_or]
    have := n2 l List.mem_cons_self
    exact ⟨fun z => c.eb l z (c.zl l List.mem_cons_self), this.1, this.2, lm, fun z => (List.nodup_cons.mp n3).1 (List.mem_cons_of_mem _ z)⟩
  cases hpar with
  | cons h1 h2 =>
    obtain ⟨zs, hz1, hz2⟩ := h1
    rw [hm] at hz1
    have e : xs = zs := by injection hz1 with hz1; injection hz1
    subst e
    refine ⟨fun b u h => ?_, c.zo, c.zt, fun b hb => c.zl b (List.mem_cons_of_mem _ hb), keep c.hr c.r_ne.1 c.r_ne.2.1 (c.r_ne.2.2 m mmem), ?_, ?_, ?_, ⟨_, upd_same, ?_⟩, ?_, c.eb⟩
    · refine keep (c.same _ _ h) (fun z => ?_) (fun z => ?_) (fun z => ?_)
      · rw [z, c.zo] at h; cases h
      · rw [z, c.zt] at h; cases h
      · rw [z, c.zl m mmem] at h; cases h
    · rw [upd_ne (n2 m mmem).1.symm, upd_ne tlo.symm, upd_ne n1, upd_same]
    · rw [upd_ne (n2 m mmem).2.symm, upd_ne tlt.symm, upd_same]
    · have h := c.nd
      rw [List.nodup_cons, List.nodup_cons] at h
      obtain ⟨g1, g2, g3⟩ := h
      rw [List.nodup_cons, List.nodup_cons]
      simp only [List.mem_cons, not_or] at g1 g2 ⊢
      exact ⟨⟨g1.1, g1.2.2⟩, g2.2, (List.nodup_cons.mp g3).2⟩
    · refine Paired.snoc (pairedImp hz2 fun _ _ _ h => h.to tu st) (.again (b := l) (xs := ys) ?_ hn ?_ ?_ (pairedImp hy2 fun _ _ _ h => h.to tu st))
      · rw [upd_ne fun z => ?_, upd_same]
        rw [z, hm] at t0
        cases t0
      · exact keep hy1 (n2 l List.mem_cons_self).1 (n2 l List.mem_cons_self).2 lm
      · exact hnE
    · refine paired_mem h2 fun x y hx h => h.step tu st fun zs hz => ?_
      have hxm : x ∈ l :: m :: ls := by simp [hx]
      exact keep hz (n2 x hxm).1 (n2 x hxm).2 fun z => nls.1 (by rw [← z]; exact hx)
end
end Bo

namespace Bo
open PySem L2 PyProof.Rows
structure RT (K : PySem.W.Frag) (mg : Str → Option Value) (C : Addr) : Prop where
  cl : Cls K C
  nO : NoAttr K C "s11_open"
  nT : NoAttr K C "s11_times"
  mgC : mg "Reader" = some (.ref C)
theorem szF_len : ∀ rest : List (Int × List Inf), rest.length ≤ szF rest
  | [] => Nat.le_refl _
  | f :: r => by
    have := szF_len r
    show r.length + 1 ≤ (f.2.length + 1) + szF r
    omega
theorem sz_rest (S : RS) : S.rest.length ≤ S.sz ∧ S.top.length ≤ S.sz := by
  have := szF_len S.rest
  unfold RS.sz
  omega
def spInit (C : Addr) : Sp := fun vs H Q _ => ∃ (H0 : Hp) (r dx : Addr), vs = [.ref r] ∧ Same H0 H ∧ H0 r = none ∧ H r = some (.ins C dx []) ∧ ∀ H', StAt C [] H0 H' r S0 → Q .non H'
def spBegin (C : Addr) : Sp := fun vs H Q _ => ∃ (E : List Addr) (H0 : Hp) (r : Addr) (S : RS) (n : Int), vs = [.ref r, .int n] ∧ StAt C E H0 H r S ∧ S.sz ≤ 1000 ∧ ∀ H', StAt C E H0 H' r (beginS n S) → Q .non H'
def spClose (C : Addr) : Sp := fun vs H Q _ => ∃ (E : List Addr) (H0 : Hp) (r : Addr) (S : RS), vs = [.ref r] ∧ StAt C E H0 H r S ∧ okS S ∧ S.sz ≤ 1000 ∧ (closeS S = none → ∀ H', StAt C E H0 H' r S → Q (.bl false) H') ∧ ∀ S', closeS S = some S' → ∀ H', StAt C E H0 H' r S' → Q (.bl true) H'
theorem ints_dp {K : PySem.W.Frag} {H : Hp} : ∀ ns : List Int, DpAll K H (ns.map V.int) (ns.map PyData.int)
  | [] => .nil
  | n :: r => .cons (.int n) (ints_dp r)
theorem ints_shaped (ns : List Int) : SeqAt.shaped (.list (ns.map PyData.int)) = true := list_shaped fun d hd => by
  obtain ⟨n, _, rfl⟩ := List.mem_map.mp hd
  simp [PyData.canLay0, PyData.depth]
section
variable {P : Program} {w : World} {K : PySem.W.Frag} {mg : Str → Option Value} {base : Heap} {C : Addr}
theorem scInit : FnScope ["self"] ["self"] (defScope sInit) := ⟨rfl, rfl, rfl, by decide +kernel, rfl, by decide +kernel, by decide +kernel⟩
theorem ok_init {f : Addr} {fd : FuncData} (F : Fun K "__init__" "Reader.__init__" sInit f fd) (T : RT K mg C) : FnOk P w K mg base CX0 1 f fd ["self"] (spInit C) := by
  refine F.ok scInit (fun vs H Q E h => ?_) (fun cdv A outer s H vs Q E hr h => ?_)
  · obtain ⟨H0, r, dx, rfl, _⟩ := h
    rfl
  obtain ⟨H0, r, dx, rfl, s0, z0, hi, q⟩ := h
  refine ⟨_, pss_cons (ps_fld (pv 0) (pe_lst (pa_cons (pe_lst pa_nil) pa_nil)) rfl) (pss_one (ps_fld (pv 0) (pe_lst pa_nil) rfl)), ?_⟩
  refine ⟨Nat.zero_le _, fun p hp => ⟨(by show 1 ≤ sizeLine; decide), fun lo hlo => ?_⟩⟩
  have rp : r ≠ p := ne_of_none hi hp
  have h1 : upd H p (.lst []) r = some (.ins C dx []) := by
    rw [upd_ne rp]
    exact hi
  have rlo : r ≠ lo := ne_of_none h1 hlo
  have plo : p ≠ lo := fun z => by
    rw [← z, upd_same] at hlo
    cases hlo
  refine ⟨_, rfl, r, C, dx, [], rfl, (by rw [upd_ne rlo]; exact h1), T.cl, T.nO, (by show 0 < 1000; decide), Nat.zero_le _, fun lt hlt => ?_⟩
  have rlt : r ≠ lt := fun z => by
    rw [← z, upd_same] at hlt
    cases hlt
  have ltr := rlt.symm
  have hlt2 : upd (upd H p (.lst [])) lo (.lst [.ref p]) lt = none := by
    rw [upd_ne ltr] at hlt
    exact hlt
  have lolt : lo ≠ lt := fun z => by
    rw [← z, upd_same] at hlt2
    cases hlt2
  have hlt3 : upd H p (.lst []) lt = none := by
    rw [upd_ne lolt.symm] at hlt2
    exact hlt2
  have plt : p ≠ lt := fun z => by
    rw [← z, upd_same] at hlt3
    cases hlt3
  have hlt4 : H lt = none := by
    rw [upd_ne plt.symm] at hlt3
    exact hlt3
  have hlo4 : H lo = none := by
    rw [upd_ne plo.symm] at hlo
    exact hlo
  refine ⟨_, rfl, r, C, dx, _, rfl, (by rw [upd_ne rlt, upd_same]), T.cl, T.nT, (by show 1 < 1000; decide), ?_⟩
  refine q _ ⟨dx, lo, lt, p, [], ⟨fun b u h => ?_, s0.free hlo4, s0.free hlt4, fun b hb => ?_, upd_same, ?_, ?_, ?_, ⟨[], ?_, .nil⟩, .nil, fun _ h => nomatch h⟩⟩
  · have hb := s0 _ _ h
    have br : b ≠ r := fun z => by
      rw [z, z0] at h
      cases h
    rw [upd_ne br, upd_ne (ne_of_none hb hlt4), upd_ne br, upd_ne (ne_of_none hb hlo4), upd_ne (ne_of_none hb hp)]
    exact hb
  · rw [List.mem_singleton.mp hb]
    exact s0.free hp
  · rw [upd_ne rlo.symm, upd_ne lolt, upd_ne rlo.symm, upd_same]
    rfl
  · rw [upd_ne ltr, upd_same]
    rfl
  · simp only [List.nodup_cons, List.mem_cons, List.not_mem_nil, or_false, not_or, not_false_eq_true, List.nodup_nil, and_true]
    exact ⟨⟨lolt, plo.symm⟩, plt.symm⟩
  · rw [upd_ne rp.symm, upd_ne plt, upd_ne rp.symm, upd_ne plo, upd_same]
theorem scBegin : FnScope ["self", "many"] ["self", "many"] (defScope sBegin) := ⟨rfl, rfl, rfl, by decide +kernel, rfl, by decide +kernel, by decide +kernel⟩
theorem ok_begin {f : Addr} {fd : FuncData} (F : Fun K "begin" "Reader.begin" sBegin f fd) (T : RT K mg C) : FnOk P w K mg base CX0 1 f fd ["self", "many"] (spBegin C) := by
  refine F.ok scBegin (fun vs H Q E h => ?_) (fun cdv A outer s H vs Q E hr h => ?_)
  · obtain ⟨X, H0, r, S, n, rfl, _⟩ := h
    rfl
  obtain ⟨X, H0, r, S, n, rfl, ⟨dx, lo, lt, l, ls, c⟩, hz, q⟩ := h
  obtain ⟨n1, n2, n3⟩ := c.nds
  have hs := sz_rest S
  have hls := c.lens
  refine ⟨_, pss_cons (ps_expr (pe_bm PySem.F.plainAttrs_list PySem.F.slot_list_append PySem.F.type_list_append mt_append (pe_fld (pv 0) rfl) (pa_cons (pe_lst pa_nil) pa_nil)))
    (pss_one (ps_expr (pe_bm PySem.F.plainAttrs_list PySem.F.slot_list_append PySem.F.type_list_append mt_append (pe_fld (pv 0) rfl) (pa_cons (pv 1) pa_nil)))), ?_⟩
  refine ⟨_, rfl, r, C, dx, _, _, rfl, c.hr, T.cl, T.nO, rf_open _ _, .inl ⟨rfl, _, SqL.of c.ho⟩, Nat.zero_le _, fun p hp => ?_⟩
  have k : ∀ {b u}, H b = some u → upd H p (.lst []) b = some u := fun h => by
    rw [upd_ne (ne_of_none h hp)]
    exact h
  refine ⟨lo, _, _, rfl, rfl, k c.ho, ?_, ?_⟩
  · rw [List.length_map, List.length_reverse, List.length_cons, hls]
    exact Nat.lt_of_le_of_lt (show S.rest.length + 1 ≤ 1001 by omega) (by decide)
  have k2 : ∀ {b u}, H b = some u → b ≠ lo → upd (upd H p (.lst [])) lo (.lst ((l :: ls).reverse.map V.ref ++ [.ref p])) b = some u := fun h h2 => by
    rw [upd_ne h2]
    exact k h
  refine ⟨_, rfl, r, C, dx, _, _, rfl, k2 c.hr c.r_ne.1, T.cl, T.nT, rf_times _ _, .inl ⟨rfl, _, SqL.of (k2 c.ht n1.symm)⟩, _, rfl, lt, _, _, rfl, rfl, k2 c.ht n1.symm, ?_, ?_⟩
  · rw [List.length_map, List.length_reverse, List.length_map]
    exact Nat.lt_of_le_of_lt (show S.rest.length ≤ 1000 by omega) (by decide)
  exact q _ ⟨dx, lo, lt, p, _, c.begin_ hp⟩
theorem drop_ref (l : Addr) (ls : List Addr) : ((l :: ls).reverse.map V.ref).dropLast = ls.reverse.map V.ref := by
  rw [List.reverse_cons, List.map_append]
  show (ls.reverse.map V.ref ++ [V.ref l]).dropLast = _
  rw [List.dropLast_concat]
theorem last_ref (l : Addr) (ls : List Addr) : ((l :: ls).reverse.map V.ref)[((l :: ls).reverse.map V.ref).length - 1]? = some (V.ref l) := by
  rw [List.reverse_cons, List.map_append]
  show (ls.reverse.map V.ref ++ [V.ref l])[(ls.reverse.map V.ref ++ [V.ref l]).length - 1]? = _
  rw [List.length_append, List.length_singleton, Nat.add_sub_cancel, List.getElem?_concat_length]
theorem ix_ref (l : Addr) (ls : List Addr) : atI ((l :: ls).reverse.map V.ref) (-1) = some (V.ref l) := by
  rw [List.reverse_cons, List.map_append]
  exact atI_last _ _
theorem drop_int (n : Int) (ns : List Int) : ((n :: ns).reverse.map V.int).dropLast = ns.reverse.map V.int := by
  rw [List.reverse_cons, List.map_append]
  show (ns.reverse.map V.int ++ [V.int n]).dropLast = _
  rw [List.dropLast_concat]
theorem last_int (n : Int) (ns : List Int) : ((n :: ns).reverse.map V.int)[((n :: ns).reverse.map V.int).length - 1]? = some (V.int n) := by
  rw [List.reverse_cons, List.map_append]
  show (ns.reverse.map V.int ++ [V.int n])[(ns.reverse.map V.int ++ [V.int n]).length - 1]? = _
  rw [List.length_append, List.length_singleton, Nat.add_sub_cancel, List.getElem?_concat_length]
theorem scClose : FnScope ["self", "inner"] ["self"] (defScope sClose) := ⟨rfl, rfl, rfl, by decide +kernel, rfl, by decide +kernel, by decide +kernel⟩
theorem ok_close {f : Addr} {fd : FuncData} (F : Fun K "close" "Reader.close" sClose f fd) (T : RT K mg C) : FnOk P w K mg base CX0 1 f fd ["self"] (spClose C) := by
  refine F.ok scClose (fun vs H Q E h => ?_) (fun cdv A outer s H vs Q E hr h => ?_)
  · obtain ⟨X, H0, r, S, rfl, _⟩ := h
    rfl
  obtain ⟨X, H0, r, S, rfl, ⟨dx, lo, lt, l, ls, c⟩, hok, hz, qn, qs⟩ := h
  refine ⟨_, pss_cons (ps_if (pt_cmpR (op_eqD hr.units) (pe_fld (pv 0) rfl) (pe_lst pa_nil) (nomark _)) (pss_one (ps_ret pe_bl)) pss_nil)
    (pss_cons (ps_set (i := 1) scClose.nd rfl (Or.inl rfl) (pe_bm0 PySem.F.plainAttrs_list PySem.F.slot_list_pop PySem.F.type_list_pop mt_pop (pe_fld (pv 0) rfl)))
    (pss_cons (ps_expr (pe_bm PySem.F.plainAttrs_list PySem.F.slot_list_append PySem.F.type_list_append mt_append (pe_ix ix_list (pe_fld (pv 0) rfl) (pe_un un_neg pe_int) (fun _ _ => rfl))
      (pa_cons (pe_tup (pa_cons pe_str (pa_cons (pe_bm0 PySem.F.plainAttrs_list PySem.F.slot_list_pop PySem.F.type_list_pop mt_pop (pe_fld (pv 0) rfl)) (pa_cons (pv 1) pa_nil)))) pa_nil)))
    (pss_one (ps_ret pe_bl)))), ?_⟩
  refine ⟨_, rfl, r, C, dx, _, _, rfl, c.hr, T.cl, T.nT, rf_times _ _, Nat.zero_le _, fun p hp => ?_⟩
  have c1 := c.sameTo (same_new hp (.lst []))
  refine ⟨.list ((S.rest.map (·.1)).reverse.map PyData.int), .list [], .lst (SqL.of c1.ht) (ints_dp _), .lst (SqL.of upd_same) .nil, ints_shaped _, nil_shaped, _, rfl, ?_⟩
  rw [eqv_nil]
  obtain ⟨rest, top⟩ := S
  cases rest with
  | nil => exact iteT (qn rfl _ ⟨dx, lo, lt, l, ls, c1⟩)
  | cons fr rest =>
    obtain ⟨n, par⟩ := fr
    have e1 : (((((n, par) :: rest).map (·.1)).reverse.map PyData.int).isEmpty) = false := by
      rw [List.isEmpty_eq_false_iff]
      simp
    have e1' : ((List.map PyData.int (List.map (fun x => x.fst) (RS.rest ⟨(n, par) :: rest, top⟩)).reverse).isEmpty) = false := e1
    rw [e1']
    refine iteF ?_
    have hls := c.lens
    cases ls with
    | nil => simp at hls
    | cons m ls =>
      generalize upd H p (.lst []) = H at c1 ⊢
      obtain ⟨n1, n2, n3⟩ := c1.nds
      obtain ⟨xs, hm⟩ := c1.open_at (b := m) (by simp)
      obtain ⟨hn, hpar⟩ := hok.2 (n, par) List.mem_cons_self
      refine ⟨_, rfl, r, C, dx, _, _, rfl, c1.hr, T.cl, T.nO, rf_open _ _, .inl ⟨rfl, _, SqL.of c1.ho⟩, lo, _, _, rfl, rfl, c1.ho, last_ref l (m :: ls), ?_⟩
      rw [drop_ref]
      have k1 : ∀ {b u}, H b = some u → b ≠ lo → upd H lo (.lst ((m :: ls).reverse.map V.ref)) b = some u := fun h h2 => by
        rw [upd_ne h2]
        exact h
      have mlo := n2 m (by simp)
      refine ⟨_, rfl, r, C, dx, _, _, rfl, k1 c1.hr c1.r_ne.1, T.cl, T.nO, rf_open _ _, 1, rfl, lo, _, -1, .ref m, rfl, rfl, SqL.of upd_same, ix_ref m ls, .inl ⟨rfl, _, SqL.of (k1 hm mlo.1)⟩, ?_⟩
      refine ⟨_, rfl, r, C, dx, _, _, rfl, k1 c1.hr c1.r_ne.1, T.cl, T.nT, rf_times _ _, .inl ⟨rfl, _, SqL.of (k1 c1.ht n1.symm)⟩, lt, _, _, rfl, rfl, k1 c1.ht n1.symm, last_int n (rest.map fun f : Int × List Inf => f.1), ?_⟩
      rw [show ((List.map V.int (List.map (fun x => x.fst) (RS.rest ⟨(n, par) :: rest, top⟩)).reverse).dropLast) = (rest.map fun f : Int × List Inf => f.1).reverse.map V.int from drop_int n (rest.map fun f : Int × List Inf => f.1)]
      refine ⟨_, rfl, (by show 3 ≤ sizeLine; decide), fun t ht => ?_⟩
      have mt : m ≠ t := fun z => by
        rw [← z, upd_ne mlo.2, upd_ne mlo.1, hm] at ht
        cases ht
      refine ⟨m, xs, _, rfl, rfl, ?_, ?_, ?_⟩
      · rw [upd_ne mt, upd_ne mlo.2, upd_ne mlo.1]
        exact hm
      · have h2 : Paired (OpenAt H (X ++ lo :: lt :: l :: m :: ls)) (m :: ls) (par :: rest.map (·.2)) := c1.par
        cases h2 with
        | cons h3 _ =>
          obtain ⟨zs, hz1, hz2⟩ := h3
          rw [hm] at hz1
          have e : xs = zs := by injection hz1 with hz1; injection hz1
          subst e
          have hl := Paired.length hz2
          have hsz : top.length + ((par.length + 1) + szF rest) ≤ 1000 := hz
          exact Nat.lt_of_le_of_lt (show xs.length ≤ 1000 by omega) (by decide)
      · exact qs _ rfl _ ⟨dx, lo, lt, m, ls, c1.close_ hn hm ht⟩
end
end Bo

namespace Bo
open PySem L2 PyProof.Rows
structure CalM (P : Program) (w : World) (K : PySem.W.Frag) (mg : Str → Option Value) (base : Heap) (CX : CXT) (k : Nat) (C : Addr) (m : Str) (ps : List Str) (sp : Sp) : Prop where
  ex : ∃ (f : Addr) (fd : FuncData), FnOk P w K mg base CX k f fd ps sp ∧ Meth K C m f ∧ Binds K fd ps []
section
variable {X : Cx} {CX : CXT} {k : Nat} {C : Addr} {m : Str} {ps : List Str} {sp : Sp} {E : XK} {o e : Expr} {es : List Expr} {ta : TE} {t : TA} {pos apos : Pos}
theorem calM {pl : Sem Bool} (M : CalM X.prog X.w X.K X.mg X.base CX k C m ps sp) (he : PE X o ta) (c : Cls X.K C) (hr : Room k X.A) (hx : Passes CX X E) (ha : PA X (e :: es) t)
    (hst : starEach (e :: es) X.env = (false, eval e X.env) :: starEach es X.env := by rfl) (hpl : (backTo pos (starEach es X.env)).any (·.1) = false := by rfl)
    (ht : eval (.Call (.Attribute o m apos) (e :: es) [] pos) X.env = (do
      let ov ← eval o X.env
      standAt apos.atName
      let (f, first) ← holding [ov] (getMethod ov m pl)
      callWith pos f first (backTo pos (starEach (e :: es) X.env)) (backToKw pos (keywordEach [] X.env))) := by rfl) :
    PE X (.Call (.Attribute o m apos) (e :: es) [] pos) (tMeth C m sp [] E ta t) := by
  obtain ⟨f, fd, F, hm, b⟩ := M.ex
  exact pe_meth he c hm F hr b .nil hx ha hst hpl ht
theorem calM0 {pl : Sem Bool} (M : CalM X.prog X.w X.K X.mg X.base CX k C m ps sp) (he : PE X o ta) (c : Cls X.K C) (hr : Room k X.A) (hx : Passes CX X E)
    (ht : eval (.Call (.Attribute o m apos) [] [] pos) X.env = (do
      let ov ← eval o X.env
      standAt apos.atName
      let (f, first) ← holding [ov] (getMethod ov m pl)
      callWith pos f first (backTo pos (starEach [] X.env)) (backToKw pos (keywordEach [] X.env))) := by rfl) :
    PE X (.Call (.Attribute o m apos) [] [] pos) (tMeth C m sp [] E ta tNil) := by
  obtain ⟨f, fd, F, hm, b⟩ := M.ex
  exact pe_meth0 he c hm F hr b .nil hx ht
end
theorem split_heads (w : Tx) : (Txt.split (ofL w) (ofL [42, 40])).map V.str = (heads w).map strV := by
  have e : (Txt.split (ofL w) (ofL [42, 40])).map TL.tl = heads w := TL.split_spl (ofL w) (ofL [42, 40]) (by rw [tl_ofL]; simp) (TL.kind_ok (by simp [ofL]))
  rw [← e, List.map_map]
  refine List.map_congr_left fun x _ => ?_
  show V.str x = V.str (ofL (TL.tl x))
  rw [ofL_tl]
theorem cut_dl (xs : List V) : cutV xs none (some (-1)) = xs.dropLast := by
  unfold cutV
  have e1 : HT.sIx xs.length xs.length (some (-1)) = xs.length - 1 := by
    show (if (-1 : Int) < 0 then ((-1 : Int) + (xs.length : Int)).toNat else min (-1 : Int).toNat xs.length) = xs.length - 1
    rw [if_pos (by decide)]
    omega
  rw [e1]
  show (xs.drop 0).take (xs.length - 1 - 0) = xs.dropLast
  rw [List.drop_zero, Nat.sub_zero, List.dropLast_eq_take]
theorem rstrip_core (l : Tx) : Txt.rstripChars (ofL l) (ofL [41]) = ofL (coreOf l) := by
  refine TL.ext_tl ?_
  unfold Txt.rstripChars
  rw [PyProof.Rows.stripBy_eq]
  show ((PySem.Builtin.Str.strSub (ofL l) (stripLo _ false (ofL l)) (stripHi _ true (ofL l) (stripLo _ false (ofL l)))).cps.toList) = coreOf l
  rw [PySem.StrLaws.strSub_toList]
  have e0 : stripLo (ofL [41]).cps.contains false (ofL l) = 0 := rfl
  rw [e0]
  have ep : (ofL [41]).cps.contains = (fun c : Nat => c == 41) := by
    funext c
    simp [ofL]
    rfl
  rw [ep]
  have e1 : stripHi (fun c : Nat => c == 41) true (ofL l) 0 = l.length - (l.reverse.takeWhile (· == 41)).length := by
    show (ofL l).length - (((ofL l).cps.toList.drop 0).reverse.takeWhile (· == 41)).length = _
    rw [ofL_len]
    rfl
  rw [e1]
  show (l.drop 0).take (l.length - (l.reverse.takeWhile (· == 41)).length - 0) = coreOf l
  rw [List.drop_zero, Nat.sub_zero]
  unfold coreOf
  have h := List.takeWhile_append_dropWhile (p := fun c : Nat => c == 41) (l := l.reverse)
  generalize l.reverse.takeWhile (· == 41) = a at h ⊢
  generalize l.reverse.dropWhile (· == 41) = b at h ⊢
  have hl : l = b.reverse ++ a.reverse := by
    have := congrArg List.reverse h
    rw [List.reverse_append, List.reverse_reverse] at this
    exact this.symm
  rw [hl]
  have e2 : (b.reverse ++ a.reverse).length - a.length = b.reverse.length := by
    rw [List.length_append, List.length_reverse, List.length_reverse]
    omega
  rw [e2, List.take_left]
theorem begins_app : ∀ (a b : List Tx) (S : RS), begins S (a ++ b) = match begins S a with | none => none | some S1 => begins S1 b
  | [], b, S => rfl
  | h :: r, b, S => by
    show (match numOf h with | none => none | some n => begins (beginS n S) (r ++ b)) = match (match numOf h with | none => none | some n => begins (beginS n S) r) with | none => none | some S1 => begins S1 b
    cases numOf h with
    | none => rfl
    | some n => exact begins_app r b (beginS n S)
theorem closes_succ : ∀ (a : Nat) (S : RS), closes (a + 1) S = match closes a S with | none => none | some S' => closeS S'
  | 0, S => by
    show (match closeS S with | none => none | some S' => closes 0 S') = closeS S
    cases closeS S <;> rfl
  | a + 1, S => by
    show (match closeS S with | none => none | some S' => closes (a + 1) S') = match (match closeS S with | none => none | some S' => closes a S') with | none => none | some S' => closeS S'
    cases closeS S with
    | none => rfl
    | some S1 => exact closes_succ a S1
theorem close_sz {S S' : RS} (h : closeS S = some S') : S'.sz ≤ S.sz := by
  obtain ⟨rest, top⟩ := S
  cases rest with
  | nil => cases h
  | cons f rest =>
    obtain ⟨n, par⟩ := f
    have e : (⟨rest, par ++ [agInf n top]⟩ : RS) = S' := Option.some.inj h
    subst e
    show (par ++ [agInf n top]).length + szF rest ≤ top.length + ((par.length + 1) + szF rest)
    rw [List.length_append, List.length_singleton]
    omega
theorem flat_take : ∀ (j : Nat) (hs : List Tx), ((hs.take j).map fun h => h ++ [42, 40]).flatten.length ≤ (hs.map fun h => h ++ [42, 40]).flatten.length
  | 0, hs => by simp
  | j + 1, [] => by simp
  | j + 1, h :: r => by
    have ih := flat_take j r
    simp only [List.take_succ_cons, List.map_cons, List.flatten_cons, List.length_append]
    omega
def spTake (C : Addr) : Sp := fun vs H Q _ => ∃ (H0 : Hp) (r : Addr) (S : RS) (w : Tx), vs = [.ref r, strV w] ∧ StAt C [] H0 H r S ∧ okS S ∧ S.tx.length + w.length ≤ 500 ∧ (takeS S w = none → ∀ H', Same H0 H' → Q (.bl false) H') ∧ ∀ S', takeS S w = some S' → ∀ H', StAt C [] H0 H' r S' → Q (.bl true) H'
section
variable {P : Program} {w : World} {K : PySem.W.Frag} {mg : Str → Option Value} {base : Heap} {C : Addr}
abbrev CStrIn (P : Program) (w : World) (K : PySem.W.Frag) (mg : Str → Option Value) (base : Heap) : Prop := Cal P w K mg base CX0 3 "stretch_in" ["word"] spStrIn
/-- the closing brackets: each is tried -/
theorem take_closes {E : List Addr} {H1 H : Hp} {r D : Addr} {Sa : RS} {n : Nat} {σ : L2.St} {Q : Hp → Prop} {i : Nat} (c : StAt C E H1 H r Sa) (hok : okS Sa) (hz : Sa.sz ≤ 1000) (hD : H D = none) (hn : n ≤ 1000) (hself : ∀ x, ((wipe σ [i]).set i x)[0]? = some (some (.ref r)))
    (hw : ∀ x, wipe ((wipe σ [i]).set i x) [i] = wipe σ [i])
    (hcl : ∀ (H' : Hp), StAt C E H1 H' r Sa → True)
    (hlook : ∀ lo lt, (rf lo lt).lookup ("close" : Str) = none)
    (qd : ∀ (bs : List Bool) (H' : Hp), H' D = some (.lst (bs.map V.bl)) → ((bs.all id = true ∧ ∃ S', closes n Sa = some S' ∧ StAt C E (upd H1 D (.lst (bs.map V.bl))) H' r S') ∨ (bs.all id = false ∧ closes n Sa = none ∧ ∃ S', StAt C E (upd H1 D (.lst (bs.map V.bl))) H' r S')) → Q H') :
    ∃ W : Nat → Nat → Hp → Prop, (∃ m, W 0 m (upd H D (.lst []))) ∧ ∀ i' m H, W i' m H →
      ((Itr 0 n).stop i' H ∧ Q H) ∨ ((Itr 0 n).go i' H ∧ ∃ Nx : Hp → Prop, (∀ H', Nx H' → ∃ m', m' < m ∧ W (i' + 1) m' H') ∧ ∀ x H', (Itr 0 n).yld i' H x H' → gName i x (wipe σ [i]) H' fun σ2 H2 => wipe σ2 [i] = wipe σ [i] ∧ tYes σ2 H2 fun b H3 =>
        if b = true then tMeth C "close" (spClose C) [] E0 (tVar 0) tNil σ2 H3 fun y H4 => ∃ acc, H4 D = some (.lst acc) ∧ acc.length < sizeLine ∧ Nx (upd H4 D (.lst (acc ++ [y]))) else Nx H3) := by
  refine lc_range (fun j H' => ∃ (bs : List Bool) (Sj : RS), bs.length = j ∧ StAt C (D :: E) (upd H1 D (.lst (bs.map V.bl))) H' r Sj ∧ okS Sj ∧ Sj.sz ≤ 1000 ∧ ((bs.all id = true ∧ closes j Sa = some Sj) ∨ (bs.all id = false ∧ closeS Sj = none ∧ ∀ k, j ≤ k → closes k Sa = none)))
    ⟨[], Sa, rfl, c.beside hD, hok, hz, .inl ⟨rfl, rfl⟩⟩ (fun j H' hj z => ?_) (fun H' z => ?_)
  · obtain ⟨bs, Sj, hl, cj, okj, szj, alt⟩ := z
    have next : ∀ {b : Bool} {S' : RS} {H2 : Hp}, StAt C (D :: E) (upd H1 D (.lst (bs.map V.bl))) H2 r S' → H2 D = some (.lst (bs.map V.bl)) ∧ (bs.map V.bl).length < sizeLine ∧ StAt C (D :: E) (upd H1 D (.lst ((bs ++ [b]).map V.bl))) (upd H2 D (.lst (bs.map V.bl ++ [.bl b]))) r S' := fun {b S' H2} c2 => by
      refine ⟨c2.same _ _ upd_same, by rw [List.length_map]; exact Nat.lt_of_le_of_lt (show bs.length ≤ 1000 by omega) (by decide), ?_⟩
      have c3 := c2.write (o' := .lst (bs.map V.bl ++ [.bl b])) upd_same (fun _ z => nomatch z) (fun _ _ _ z => nomatch z)
      rw [upd_upd] at c3
      rw [List.map_append]
      exact c3
    have inst : ∃ dx fs, H' r = some (.ins C dx fs) ∧ fs.lookup ("close" : Str) = none := by
      obtain ⟨dx, lo, lt, l, ls, cc⟩ := cj
      exact ⟨dx, _, cc.hr, hlook lo lt⟩
    obtain ⟨dx, fs, hr, hlk⟩ := inst
    refine ⟨hw _, _, hself _, r, dx, fs, rfl, hr, hlk, D :: E, _, r, Sj, rfl, cj, okj, szj, fun hn2 H2 c2 => ?_, fun S' hs H2 c2 => ?_⟩
    · obtain ⟨n1, n2, n3⟩ := next (b := false) c2
      refine ⟨_, n1, n2, bs ++ [false], Sj, by rw [List.length_append, hl]; rfl, n3, okj, szj, .inr ⟨by rw [List.all_append]; simp, hn2, fun k hk => ?_⟩⟩
      rcases alt with ⟨_, a2⟩ | ⟨_, _, a3⟩
      · have base1 : closes (j + 1) Sa = none := by
          rw [closes_succ, a2]
          exact hn2
        have up : ∀ d, closes (j + 1 + d) Sa = none := by
          intro d
          induction d with
          | zero => exact base1
          | succ d ih =>
            show closes ((j + 1 + d) + 1) Sa = none
            rw [closes_succ, ih]
        have := up (k - (j + 1))
        rwa [show j + 1 + (k - (j + 1)) = k by omega] at this
      · exact a3 k (by omega)
    · rcases alt with ⟨a1, a2⟩ | ⟨_, a2, _⟩
      · obtain ⟨n1, n2, n3⟩ := next (b := true) c2
        refine ⟨_, n1, n2, bs ++ [true], S', by rw [List.length_append, hl]; rfl, n3, okS_close okj hs, Nat.le_trans (close_sz hs) szj, .inl ⟨by rw [List.all_append, a1]; rfl, ?_⟩⟩
        rw [closes_succ, a2]
        exact hs
      · rw [a2] at hs
        cases hs
  · obtain ⟨bs, Sj, hl, cj, okj, szj, alt⟩ := z
    refine qd bs H' (cj.same _ _ upd_same) ?_
    rcases alt with ⟨a1, a2⟩ | ⟨a1, a2, a3⟩
    · exact .inl ⟨a1, Sj, a2, cj.drop⟩
    · exact .inr ⟨a1, a3 n (Nat.le_refl _), Sj, cj.drop⟩
end
end Bo

namespace Bo
open PySem L2 PyProof.Rows
theorem last_at (w : Tx) : atI ((heads w).map strV) (-1) = some (strV (lastOf w)) := by
  have hne : heads w ≠ [] := spl_ne _ _ _ _
  have e : heads w = (heads w).dropLast ++ [lastOf w] := by
    unfold lastOf
    rw [List.getLastD_eq_getLast?]
    generalize heads w = hs at hne ⊢
    obtain ⟨r, c, rfl⟩ : ∃ r c, hs = r ++ [c] := ⟨hs.dropLast, hs.getLast hne, (List.dropLast_concat_getLast hne).symm⟩
    simp
  rw [e, List.map_append]
  exact atI_last _ _
theorem flat_heads (w : Tx) : ((heads w).dropLast.map fun h => h ++ [42, 40]).flatten.length + (lastOf w).length = w.length := by
  have h := congrArg List.length (heads_back w)
  rw [List.length_append] at h
  exact h
theorem core_len (l : Tx) : (coreOf l).length ≤ l.length := by
  have h := congrArg List.length (core_eq l)
  rw [List.length_append] at h
  omega
theorem head_len {w g : Tx} (h : g ∈ (heads w).dropLast) : g.length ≤ w.length := by
  have h1 := flat_heads w
  have key : ∀ (ts : List Tx), g ∈ ts → g.length ≤ (ts.map fun h => h ++ [42, 40]).flatten.length := by
    intro ts
    induction ts with
    | nil => intro z; cases z
    | cons t r ih =>
      intro z
      simp only [List.map_cons, List.flatten_cons, List.length_append]
      rcases List.mem_cons.mp z with rfl | z
      · omega
      · have := ih z
        omega
  have := key _ h
  omega
theorem heads_count (w : Tx) : (heads w).length ≤ w.length + 1 := by
  have h1 := flat_heads w
  have hne : heads w ≠ [] := spl_ne _ _ _ _
  have key : ∀ (ts : List Tx), ts.length ≤ (ts.map fun h => h ++ [42, 40]).flatten.length := by
    intro ts
    induction ts with
    | nil => simp
    | cons t r ih =>
      simp only [List.map_cons, List.flatten_cons, List.length_append, List.length_cons]
      omega
  have := key (heads w).dropLast
  rw [List.length_dropLast] at this
  omega
theorem close_no (lo lt : Addr) : (rf lo lt).lookup ("close" : Str) = none := rf_no lo lt (by decide +kernel) (by decide +kernel)
theorem begin_no (lo lt : Addr) : (rf lo lt).lookup ("begin" : Str) = none := rf_no lo lt (by decide +kernel) (by decide +kernel)
theorem take_no (lo lt : Addr) : (rf lo lt).lookup ("take" : Str) = none := rf_no lo lt (by decide +kernel) (by decide +kernel)
section
variable {P : Program} {w : World} {K : PySem.W.Frag} {mg : Str → Option Value} {base : Heap} {C : Addr}
theorem scTake : FnScope ["self", "word", "heads", "head", "core", "said", "ends", "end"] ["self", "word"] (defScope sTake) := ⟨rfl, rfl, rfl, by decide +kernel, rfl, by decide +kernel, by decide +kernel⟩
theorem ok_take {f : Addr} {fd : FuncData} (F : Fun K "take" "Reader.take" sTake f fd) (T : RT K mg C) (B : Bi mg) (N : CNumIn P w K mg base) (SI : CStrIn P w K mg base)
    (MB : CalM P w K mg base CX0 1 C "begin" ["self", "many"] (spBegin C)) (MC : CalM P w K mg base CX0 1 C "close" ["self"] (spClose C)) : FnOk P w K mg base CX0 4 f fd ["self", "word"] (spTake C) := by
  refine F.ok scTake (fun vs H Q E h => ?_) (fun cdv A outer s H vs Q E hr h => ?_)
  · obtain ⟨H0, r, S, wd, rfl, _⟩ := h
    rfl
  obtain ⟨H0, r, S, wd, rfl, c, hok, hz, qn, qs⟩ := h
  have hr1 := hr.mono (show 1 ≤ 3 by decide)
  refine ⟨_, pss_cons (ps_set (i := 2) scTake.nd rfl (Or.inl rfl) (pe_split (pv 1) pe_str))
    (pss_cons (ps_for PassesOwn.never rfl (pi_list (pe_slice sl_list (pv 2) po_none (po_some (pe_un un_neg pe_int)))) (pg_name (i := 3) scTake.nd rfl (Or.inl rfl))
      (pss_cons (ps_if (pt_cmpR op_isN (cal N hr1 pass0 (pa_cons (pv 3) pa_nil)) pe_non (nomark _)) (pss_one (ps_ret pe_bl)) pss_nil)
      (pss_one (ps_expr (calM MB (pv 0) T.cl hr1 pass0 (pa_cons (cal N hr1 pass0 (pa_cons (pv 3) pa_nil)) pa_nil))))))
    (pss_cons (ps_set (i := 4) scTake.nd rfl (Or.inl rfl) (pe_m1 PySem.F.slot_str_rstrip PySem.F.type_str_rstrip mt_rstripChars (pe_ix ix_list (pv 2) (pe_un un_neg pe_int) (fun _ _ => rfl)) pe_str))
    (pss_cons (ps_set (i := 5) scTake.nd rfl (Or.inl rfl) (cal SI hr pass0 (pa_cons (pv 4) pa_nil)))
    (pss_cons (ps_set (i := 6) scTake.nd rfl (Or.inl rfl) (pe_op op_sub (pe_callB call_len_str (by rfl) B.len PySem.boot_len (pa_cons (pe_ix ix_list (pv 2) (pe_un un_neg pe_int) (fun _ _ => rfl)) pa_nil)) (pe_callB call_len_str (by rfl) B.len PySem.boot_len (pa_cons (pv 4) pa_nil))))
    (pss_cons (ps_if (PW.pt (pw_and (pt_cmpR op_isN (pv 5) pe_non (nomark _)) (pw_and1 (PW.pt (pw_or (pt_cmpR op_ne (pv 4) pe_str (nomark _)) (pw_or (pt_cmpR op_eq (pe_callB call_len_seq (by rfl) B.len PySem.boot_len (pa_cons (pv 2) pa_nil)) pe_int (nomark _)) (pw_or1 (pt_cmpR op_eq (pv 6) pe_int (nomark _))))))))) (pss_one (ps_ret pe_bl)) pss_nil)
    (pss_cons (ps_if (pt_cmpR op_notN (pv 5) pe_non (nomark _)) (pss_one (ps_expr (pe_bm PySem.F.plainAttrs_list PySem.F.slot_list_append PySem.F.type_list_append mt_append (pe_ix ix_list (pe_fld (pv 0) rfl) (pe_un un_neg pe_int) (fun _ _ => rfl)) (pa_cons (pv 5) pa_nil)))) pss_nil)
    (pss_one (ps_ret (pe_callB (cr_all rfl) (by rfl) B.all boot_all (pa_cons (pe_lc (own := [("end", 7)]) (g := gName 7) (tt := tYes) (te := tMeth C "close" (spClose C) [] E0 (tVar 0) tNil) rfl scTake.nd (pi_range1 (by rfl) B.range (pa_cons (pv 6) pa_nil)) (blkOk_by (N := ["self", "word", "heads", "head", "core", "said", "ends", "end"]) (sc := defScope sTake) (by decide +kernel))
      (fun _ _ _ _ _ => pg_name (i := 7) scTake.nd rfl (Or.inl rfl)) (fun _ _ _ _ _ => pts_nil) (fun _ _ _ _ _ => calM0 MC (pv 0) T.cl hr1 pass0)) pa_nil)))))))))), ?_⟩
  have hcnt := heads_count wd
  have hfl := flat_heads wd
  have hcl := core_len (lastOf wd)
  have sl : ∀ {n : Nat}, n ≤ 600 → n ≤ sizeLine := fun h => small (by omega)
  refine ⟨_, rfl, ⟨_, rfl⟩, ofL wd, _, rfl, rfl, (by rw [show (Str.ofString "*(" : Str) = ofL [42, 40] by decide +kernel]; rfl), (by rw [ofL_len]; exact sl (by omega)), fun h hh => ?_⟩
  rw [show (Str.ofString "*(" : Str) = ofL [42, 40] by decide +kernel, split_heads]
  have c1 := c.beside (o := .lst ((heads wd).map strV)) hh
  have z1 : H0 h = none := c.same.free hh
  have sb1 : Same H0 (upd H0 h (.lst ((heads wd).map strV))) := same_new z1 _
  generalize upd H h (.lst ((heads wd).map strV)) = H1 at c1 ⊢
  have hh1 : H1 h = some (.lst ((heads wd).map strV)) := c1.same _ _ upd_same
  refine ⟨_, rfl, 1, rfl, -1, rfl, h, _, rfl, SqL.of hh1, fun a ha => ⟨a, rfl, ⟨_, SqL.of upd_same⟩, ?_⟩⟩
  rw [cut_dl, ← List.map_dropLast]
  have c2 := c1.beside (o := .lst ((heads wd).dropLast.map strV)) ha
  have z2 : upd H0 h (.lst ((heads wd).map strV)) a = none := c1.same.free ha
  have sb2 := sb1.trans (same_new z2 (.lst ((heads wd).dropLast.map strV)))
  have ba : upd (upd H0 h (.lst ((heads wd).map strV))) a (.lst ((heads wd).dropLast.map strV)) a = some (.lst ((heads wd).dropLast.map strV)) := upd_same
  have bh : upd (upd H0 h (.lst ((heads wd).map strV))) a (.lst ((heads wd).dropLast.map strV)) h = some (.lst ((heads wd).map strV)) := by
    rw [upd_ne fun z => ?_, upd_same]
    rw [← z, upd_same] at z2
    cases z2
  generalize upd H1 a (.lst ((heads wd).dropLast.map strV)) = H2 at c2 ⊢
  generalize upd (upd H0 h (.lst ((heads wd).map strV))) a (.lst ((heads wd).dropLast.map strV)) = Bs at c2 ba bh sb2
  -- what is left of the sizes along the heads
  have size_of : ∀ {j : Nat} {Sj : RS}, begins S ((heads wd).dropLast.take j) = some Sj → Sj.sz ≤ 500 := fun {j Sj} hb => by
    have h1 := (begins_tx hb).1
    have h2 := flat_take j (heads wd).dropLast
    have h3 := sz_le Sj
    have h4 := congrArg List.length h1
    rw [List.length_append] at h4
    omega
  refine for_list (xs := (heads wd).dropLast.map strV) (fun j σ H' => ∃ Sj x, begins S ((heads wd).dropLast.take j) = some Sj ∧ StAt C [a, h] Bs H' r Sj ∧ okS Sj ∧ σ = [some (.ref r), some (strV wd), some (.ref h), x, none, none, none, none])
    ⟨S, none, rfl, c2, hok, rfl⟩ (fun j σ H' _ z => ?_) (fun j v σ H' hv z => ?_) (fun σ H' z => ?_)
  · obtain ⟨Sj, x, _, cj, _⟩ := z
    exact SqL.of (cj.same _ _ ba)
  · obtain ⟨Sj, x, hb, cj, okj, rfl⟩ := z
    rw [List.getElem?_map] at hv
    obtain ⟨g, hg, rfl⟩ := Option.map_eq_some_iff.mp hv
    have hgl := head_len (List.mem_of_getElem? hg)
    obtain ⟨hj, eg⟩ := List.getElem?_eq_some_iff.mp hg
    have tk : (heads wd).dropLast.take (j + 1) = (heads wd).dropLast.take j ++ [g] := by rw [List.take_succ_eq_append_getElem hj, eg]
    refine ⟨_, rfl, g, rfl, by omega, fun H3 s3 => ⟨rfl, _, rfl, ?_⟩⟩
    cases hn : numOf g with
    | none =>
      have ht : takeS S wd = none := by
        unfold takeS
        have hd : begins S (heads wd).dropLast = none := by
          rw [← List.take_append_drop (j + 1) (heads wd).dropLast, tk, List.append_assoc, begins_app, hb]
          show begins Sj (g :: _) = none
          unfold begins
          rw [hn]
        rw [hd]
      exact iteT (qn ht H3 (sb2.trans (cj.sameTo s3).same))
    | some n =>
      have c3 := cj.sameTo s3
      have inst : ∃ dx fs, H3 r = some (.ins C dx fs) ∧ fs.lookup ("begin" : Str) = none := by
        obtain ⟨dx, lo, lt, l, ls, cc⟩ := c3
        exact ⟨dx, _, cc.hr, begin_no lo lt⟩
      obtain ⟨dx, fs, hri, hlk⟩ := inst
      refine iteF ⟨_, rfl, r, dx, fs, rfl, hri, hlk, _, rfl, g, rfl, by omega, fun H4 s4 => ?_⟩
      rw [hn]
      refine ⟨[a, h], Bs, r, Sj, n, rfl, c3.sameTo s4, Nat.le_trans (size_of hb) (by decide), fun H5 c5 => ⟨beginS n Sj, some (strV g), ?_, c5, okS_begin okj (numOf_some hn).1, rfl⟩⟩
      rw [tk, begins_app, hb]
      show begins Sj [g] = _
      unfold begins
      rw [hn]
      rfl
  · obtain ⟨S1, x, hb, c3, ok1, rfl⟩ := z
    rw [List.length_map, List.take_length] at hb
    have sz1 : S1.sz ≤ 500 := size_of (j := (heads wd).dropLast.length) (by rw [List.take_length]; exact hb)
    have tx1 : S1.tx.length + (lastOf wd).length ≤ 500 := by
      have h1 := congrArg List.length (begins_tx hb).1
      rw [List.length_append] at h1
      omega
    have hL : ∀ {H'}, StAt C [a, h] Bs H' r S1 → H' h = some (.lst ((heads wd).map strV)) := fun c => c.same _ _ bh
    have zl : (ofL (lastOf wd)).length ≤ sizeLine := by
      rw [ofL_len]
      exact sl (by omega)
    refine ⟨_, rfl, 1, rfl, h, _, -1, strV (lastOf wd), rfl, rfl, SqL.of (hL c3), last_at wd, ⟨_, rfl⟩, ofL (lastOf wd), _, rfl, rfl, zl, ?_⟩
    rw [show (Str.ofString ")" : Str) = ofL [41] by decide +kernel, rstrip_core]
    -- the agains end
    have fin : ∀ (Sa : RS) (H' : Hp) (sd : V), StAt C [a, h] Bs H' r Sa → okS Sa → Sa.sz ≤ 1000 → takeS S wd = closes ((lastOf wd).length - (coreOf (lastOf wd)).length) Sa →
        tRet (tCB (rAll K) (tCons (tLc (iRng1 (tCons (tVar 6) tNil)) (gName 7) tYes (tMeth C "close" (spClose C) [] E0 (tVar 0) tNil) (List.map (·.2) [(("end" : Str), 7)])) tNil)) { nx := fun _ H' => Q .non H', rt := Q }
          [some (.ref r), some (strV wd), some (.ref h), x, some (strV (coreOf (lastOf wd))), some sd, some (.int (((ofL (lastOf wd)).length : Int) - ((ofL (coreOf (lastOf wd))).length : Int))), none] H' := by
      intro Sa H' sd ca oka sza ht
      refine ⟨_, rfl, _, rfl, by rw [ofL_len, ofL_len]; omega, by rw [ofL_len, ofL_len]; omega, fun D hD => ?_⟩
      rw [ofL_len, ofL_len, show (((lastOf wd).length : Int) - ((coreOf (lastOf wd)).length : Int)).toNat = (lastOf wd).length - (coreOf (lastOf wd)).length by omega]
      have zD : Bs D = none := ca.same.free hD
      have sD : ∀ o, Same H0 (upd Bs D o) := fun o => sb2.trans (same_new zD o)
      refine take_closes (i := 7) ca oka sza hD (by omega) (fun _ => rfl) (fun _ => rfl) (fun _ _ => trivial) close_no (fun bs H5 hD5 alt => ?_)
      refine ⟨D, bs, rfl, SqL.of hD5, ?_⟩
      rcases alt with ⟨b1, S', b2, b3⟩ | ⟨b1, b2, S', b3⟩
      · rw [b1]
        exact qs S' (by rw [ht]; exact b2) H5 ((b3.drop.drop).base (sD _))
      · rw [b1]
        exact qn (by rw [ht]; exact b2) H5 ((sD _).trans b3.same)
    have hcl600 : (coreOf (lastOf wd)).length ≤ 600 := by omega
    have zc : (ofL (coreOf (lastOf wd))).length ≤ sizeLine := by
      rw [ofL_len]
      exact sl hcl600
    refine ⟨_, rfl, coreOf (lastOf wd), rfl, hcl600, fun hs H4 s4 => ?_, fun p hs d H4 s4 hd => ?_⟩
    · have c4 := c3.sameTo s4
      refine ⟨_, rfl, 1, rfl, h, _, -1, strV (lastOf wd), rfl, rfl, SqL.of (hL c4), last_at wd, ofL (lastOf wd), rfl, zl, _, rfl, ofL (coreOf (lastOf wd)), rfl, zc, _, _, rfl, rfl, ?_⟩
      refine ⟨_, rfl, rfl, _, rfl, iteT ?_⟩
      have tS : takeS S wd = if coreOf (lastOf wd) ≠ [] ∨ (heads wd).length = 1 ∨ (lastOf wd).length - (coreOf (lastOf wd)).length = 0 then none else closes ((lastOf wd).length - (coreOf (lastOf wd)).length) S1 := by
        unfold takeS
        rw [hb]
        simp only [hs]
      have no : (coreOf (lastOf wd) ≠ [] ∨ (heads wd).length = 1 ∨ (lastOf wd).length - (coreOf (lastOf wd)).length = 0) → Q (.bl false) H4 := fun z => qn (by rw [tS, if_pos z]) H4 (sb2.trans c4.same)
      refine ⟨_, rfl, rfl, _, rfl, ?_⟩
      rw [show (Str.ofString "" : Str) = ofL [] by decide +kernel, ofL_dec]
      by_cases k1 : coreOf (lastOf wd) = []
      · rw [decide_eq_true k1]
        refine iteF ⟨_, rfl, h, _, rfl, .inl (SqL.of (hL c4)), rfl, _, rfl, ?_⟩
        rw [List.length_map]
        by_cases k2 : (heads wd).length = 1
        · rw [show decide (V.int ((heads wd).length : Int) = V.int 1) = true by rw [k2]; rfl]
          exact iteT (iteT (no (.inr (.inl k2))))
        · rw [show decide (V.int ((heads wd).length : Int) = V.int 1) = false from decide_eq_false fun z => k2 (by have := V.int.inj z; omega)]
          refine iteF ⟨_, rfl, rfl, _, rfl, ?_⟩
          rw [ofL_len, ofL_len]
          by_cases k3 : (lastOf wd).length - (coreOf (lastOf wd)).length = 0
          · rw [show decide (V.int (((lastOf wd).length : Int) - ((coreOf (lastOf wd)).length : Int)) = V.int 0) = true from decide_eq_true (by congr 1; omega)]
            exact iteT (no (.inr (.inr k3)))
          · rw [show decide (V.int (((lastOf wd).length : Int) - ((coreOf (lastOf wd)).length : Int)) = V.int 0) = false from decide_eq_false fun z => k3 (by have := V.int.inj z; omega)]
            refine iteF ⟨_, rfl, rfl, _, rfl, iteF ?_⟩
            have key := fin S1 H4 .non c4 ok1 (by omega) (by rw [tS, if_neg]; rintro (z | z | z); exact z k1; exact k2 z; exact k3 z)
            rw [ofL_len, ofL_len] at key
            exact key
      · rw [decide_eq_false k1]
        exact iteT (iteT (no (.inl k1)))
    · have c4 := c3.sameTo s4
      have okp := (sayOf_some hs).1
      refine ⟨_, rfl, 1, rfl, h, _, -1, strV (lastOf wd), rfl, rfl, SqL.of (hL c4), last_at wd, ofL (lastOf wd), rfl, zl, _, rfl, ofL (coreOf (lastOf wd)), rfl, zc, _, _, rfl, rfl, ?_⟩
      refine ⟨_, rfl, rfl, _, rfl, iteF (iteF ?_)⟩
      refine ⟨_, rfl, rfl, _, rfl, iteT ?_⟩
      obtain ⟨dx, lo, lt, l, ls, cc⟩ := c4
      obtain ⟨xs, hx⟩ := cc.open_at (b := l) (by simp)
      have nl : xs.length ≤ 1000 := by
        obtain ⟨zs, hz1, hz2⟩ := cc.top
        rw [hx] at hz1
        have e : xs = zs := by injection hz1 with hz1; injection hz1
        subst e
        have h1 := Paired.length hz2
        have h2 := (sz_rest S1).2
        omega
      refine ⟨_, rfl, r, C, dx, _, _, rfl, cc.hr, T.cl, T.nO, rf_open _ _, 1, rfl, lo, _, -1, .ref l, rfl, rfl, SqL.of cc.ho, ix_ref l ls, .inl ⟨rfl, _, SqL.of hx⟩, _, rfl, l, xs, _, rfl, rfl, hx, Nat.lt_of_le_of_lt nl (by decide), ?_⟩
      have ca := cc.add hx (.say (F := [a, h] ++ lo :: lt :: l :: ls) hd okp)
      refine fin (addS S1 [sayInf p]) _ (.ref d) ⟨dx, lo, lt, l, ls, ca⟩ (okS_add ok1 (okI_say p)) ?_ ?_
      · show (S1.top ++ [sayInf p]).length + szF S1.rest ≤ 1000
        have : S1.top.length + szF S1.rest ≤ 500 := sz1
        rw [List.length_append, List.length_singleton]
        omega
      · unfold takeS
        rw [hb]
        simp only [hs]
end
end Bo

namespace Bo
open PySem L2 PyProof.Rows
/-! ### NoText -/
/-- what the written part says of NoText, at C, and of BoastError, at Bc -/
structure NT (K : PySem.W.Frag) (mg : Str → Option Value) (C Bc : Addr) : Prop where
  ox : OexC K C
  mC : mg "NoText" = some (.ref C)
  mB : mg "BoastError" = some (.ref Bc)
  no : PySem.W.findIn K (.ref C) "at" = some none
  g1 : PySem.W.specialIn K (.ref Bc) "__getattribute__" = some (some (.builtin "type.__getattribute__"))
  g2 : PySem.W.readsIn K Bc (.type "type") = true
  g3 : PySem.W.findCls K (.ref Bc) (.type "type") "__init__" = some (.val (.builtin "ValueError.__init__"))
section
variable {X : Cx} {e : Expr} {es : List Expr} {ta : TA} {p1 p2 pos : Pos}
/-- BoastError.__init__(self, ..) -/
theorem pe_bInit {pl : Sem Bool} {C Bc : Addr} (N : NT X.K X.mg C Bc) (hg : Gl X "BoastError") (ha : PA X (e :: es) ta)
    (hc : eval (.Call (.Attribute (.Name "BoastError" p1) "__init__" p2) (e :: es) [] pos) X.env = (do
      let ov ← eval (.Name "BoastError" p1) X.env
      standAt p2.atName
      let (f, first) ← holding [ov] (getMethod ov "__init__" pl)
      callWith pos f first (backTo pos (starEach (e :: es) X.env)) (backToKw pos (keywordEach [] X.env))) := by rfl)
    (he : starEach (e :: es) X.env = (false, eval e X.env) :: starEach es X.env := by rfl) (hpl : (backTo pos (starEach es X.env)).any (·.1) = false := by rfl) :
    PE X (.Call (.Attribute (.Name "BoastError" p1) "__init__" p2) (e :: es) [] pos) (tVeI X.K ta) := by
  refine ⟨fun pins s σ H Q I h => ?_⟩
  refine PySem.W.methodCall_KW (ld_glob I hg N.mB ?_ (by decide)) hc
  refine PySem.W.method_cls I.kIn N.g1 (PySem.W.cls_value I.kIn N.g2 N.g3 (by decide +kernel) ?_)
  show wpAny _ _ (callWith pos (Value.builtin "ValueError.__init__") [] (backTo pos (starEach (e :: es) X.env)) []) _ _ _
  refine PyProof.Rows.callWith_method1 (thn (ha.run pos pins _ σ H _ (I.tok _) h) fun us s1 ⟨vs, H1, I1, r1, a, C, ws, ev, hl, T, ea, q⟩ => ?_) he hpl
  subst ev
  cases r1 with
  | @cons _ u0 _ ur ra rw' =>
    obtain rfl : u0 = Value.ref a := ra
    have hlen : ur.length ≤ sizeLine := by
      rw [← Paired.length rw', sizeLine_eq]
      omega
    exact oinit_ok T I1 ea hlen fun s' J => ⟨.non, H1, J, rfl, q⟩
end
def atF (i : Int) : List (Str × V) := [(("at" : Str), V.int i)]
def spNT (C : Addr) : Sp := fun vs H Q _ => ∃ (a : Addr) (i : Int), vs = [.ref a, .int i] ∧ H a = some (exo a C none) ∧ ∀ d, H d = none → d ≠ a → Q .non (upd (upd H d (exd d (atF i))) a (exo a C (some d)))
section
variable {P : Program} {w : World} {K : PySem.W.Frag} {mg : Str → Option Value} {base : Heap} {C Bc : Addr}
theorem scNT : FnScope ["self", "at"] ["self", "at"] (defScope sNoText) := ⟨rfl, rfl, rfl, by decide +kernel, rfl, by decide +kernel, by decide +kernel⟩
theorem ok_nt {f : Addr} {fd : FuncData} (F : Fun K "__init__" "NoText.__init__" sNoText f fd) (N : NT K mg C Bc) : FnOk P w K mg base CX0 1 f fd ["self", "at"] (spNT C) := by
  refine F.ok scNT (fun vs H Q E h => ?_) (fun cdv A outer s H vs Q E hr h => ?_)
  · obtain ⟨a, i, rfl, _⟩ := h
    rfl
  obtain ⟨a, i, rfl, ha, q⟩ := h
  refine ⟨_, pss_cons (ps_expr (pe_bInit N (by rfl) (pa_cons (pv 0) (pa_cons pe_str pa_nil)))) (pss_one (ps_ost (pv 0) (pv 1))), ?_⟩
  refine ⟨_, rfl, a, C, _, rfl, by decide, N.ox, ha, ?_⟩
  exact ⟨_, rfl, _, rfl, a, C, rfl, N.ox, N.no, .inl ⟨ha, fun d hd hne => q d hd hne⟩⟩
/-- NoText, made -/
structure MkNT (P : Program) (w : World) (K : PySem.W.Frag) (mg : Str → Option Value) (base : Heap) (C Bc : Addr) : Prop where
  nt : NT K mg C Bc
  ex : ∃ (f : Addr) (fd : FuncData), FnOk P w K mg base CX0 1 f fd ["self", "at"] (spNT C) ∧ PySem.W.findIn K (.ref C) "__init__" = some (some (.ref f)) ∧ PySem.W.typeIn K (.ref f) = some (.type "function") ∧ Binds K fd ["self", "at"] []
end
theorem pmk_nt {X : Cx} {C Bc : Addr} {a : Expr} {te : TE} {p pos : Pos} (M : MkNT X.prog X.w X.K X.mg X.base C Bc) (hr : Room 2 X.A) (ha : PE X a te) (hg : Gl X "NoText" := by rfl)
    (he : starEach (a :: []) X.env = (false, eval a X.env) :: starEach [] X.env := by rfl) (hpl : (backTo pos (starEach [] X.env)).any (·.1) = false := by rfl) :
    PMk X (.Call (.Name "NoText" p) [a] [] pos) (tMkO C (spNT C) [] (tCons te tNil)) := by
  obtain ⟨f, fd, F, iC, tI, b⟩ := M.ex
  exact pmk_oex M.nt.ox iC tI F hr b .nil pass0 hg M.nt.mC (pa_cons ha pa_nil he) (by decide) he hpl
theorem nt_leaf {H1 : Hp} {Q : XK} {C : Addr} {i : Int} (q : ∀ d, H1 d = none → Q (.ref C) (some d) (upd H1 d (.xd (atF i)))) :
    [V.int i].length ≤ 1000 ∧ ∀ a, H1 a = none → spNT C (.ref a :: ([V.int i] ++ [])) (upd H1 a (exo a C none)) (fun v H2 => v = .non ∧ ∃ (d : Addr) (fs : List (Str × V)), H2 a = some (exo a C (some d)) ∧ H2 d = some (exd d fs) ∧ H1 d = none ∧ Q (.ref C) (some d) (upd (del H2 a) d (.xd fs))) (fun _ _ _ => False) := by
  refine ⟨(by show 1 ≤ 1000; decide), fun a ha => ⟨a, i, rfl, upd_same, fun d hd hne => ⟨rfl, d, atF i, upd_same, by rw [upd_ne hne, upd_same], ?_, ?_⟩⟩⟩
  · rw [upd_ne hne] at hd
    exact hd
  · have hd' : H1 d = none := by
      rw [upd_ne hne] at hd
      exact hd
    have e : upd (del (upd (upd (upd H1 a (exo a C none)) d (exd d (atF i))) a (exo a C (some d))) a) d (.xd (atF i)) = upd H1 d (.xd (atF i)) := by
      funext b
      by_cases h1 : b = d
      · rw [h1, upd_same, upd_same]
      · rw [upd_ne h1, upd_ne h1]
        by_cases h2 : b = a
        · rw [h2, del_same, ha]
        · rw [del_ne h2, upd_ne h2, upd_ne h1, upd_ne h2]
    rw [e]
    exact q d hd'
/-- enumerate of a list that stands -/
theorem for_enum {K : PySem.W.Frag} {a : Addr} {xs : List V} {g : TG} {tb : TS} {D : Ends} {σ : L2.St} {H : Hp} (Pv : Nat → L2.St → Hp → Prop) (h0 : Pv 0 σ H) (hl : ∀ i σ H, Pv i σ H → SqL K H a xs)
    (hs : ∀ (i : Nat) (x : V) (T : Addr) (σ : L2.St) (H : Hp), xs[i]? = some x → Pv i σ H → H T = none → g (.ref T) σ (upd H T (.tup [.int (i : Nat), x])) fun σ2 H2 => tb { D with nx := Pv (i + 1), ct := Pv (i + 1), bk := D.nx } σ2 H2) (hd : ∀ σ H, Pv xs.length σ H → D.nx σ H) :
    ∃ W : Nat → Nat → L2.St → Hp → Prop, (∃ m, W 0 m σ H) ∧ ∀ i m σ H, W i m σ H →
      ((Ite K a).stop i H ∧ D.nx σ H) ∨ ((Ite K a).go i H ∧ ∃ N : L2.St → Hp → Prop, (∀ σ' H', N σ' H' → ∃ m', m' < m ∧ W (i + 1) m' σ' H') ∧ ∀ x H', (Ite K a).yld i H x H' → g x σ H' fun σ2 H2 => tb { D with nx := N, ct := N, bk := D.nx } σ2 H2) := by
  refine ⟨fun i m σ H => m = xs.length - i ∧ i ≤ xs.length ∧ Pv i σ H, ⟨xs.length, rfl, Nat.zero_le _, h0⟩, ?_⟩
  rintro i m σ H ⟨rfl, hi, p⟩
  have q := hl i σ H p
  by_cases hlt : i < xs.length
  · have hx : xs[i]? = some xs[i] := List.getElem?_eq_getElem hlt
    refine .inr ⟨⟨xs, _, q, hx⟩, Pv (i + 1), fun σ' H' p' => ⟨xs.length - (i + 1), by omega, rfl, hlt, p'⟩, fun v H' y => ?_⟩
    obtain ⟨T, x', rfl, hT, rfl, f1⟩ := y
    exact hs i x' T σ H (f1 xs q) p hT
  · have e : i = xs.length := by omega
    subst e
    exact .inl ⟨⟨xs, q, Nat.le_refl _⟩, hd σ H p⟩
end Bo

namespace Bo
open PySem L2 PyProof.Rows
structure CalMk (P : Program) (w : World) (K : PySem.W.Frag) (mg : Str → Option Value) (base : Heap) (k : Nat) (C : Addr) (ps : List Str) (sp : Sp) : Prop where
  ex : ∃ (f : Addr) (fd : FuncData), FnOk P w K mg base CX0 k f fd ps sp ∧ Mk K C f ∧ Binds K fd ps []
theorem calMk0 {X : Cx} {k : Nat} {C : Addr} {x : Str} {ps : List Str} {sp : Sp} {p pos : Pos} (M : CalMk X.prog X.w X.K X.mg X.base k C ps sp) (hr : Room (k + 1) X.A) (hm : X.mg x = some (.ref C)) (hg : Gl X x := by rfl) (hdb : (x == ("__debug__" : Str)) = false := by decide) :
    PE X (.Call (.Name x p) [] [] pos) (tMake C sp [] E0 tNil) := by
  obtain ⟨f, fd, F, mk, b⟩ := M.ex
  exact pe_make0 mk F hr hg hm b .nil pass0 hdb
def spReadRow (NC : Addr) : Sp := fun vs H Q E => ∃ l : Tx, vs = [strV l] ∧ l.length ≤ 64 ∧
  (∀ is, readS l = .ok is → ∀ b xs H', Same H H' → H' b = some (.lst xs) → Paired (Itm H' []) xs is → Q (.ref b) H') ∧
  ∀ e, readS l = .error e → ∀ d H', Same H H' → H' d = some (.xd (atF (e : Nat))) → E (.ref NC) (some d) H'
theorem bl_join (is : List Inf) : (joinI is).length ≤ (bl is).length := by
  have h1 := join_len (is.map (·.t))
  have h2 := blanks_len (is.map (·.t))
  unfold joinI bl
  split at h1
  · rename_i h
    rw [h]
    decide
  · omega
theorem blanks_take : ∀ (j : Nat) (ts : List Tx), (blanks (ts.take j)).length ≤ (blanks ts).length
  | 0, ts => by simp [blanks]
  | j + 1, [] => by simp
  | j + 1, t :: r => by
    have ih := blanks_take j r
    rw [List.take_succ_cons, blanks_cons, blanks_cons]
    simp only [List.length_append]
    omega
theorem blanks_ws (l : Tx) : (blanks (wsOf l)).length ≤ l.length + 1 := by
  by_cases h : wsOf l = []
  · rw [h]
    simp [blanks]
  · rw [blanks_join h, join_ws, List.length_append, List.length_singleton]
    exact Nat.le_refl _
section
variable {P : Program} {w : World} {K : PySem.W.Frag} {mg : Str → Option Value} {base : Heap} {C NC Bc : Addr}
abbrev CWords (P : Program) (w : World) (K : PySem.W.Frag) (mg : Str → Option Value) (base : Heap) : Prop := Cal P w K mg base CX0 1 "words_in" ["text"] spWords
theorem scReadRow : FnScope ["text", "words", "reader", "at", "word", "row"] ["text"] (defScope sReadRow) := ⟨rfl, rfl, rfl, by decide +kernel, rfl, by decide +kernel, by decide +kernel⟩
theorem ok_readRow {f : Addr} {fd : FuncData} (F : Fun K "read_row" "read_row" sReadRow f fd) (B : Bi mg) (T : RT K mg C) (W : CWords P w K mg base) (MI : CalMk P w K mg base 1 C ["self"] (spInit C)) (MT : CalM P w K mg base CX0 4 C "take" ["self", "word"] (spTake C))
    (R : CRow P w K mg base) (L : CLong P w K mg base) (MN : MkNT P w K mg base NC Bc) : FnOk P w K mg base (L2.CX P w) 205 f fd ["text"] (spReadRow NC) := by
  refine F.okX scReadRow (fun vs H Q E h => ?_) (fun cdv A outer s H vs Q E hr h => ?_)
  · obtain ⟨l, rfl, _⟩ := h
    rfl
  obtain ⟨l, rfl, hl, qs, qe⟩ := h
  refine ⟨_, pss_cons (ps_set (i := 1) scReadRow.nd rfl (Or.inl rfl) (cal W (hr.mono (by decide)) pass0 (pa_cons (pv 0) pa_nil)))
    (pss_cons (ps_set (i := 2) scReadRow.nd rfl (Or.inl rfl) (calMk0 MI (hr.mono (by decide)) T.mgC))
    (pss_cons (ps_for (passes_of rfl) rfl (pi_enum (by rfl) B.enumerate (pa_cons (pv 1) pa_nil)) (pg_tup rfl (pgs_cons (pg_name (i := 3) scReadRow.nd rfl (Or.inl rfl)) (pgs_cons (pg_name (i := 4) scReadRow.nd rfl (Or.inl rfl)) pgs_nil)))
      (pss_one (ps_if (pt_not (pt_val (calM MT (pv 2) T.cl (hr.mono (by decide)) pass0 (pa_cons (pv 4) pa_nil)))) (pss_one (ps_raise rfl (takes_of rfl rfl rfl rfl) (pmk_nt MN (hr.mono (by decide)) (pv 3)))) pss_nil)))
    (pss_cons (ps_set (i := 5) scReadRow.nd rfl (Or.inl rfl) (pe_ix ix_list (pe_fld (pv 2) rfl) pe_int (fun _ _ => rfl)))
    (pss_cons (ps_if (PW.pt (pw_or (pt_cmpR (op_neD hr.units) (pe_fld (pv 2) rfl) (pe_lst pa_nil) (nomark _)) (pw_or1 (PW.pt (pw_and (pt_not (pt_val (cal R (hr.mono (by decide)) pass0 (pa_cons (pv 5) pa_nil)))) (pw_and1 (pt_not (pt_val (cal L hr pass0 (pa_cons (pv 5) pa_nil))))))))))
      (pss_one (ps_raise rfl (takes_of rfl rfl rfl rfl) (pmk_nt MN (hr.mono (by decide)) (pe_callB call_len_seq (by rfl) B.len PySem.boot_len (pa_cons (pv 1) pa_nil))))) pss_nil)
    (pss_one (ps_ret (pv 5))))))), ?_⟩
  refine ⟨_, rfl, l, rfl, by omega, fun wa Hw sw nw hw => ?_⟩
  refine fun r dx nr ndx nrd => ⟨Hw, r, dx, rfl, fun b u z => ?_, nr, upd_same, fun H1 c0 => ⟨rfl, ?_⟩⟩
  · rw [upd_ne (ne_of_none z nr), upd_ne (ne_of_none z ndx)]
    exact z
  have wsl : (wsOf l).length ≤ l.length + 1 := ws_count l
  refine ⟨_, rfl, wa, _, rfl, SqL.of (c0.same _ _ hw), ?_⟩
  refine for_enum (xs := (wsOf l).map strV) (fun j σ H' => ∃ Sj x y, readFrom 0 S0 (wsOf l) = readFrom j Sj ((wsOf l).drop j) ∧ StAt C [] Hw H' r Sj ∧ okS Sj ∧ Sj.tx = blanks ((wsOf l).take j) ∧ σ = [some (strV l), some (.ref wa), some (.ref r), x, y, none])
    ⟨S0, none, none, rfl, c0, ⟨fun i hi => (nomatch hi), fun f hf => (nomatch hf)⟩, rfl, rfl⟩ (fun j σ H' z => ?_) (fun j v Tt σ H' hv z hT => ?_) (fun σ H' z => ?_)
  · obtain ⟨Sj, x, y, _, cj, _⟩ := z
    exact SqL.of (cj.same _ _ hw)
  · obtain ⟨Sj, x, y, hrd, cj, okj, htx, rfl⟩ := z
    rw [List.getElem?_map] at hv
    obtain ⟨g, hg, rfl⟩ := Option.map_eq_some_iff.mp hv
    obtain ⟨hj, eg⟩ := List.getElem?_eq_some_iff.mp hg
    have hgl := ws_len (List.mem_of_getElem? hg)
    have hbt := blanks_take j (wsOf l)
    have hbw := blanks_ws l
    have dk : (wsOf l).drop j = g :: (wsOf l).drop (j + 1) := by rw [List.drop_eq_getElem_cons hj, eg]
    have tk : (wsOf l).take (j + 1) = (wsOf l).take j ++ [g] := by rw [List.take_succ_eq_append_getElem hj, eg]
    have ct := cj.sameTo (same_new hT (.tup [.int (j : Nat), strV g]))
    refine ⟨Tt, _, rfl, SqT.of upd_same, rfl, _, _, rfl, _, _, rfl, rfl, ?_⟩
    have inst : ∃ dx fs, upd H' Tt (.tup [.int (j : Nat), strV g]) r = some (.ins C dx fs) ∧ fs.lookup ("take" : Str) = none := by
      obtain ⟨dx, lo, lt, l, ls, cc⟩ := ct
      exact ⟨dx, _, cc.hr, take_no lo lt⟩
    obtain ⟨dx', fs, hri, hlk⟩ := inst
    refine ⟨_, rfl, r, dx', fs, rfl, hri, hlk, _, rfl, Hw, r, Sj, g, rfl, ct, okj, by rw [htx]; omega, fun hn H2 s2 => ⟨_, rfl, iteT ?_⟩, fun S' hs H2 c2 => ⟨_, rfl, iteF ?_⟩⟩
    · have er : readS l = .error j := by
        unfold readS
        rw [hrd, dk]
        show (match (match takeS Sj g with | none => Except.error j | some S' => readFrom (j + 1) S' ((wsOf l).drop (j + 1))) with | .error e => Except.error e | .ok S => if S.rest = [] ∧ isOk S.top = true then .ok S.top else .error (wsOf l).length) = _
        rw [hn]
      exact ⟨_, rfl, nt_leaf fun d hd => qe j er d _ ((sw.trans s2).trans (same_new hd _)) upd_same⟩
    · refine ⟨S', some (.int (j : Nat)), some (strV g), ?_, c2, okS_take okj hs, ?_, rfl⟩
      · rw [hrd, dk]
        show (match takeS Sj g with | none => Except.error j | some S' => readFrom (j + 1) S' ((wsOf l).drop (j + 1))) = _
        rw [hs]
      · rw [(takeS_tx hs).2, htx, tk, blanks_app]
        show blanks ((wsOf l).take j) ++ g ++ [32] = blanks ((wsOf l).take j) ++ (g ++ [32] ++ [])
        rw [List.append_nil, List.append_assoc]
  · obtain ⟨S, x, y, hrd, ⟨dx, lo, lt, b, ls, c⟩, okS, htx, rfl⟩ := z
    rw [List.length_map] at hrd htx
    rw [List.drop_length] at hrd
    rw [List.take_length] at htx
    have hrd' : readFrom 0 S0 (wsOf l) = .ok S := hrd
    have hbw := blanks_ws l
    have rd : readS l = if S.rest = [] ∧ isOk S.top = true then .ok S.top else .error (wsOf l).length := by
      unfold readS
      rw [hrd']
    obtain ⟨b0, hb0⟩ : ∃ b0, ((b :: ls).reverse.map V.ref)[0]? = some (.ref b0) := by
      have hp : 0 < ((b :: ls).reverse.map V.ref).length := by
        rw [List.length_map, List.length_reverse, List.length_cons]
        omega
      have hp2 : 0 < (b :: ls).reverse.length := by
        rw [List.length_map] at hp
        exact hp
      exact ⟨(b :: ls).reverse[0], by rw [List.getElem?_map, List.getElem?_eq_getElem hp2]; rfl⟩
    refine ⟨_, rfl, r, C, dx, _, _, rfl, c.hr, T.cl, T.nO, rf_open _ _, lo, _, 0, .ref b0, rfl, rfl, SqL.of c.ho, atI_nat (j := 0) hb0, ?_⟩
    refine ⟨_, rfl, r, C, dx, _, _, rfl, c.hr, T.cl, T.nT, rf_times _ _, Nat.zero_le _, fun p hp => ?_⟩
    have c1 := c.sameTo (same_new hp (.lst []))
    refine ⟨.list ((S.rest.map (·.1)).reverse.map PyData.int), .list [], .lst (SqL.of c1.ht) (ints_dp _), .lst (SqL.of upd_same) .nil, ints_shaped _, nil_shaped, _, rfl, ?_⟩
    rw [eqv_nil]
    generalize upd H' p (.lst []) = H2 at c1 ⊢
    have fail : ∀ H3, Same H2 H3 → readS l = .error (wsOf l).length → tMkO NC (spNT NC) [] (tCons (tCB (fun xs H Q => ∃ p ys, xs = [.ref p] ∧ (SqL K H p ys ∨ SqT K H p ys) ∧ Q (.int ys.length) H) (tCons (tVar 1) tNil)) tNil)
        [some (strV l), some (.ref wa), some (.ref r), x, y, some (.ref b0)] H3 E := fun H3 s3 er => by
      refine ⟨_, rfl, wa, _, rfl, .inl (SqL.of (s3 _ _ (c1.same _ _ hw))), nt_leaf fun d hd => ?_⟩
      refine qe _ er d _ (((sw.trans c1.same).trans s3).trans (same_new hd _)) ?_
      rw [upd_same, List.length_map]
    obtain ⟨rest, top⟩ := S
    cases rest with
    | cons fr rest =>
      have e1 : (!((List.map PyData.int (List.map (fun x => x.fst) (RS.rest ⟨fr :: rest, top⟩)).reverse).isEmpty)) = true := by
        rw [show ((List.map PyData.int (List.map (fun x => x.fst) (RS.rest ⟨fr :: rest, top⟩)).reverse).isEmpty) = false by rw [List.isEmpty_eq_false_iff]; simp]
        rfl
      rw [e1]
      exact iteT (iteT (fail H2 (Same.refl _) (by rw [rd, if_neg]; exact fun z => nomatch z.1)))
    | nil =>
      refine iteF ?_
      have hls := c1.lens
      have hlsn : ls = [] := List.eq_nil_of_length_eq_zero hls
      subst hlsn
      have eb : b0 = b := by
        have z : (some (V.ref b) : Option V) = some (V.ref b0) := hb0
        injection z with z
        injection z with z
        exact z.symm
      subst eb
      obtain ⟨xs, hx, hp2⟩ := c1.top
      have e2 : bl top = blanks (wsOf l) := htx
      have hjl := bl_join top
      rw [e2] at hjl
      have items : Paired (Itm H2 []) xs top := pairedImp hp2 fun _ _ _ h => h.to (fun _ _ h => h) fun b zs h _ => ⟨h, fun z => nomatch z⟩
      have hlen : xs.length = top.length := Paired.length hp2
      have hic := is_len top okS.1
      have rd' : readS l = if isOk top = true then .ok top else .error (wsOf l).length := by
        rw [rd]
        simp
      refine ⟨_, rfl, b0, xs, top.map (·.s), rfl, hx, by omega, items_say items, fun H3 s3 => ⟨_, rfl, ?_⟩⟩
      have good : ∀ H4, Same H2 H4 → isOk top = true → Q (.ref b0) H4 := fun H4 s4 hok => qs top (by rw [rd', if_pos hok]) b0 xs H4 ((sw.trans c1.same).trans s4) (s4 _ _ hx) (items_same items s4)
      unfold isOk at good rd'
      cases ha : (top.map (·.s)).all id with
      | true =>
        rw [ha, Bool.true_or] at good
        exact iteF (iteF ⟨_, rfl, good H3 s3 rfl⟩)
      | false =>
        rw [ha, Bool.false_or] at good rd'
        refine iteT ⟨_, rfl, b0, xs, top, rfl, s3 _ _ hx, items_same items s3, by omega, fun H4 s4 => ⟨_, rfl, ?_⟩⟩
        cases hm : decide ((pSum top : Int) ≤ MOST) with
        | true => exact iteF ⟨_, rfl, good H4 (s3.trans s4) hm⟩
        | false => exact iteT (fail H4 (s3.trans s4) (by rw [rd', hm]; rfl))
end
end Bo

namespace Bo
open PySem L2 PyProof.Rows
def spRead (NC : Addr) (s : Nat) (good : List (Int × Option Int) → Prop) : Sp := fun vs H Q E => ∃ l : Tx, vs = [strV l] ∧ l.length ≤ 64 ∧
  (∀ ps b xs H', joinP s ps = l → good ps → Same H H' → H' b = some (.lst xs) → Paired (PairAt H') xs ps → Q (.ref b) H') ∧
  ∀ e : Nat, e ≤ (wsOf l).length → ∀ d H', Same H H' → H' d = some (.xd (atF (e : Nat))) → E (.ref NC) (some d) H'
theorem paired_app {α β : Type} {R : α → β → Prop} {xs : List α} {ys : List β} {x : α} {y : β} (h : Paired R xs ys) (r : R x y) : Paired R (xs ++ [x]) (ys ++ [y]) := Paired.snoc h r
theorem PairAt.upd_lst {H : Hp} {v : V} {p : Int × Option Int} {a : Addr} {xs : List V} {o : HO} (h : PairAt H v p) (ha : H a = some (.lst xs)) : PairAt (upd H a o) v p := by
  obtain ⟨b, rfl, h2, h3⟩ := h
  exact ⟨b, rfl, by rw [upd_ne (ne_of h2 ha (by intro z; cases z))]; exact h2, h3⟩
theorem pairs_upd {H : Hp} {vs : List V} {ps : List (Int × Option Int)} {a : Addr} {xs : List V} {o : HO} (h : Paired (PairAt H) vs ps) (ha : H a = some (.lst xs)) : Paired (PairAt (upd H a o)) vs ps := Paired.mapP h fun _ _ x => x.upd_lst ha
theorem same_upd {H0 H : Hp} {a : Addr} {o : HO} (s : Same H0 H) (h : H0 a = none) : Same H0 (upd H a o) := fun b u z => by
  rw [upd_ne (ne_of_none z h)]
  exact s _ _ z
section
variable {P : Program} {w : World} {K : PySem.W.Frag} {mg : Str → Option Value} {base : Heap} {NC Bc : Addr}
theorem scReadTab : FnScope ["text", "words", "found", "at", "word", "step"] ["text"] (defScope sReadTable) := ⟨rfl, rfl, rfl, by decide +kernel, rfl, by decide +kernel, by decide +kernel⟩
theorem ok_readTab {f : Addr} {fd : FuncData} (F : Fun K "read_table" "read_table" sReadTable f fd) (B : Bi mg) (W : CWords P w K mg base) (C : CPairIn P w K mg base) (T : CTab P w K mg base) (MN : MkNT P w K mg base NC Bc) :
    FnOk P w K mg base (L2.CX P w) 4 f fd ["text"] (spRead NC 58 goodT) := by
  refine F.okX scReadTab (fun vs H Q E h => ?_) (fun cdv A outer s H vs Q E hr h => ?_)
  · obtain ⟨l, rfl, _⟩ := h
    rfl
  obtain ⟨l, rfl, hl, qs, qe⟩ := h
  refine ⟨_, pss_cons (ps_set (i := 1) scReadTab.nd rfl (Or.inl rfl) (cal W (hr.mono (by decide)) pass0 (pa_cons (pv 0) pa_nil)))
    (pss_cons (ps_set (i := 2) scReadTab.nd rfl (Or.inl rfl) (pe_lst pa_nil))
    (pss_cons (ps_for (passes_of rfl) rfl (pi_enum (by rfl) B.enumerate (pa_cons (pv 1) pa_nil)) (pg_tup rfl (pgs_cons (pg_name (i := 3) scReadTab.nd rfl (Or.inl rfl)) (pgs_cons (pg_name (i := 4) scReadTab.nd rfl (Or.inl rfl)) pgs_nil)))
      (pss_cons (ps_set (i := 5) scReadTab.nd rfl (Or.inl rfl) (cal C (hr.mono (by decide)) pass0 (pa_cons (pv 4) (pa_cons pe_str pa_nil))))
      (pss_cons (ps_if (PW.pt (pw_or (pt_cmpR op_isN (pv 5) pe_non (nomark _)) (pw_or1 (pt_not (pt_val (cal T hr pass0 (pa_cons (pe_op op_cat (pv 2) (pe_lst (pa_cons (pv 5) pa_nil))) pa_nil))))))) (pss_one (ps_raise rfl (takes_of rfl rfl rfl rfl) (pmk_nt MN (hr.mono (by decide)) (pv 3)))) pss_nil)
      (pss_one (ps_expr (pe_bm PySem.F.plainAttrs_list PySem.F.slot_list_append PySem.F.type_list_append mt_append (pv 2) (pa_cons (pv 5) pa_nil)))))))
    (pss_cons (ps_if (pt_cmpR (op_eqD hr.units) (pv 2) (pe_lst pa_nil) (nomark _)) (pss_one (ps_raise rfl (takes_of rfl rfl rfl rfl) (pmk_nt MN (hr.mono (by decide)) pe_int))) pss_nil)
    (pss_one (ps_ret (pv 2)))))), ?_⟩
  refine ⟨_, rfl, l, rfl, by omega, fun wa Hw sw nw hw => ⟨Nat.zero_le _, fun fa hfa => ?_⟩⟩
  have wsl : (wsOf l).length ≤ l.length + 1 := ws_count l
  refine ⟨_, rfl, wa, _, rfl, SqL.of (same_new hfa (.lst []) _ _ hw), ?_⟩
  refine for_enum (xs := (wsOf l).map strV) (fun j σ H' => ∃ ps xs x y z, ps.map (txP 58) = (wsOf l).take j ∧ (∀ p ∈ ps, isSome2 p) ∧ (ps = [] ∨ isTab ps = true) ∧ H' fa = some (.lst xs) ∧ Paired (PairAt H') xs ps ∧ Same Hw H' ∧ σ = [some (strV l), some (.ref wa), some (.ref fa), x, y, z])
    ⟨[], [], none, none, none, rfl, fun _ h => (nomatch h), .inl rfl, upd_same, .nil, same_new hfa _, rfl⟩ (fun j σ H' z => ?_) (fun j v Tt σ H' hv z hT => ?_) (fun σ H' z => ?_)
  · obtain ⟨ps, xs, x, y, z, _, _, _, _, _, s2, _⟩ := z
    exact SqL.of (s2 _ _ hw)
  · obtain ⟨ps, xs, x, y, z, hps, h2, hg, hf, hp, s2, rfl⟩ := z
    rw [List.getElem?_map] at hv
    obtain ⟨g, hgg, rfl⟩ := Option.map_eq_some_iff.mp hv
    obtain ⟨hj, eg⟩ := List.getElem?_eq_some_iff.mp hgg
    have hgl := ws_len (List.mem_of_getElem? hgg)
    have tk : (wsOf l).take (j + 1) = (wsOf l).take j ++ [g] := by rw [List.take_succ_eq_append_getElem hj, eg]
    have hlen : xs.length = ps.length := Paired.length hp
    have hpl : ps.length ≤ j := by
      have := congrArg List.length hps
      rw [List.length_map, List.length_take] at this
      omega
    have st := same_new hT (.tup [.int (j : Nat), strV g])
    have bad : ∀ H3, Same H' H3 → tMkO NC (spNT NC) [] (tCons (tVar 3) tNil) [some (strV l), some (.ref wa), some (.ref fa), some (.int (j : Nat)), some (strV g), z] H3 E := fun H3 s3 =>
      ⟨_, rfl, nt_leaf fun d hd => qe j (by omega) d _ (((sw.trans s2).trans s3).trans (same_new hd _)) upd_same⟩
    refine ⟨Tt, _, rfl, SqT.of upd_same, rfl, _, _, rfl, _, _, rfl, rfl, ?_⟩
    refine ⟨_, rfl, g, 58, ?_, by decide, by omega, fun hn H3 s3 => ?_, fun a b hab c H3 s3 hc => ?_⟩
    · rw [show (Str.ofString ":" : Str) = ofL [58] by decide +kernel]
      rfl
    · exact ⟨_, rfl, rfl, _, rfl, iteT ⟨_, rfl, nt_leaf fun d hd => qe j (by omega) d _ ((((sw.trans s2).trans st).trans s3).trans (same_new hd _)) upd_same⟩⟩
    · have s4 := st.trans s3
      obtain ⟨a0, b0, ea⟩ := pairOf_some hab
      refine ⟨_, rfl, rfl, _, rfl, iteF ?_⟩
      refine ⟨_, rfl, _, rfl, (by show 1 ≤ sizeLine; decide), fun b1 hb1 => ?_⟩
      have s5 := same_new hb1 (.lst [.ref c])
      refine ⟨fa, b1, xs, _, rfl, rfl, s5 _ _ (s4 _ _ hf), upd_same, small (by rw [hlen, List.length_singleton]; omega), fun b2 hb2 => ?_⟩
      have s6 := (s4.trans s5).trans (same_new hb2 (.lst (xs ++ [.ref c])))
      have pc : ∀ {H7}, Same (upd (upd H3 b1 (.lst [.ref c])) b2 (.lst (xs ++ [.ref c]))) H7 → PairAt H7 (.ref c) (a, some b) := fun s7 => ⟨c, rfl, s7 _ _ (same_new hb2 _ _ _ (s5 _ _ hc)), a0, b0⟩
      refine ⟨b2, xs ++ [.ref c], ps ++ [(a, some b)], rfl, upd_same, (by rw [List.length_append, hlen, List.length_singleton]; omega), paired_app (pairs_same hp s6) (pc (Same.refl _)), fun p hp' => ?_, fun H7 s7 => ⟨_, rfl, ?_⟩⟩
      · rcases List.mem_append.mp hp' with hp' | hp'
        · exact h2 p hp'
        · rw [List.mem_singleton.mp hp']
          exact rfl
      cases ht : isTab (ps ++ [(a, some b)]) with
      | false => exact iteT ⟨_, rfl, nt_leaf fun d hd => qe j (by omega) d _ ((((sw.trans s2).trans s6).trans s7).trans (same_new hd _)) upd_same⟩
      | true =>
        have s8 := s6.trans s7
        have hf8 := s8 _ _ hf
        refine iteF ⟨_, rfl, .inl ⟨rfl, _, SqL.of hf8⟩, _, rfl, fa, xs, _, rfl, rfl, hf8, Nat.lt_of_le_of_lt (show xs.length ≤ 1000 by omega) (by decide), ?_⟩
        refine ⟨ps ++ [(a, some b)], xs ++ [.ref c], _, _, _, ?_, ?_, .inr ht, upd_same, paired_app (pairs_upd (pairs_same hp s8) hf8) ((pc s7).upd_lst hf8), same_upd (s2.trans s8) hfa, rfl⟩
        · rw [List.map_append, hps, tk]
          show _ ++ [pairT 58 a (some b)] = _
          rw [ea]
        · intro p hp'
          rcases List.mem_append.mp hp' with hp' | hp'
          · exact h2 p hp'
          · rw [List.mem_singleton.mp hp']
            exact rfl
  · obtain ⟨ps, xs, x, y, z, hps, h2, hg, hf, hp, s2, rfl⟩ := z
    rw [List.length_map, List.take_length] at hps
    refine ⟨_, rfl, Nat.zero_le _, fun c hc => ?_⟩
    have s3 := same_new hc (.lst [])
    refine ⟨.list (ps.map pairD), .list [], .lst (SqL.of (s3 _ _ hf)) (pairs_dp (pairs_same hp s3)), .lst (SqL.of upd_same) .nil, pairs_shaped ps, nil_shaped, _, rfl, ?_⟩
    rw [eqv_nil]
    cases ps with
    | nil => exact iteT (nt_leaf fun d hd => qe 0 (Nat.zero_le _) d _ (((sw.trans s2).trans s3).trans (same_new hd _)) upd_same)
    | cons p r =>
      refine iteF ⟨_, rfl, qs (p :: r) fa xs _ ?_ ⟨h2, hg.resolve_left (by simp)⟩ ((sw.trans s2).trans s3) (s3 _ _ hf) (pairs_same hp s3)⟩
      show joinB ((p :: r).map (txP 58)) = l
      rw [hps, join_ws]
theorem scReadShf : FnScope ["text", "words", "found", "at", "word", "pair"] ["text"] (defScope sReadShelf) := ⟨rfl, rfl, rfl, by decide +kernel, rfl, by decide +kernel, by decide +kernel⟩
theorem ok_readShf {f : Addr} {fd : FuncData} (F : Fun K "read_shelf" "read_shelf" sReadShelf f fd) (B : Bi mg) (W : CWords P w K mg base) (C : CPairIn P w K mg base) (T : CShf P w K mg base) (MN : MkNT P w K mg base NC Bc) :
    FnOk P w K mg base (L2.CX P w) 4 f fd ["text"] (spRead NC 58 goodS) := by
  refine F.okX scReadShf (fun vs H Q E h => ?_) (fun cdv A outer s H vs Q E hr h => ?_)
  · obtain ⟨l, rfl, _⟩ := h
    rfl
  obtain ⟨l, rfl, hl, qs, qe⟩ := h
  refine ⟨_, pss_cons (ps_set (i := 1) scReadShf.nd rfl (Or.inl rfl) (cal W (hr.mono (by decide)) pass0 (pa_cons (pv 0) pa_nil)))
    (pss_cons (ps_set (i := 2) scReadShf.nd rfl (Or.inl rfl) (pe_lst pa_nil))
    (pss_cons (ps_for (passes_of rfl) rfl (pi_enum (by rfl) B.enumerate (pa_cons (pv 1) pa_nil)) (pg_tup rfl (pgs_cons (pg_name (i := 3) scReadShf.nd rfl (Or.inl rfl)) (pgs_cons (pg_name (i := 4) scReadShf.nd rfl (Or.inl rfl)) pgs_nil)))
      (pss_cons (ps_set (i := 5) scReadShf.nd rfl (Or.inl rfl) (cal C (hr.mono (by decide)) pass0 (pa_cons (pv 4) (pa_cons pe_str pa_nil))))
      (pss_cons (ps_if (PW.pt (pw_or (pt_cmpR op_isN (pv 5) pe_non (nomark _)) (pw_or1 (pt_not (pt_val (cal T hr pass0 (pa_cons (pe_op op_cat (pv 2) (pe_lst (pa_cons (pv 5) pa_nil))) pa_nil))))))) (pss_one (ps_raise rfl (takes_of rfl rfl rfl rfl) (pmk_nt MN (hr.mono (by decide)) (pv 3)))) pss_nil)
      (pss_one (ps_expr (pe_bm PySem.F.plainAttrs_list PySem.F.slot_list_append PySem.F.type_list_append mt_append (pv 2) (pa_cons (pv 5) pa_nil)))))))
    (pss_one (ps_ret (pv 2))))), ?_⟩
  refine ⟨_, rfl, l, rfl, by omega, fun wa Hw sw nw hw => ⟨Nat.zero_le _, fun fa hfa => ?_⟩⟩
  have wsl : (wsOf l).length ≤ l.length + 1 := ws_count l
  refine ⟨_, rfl, wa, _, rfl, SqL.of (same_new hfa (.lst []) _ _ hw), ?_⟩
  refine for_enum (xs := (wsOf l).map strV) (fun j σ H' => ∃ ps xs x y z, ps.map (txP 58) = (wsOf l).take j ∧ (∀ p ∈ ps, isSome2 p) ∧ isShf ps = true ∧ H' fa = some (.lst xs) ∧ Paired (PairAt H') xs ps ∧ Same Hw H' ∧ σ = [some (strV l), some (.ref wa), some (.ref fa), x, y, z])
    ⟨[], [], none, none, none, rfl, fun _ h => (nomatch h), rfl, upd_same, .nil, same_new hfa _, rfl⟩ (fun j σ H' z => ?_) (fun j v Tt σ H' hv z hT => ?_) (fun σ H' z => ?_)
  · obtain ⟨ps, xs, x, y, z, _, _, _, _, _, s2, _⟩ := z
    exact SqL.of (s2 _ _ hw)
  · obtain ⟨ps, xs, x, y, z, hps, h2, hg, hf, hp, s2, rfl⟩ := z
    rw [List.getElem?_map] at hv
    obtain ⟨g, hgg, rfl⟩ := Option.map_eq_some_iff.mp hv
    obtain ⟨hj, eg⟩ := List.getElem?_eq_some_iff.mp hgg
    have hgl := ws_len (List.mem_of_getElem? hgg)
    have tk : (wsOf l).take (j + 1) = (wsOf l).take j ++ [g] := by rw [List.take_succ_eq_append_getElem hj, eg]
    have hlen : xs.length = ps.length := Paired.length hp
    have hpl : ps.length ≤ j := by
      have := congrArg List.length hps
      rw [List.length_map, List.length_take] at this
      omega
    have st := same_new hT (.tup [.int (j : Nat), strV g])
    have bad : ∀ H3, Same H' H3 → tMkO NC (spNT NC) [] (tCons (tVar 3) tNil) [some (strV l), some (.ref wa), some (.ref fa), some (.int (j : Nat)), some (strV g), z] H3 E := fun H3 s3 =>
      ⟨_, rfl, nt_leaf fun d hd => qe j (by omega) d _ (((sw.trans s2).trans s3).trans (same_new hd _)) upd_same⟩
    refine ⟨Tt, _, rfl, SqT.of upd_same, rfl, _, _, rfl, _, _, rfl, rfl, ?_⟩
    refine ⟨_, rfl, g, 58, ?_, by decide, by omega, fun hn H3 s3 => ?_, fun a b hab c H3 s3 hc => ?_⟩
    · rw [show (Str.ofString ":" : Str) = ofL [58] by decide +kernel]
      rfl
    · exact ⟨_, rfl, rfl, _, rfl, iteT ⟨_, rfl, nt_leaf fun d hd => qe j (by omega) d _ ((((sw.trans s2).trans st).trans s3).trans (same_new hd _)) upd_same⟩⟩
    · have s4 := st.trans s3
      obtain ⟨a0, b0, ea⟩ := pairOf_some hab
      refine ⟨_, rfl, rfl, _, rfl, iteF ?_⟩
      refine ⟨_, rfl, _, rfl, (by show 1 ≤ sizeLine; decide), fun b1 hb1 => ?_⟩
      have s5 := same_new hb1 (.lst [.ref c])
      refine ⟨fa, b1, xs, _, rfl, rfl, s5 _ _ (s4 _ _ hf), upd_same, small (by rw [hlen, List.length_singleton]; omega), fun b2 hb2 => ?_⟩
      have s6 := (s4.trans s5).trans (same_new hb2 (.lst (xs ++ [.ref c])))
      have pc : ∀ {H7}, Same (upd (upd H3 b1 (.lst [.ref c])) b2 (.lst (xs ++ [.ref c]))) H7 → PairAt H7 (.ref c) (a, some b) := fun s7 => ⟨c, rfl, s7 _ _ (same_new hb2 _ _ _ (s5 _ _ hc)), a0, b0⟩
      refine ⟨b2, xs ++ [.ref c], ps ++ [(a, some b)], rfl, upd_same, (by rw [List.length_append, hlen, List.length_singleton]; omega), paired_app (pairs_same hp s6) (pc (Same.refl _)), fun p hp' => ?_, fun H7 s7 => ⟨_, rfl, ?_⟩⟩
      · rcases List.mem_append.mp hp' with hp' | hp'
        · exact h2 p hp'
        · rw [List.mem_singleton.mp hp']
          exact rfl
      cases ht : isShf (ps ++ [(a, some b)]) with
      | false => exact iteT ⟨_, rfl, nt_leaf fun d hd => qe j (by omega) d _ ((((sw.trans s2).trans s6).trans s7).trans (same_new hd _)) upd_same⟩
      | true =>
        have s8 := s6.trans s7
        have hf8 := s8 _ _ hf
        refine iteF ⟨_, rfl, .inl ⟨rfl, _, SqL.of hf8⟩, _, rfl, fa, xs, _, rfl, rfl, hf8, Nat.lt_of_le_of_lt (show xs.length ≤ 1000 by omega) (by decide), ?_⟩
        refine ⟨ps ++ [(a, some b)], xs ++ [.ref c], _, _, _, ?_, ?_, ht, upd_same, paired_app (pairs_upd (pairs_same hp s8) hf8) ((pc s7).upd_lst hf8), same_upd (s2.trans s8) hfa, rfl⟩
        · rw [List.map_append, hps, tk]
          show _ ++ [pairT 58 a (some b)] = _
          rw [ea]
        · intro p hp'
          rcases List.mem_append.mp hp' with hp' | hp'
          · exact h2 p hp'
          · rw [List.mem_singleton.mp hp']
            exact rfl
  · obtain ⟨ps, xs, x, y, z, hps, h2, hg, hf, hp, s2, rfl⟩ := z
    rw [List.length_map, List.take_length] at hps
    refine ⟨_, rfl, qs ps fa xs _ ?_ ⟨h2, hg⟩ (sw.trans s2) hf hp⟩
    show joinB (ps.map (txP 58)) = l
    rw [hps, join_ws]
end
end Bo

namespace Bo
open PySem L2 PyProof.Rows
theorem pairs_last {H : Hp} {xs : List V} {ps : List (Int × Option Int)} (h : Paired (PairAt H) xs ps) (hne : ps ≠ []) : ∃ v q, atI xs (-1) = some v ∧ PairAt H v q := by
  have hl : xs.length = ps.length := Paired.length h
  have hx : xs ≠ [] := fun z => by
    rw [z] at hl
    exact hne (List.eq_nil_of_length_eq_zero hl.symm)
  obtain ⟨r, v, rfl⟩ : ∃ r c, xs = r ++ [c] := ⟨xs.dropLast, xs.getLast hx, (List.dropLast_concat_getLast hx).symm⟩
  have h1 : (r ++ [v])[r.length]? = some v := List.getElem?_concat_length
  have h2 : r.length < ps.length := by
    rw [← hl, List.length_append, List.length_singleton]
    omega
  exact ⟨v, ps[r.length], atI_last _ _, Paired.get h h1 (List.getElem?_eq_getElem h2)⟩
section
variable {P : Program} {w : World} {K : PySem.W.Frag} {mg : Str → Option Value} {base : Heap} {NC Bc : Addr}
theorem scReadStr : FnScope ["text", "words", "found", "at", "word", "one"] ["text"] (defScope sReadStretches) := ⟨rfl, rfl, rfl, by decide +kernel, rfl, by decide +kernel, by decide +kernel⟩
theorem ok_readStr {f : Addr} {fd : FuncData} (F : Fun K "read_stretches" "read_stretches" sReadStretches f fd) (B : Bi mg) (W : CWords P w K mg base) (C : CStrIn P w K mg base) (MN : MkNT P w K mg base NC Bc) :
    FnOk P w K mg base (L2.CX P w) 4 f fd ["text"] (spRead NC 45 goodL) := by
  refine F.okX scReadStr (fun vs H Q E h => ?_) (fun cdv A outer s H vs Q E hr h => ?_)
  · obtain ⟨l, rfl, _⟩ := h
    rfl
  obtain ⟨l, rfl, hl, qs, qe⟩ := h
  refine ⟨_, pss_cons (ps_set (i := 1) scReadStr.nd rfl (Or.inl rfl) (cal W (hr.mono (by decide)) pass0 (pa_cons (pv 0) pa_nil)))
    (pss_cons (ps_set (i := 2) scReadStr.nd rfl (Or.inl rfl) (pe_lst pa_nil))
    (pss_cons (ps_for (passes_of rfl) rfl (pi_enum (by rfl) B.enumerate (pa_cons (pv 1) pa_nil)) (pg_tup rfl (pgs_cons (pg_name (i := 3) scReadStr.nd rfl (Or.inl rfl)) (pgs_cons (pg_name (i := 4) scReadStr.nd rfl (Or.inl rfl)) pgs_nil)))
      (pss_cons (ps_set (i := 5) scReadStr.nd rfl (Or.inl rfl) (cal C hr pass0 (pa_cons (pv 4) pa_nil)))
      (pss_cons (ps_if (PW.pt (pw_or (pt_cmpR op_isN (pv 5) pe_non (nomark _)) (pw_or1 (PW.pt (pw_and (pt_cmpR (op_neD hr.units) (pv 2) (pe_lst pa_nil) (nomark _))
          (pw_and1 (PW.pt (pw_or (pt_cmpR op_isN (pe_ix ix_tup (pe_ix ix_list (pv 2) (pe_un un_neg pe_int) (fun _ _ => rfl)) pe_int (fun _ _ => rfl)) pe_non (nomark _))
            (pw_or1 (pt_cmpR op_le (pe_ix ix_tup (pv 5) pe_int (fun _ _ => rfl)) (pe_op op_add (pe_ix ix_tup (pe_ix ix_list (pv 2) (pe_un un_neg pe_int) (fun _ _ => rfl)) pe_int (fun _ _ => rfl)) pe_int) (nomark _)))))))))))
        (pss_one (ps_raise rfl (takes_of rfl rfl rfl rfl) (pmk_nt MN (hr.mono (by decide)) (pv 3)))) pss_nil)
      (pss_one (ps_expr (pe_bm PySem.F.plainAttrs_list PySem.F.slot_list_append PySem.F.type_list_append mt_append (pv 2) (pa_cons (pv 5) pa_nil)))))))
    (pss_one (ps_ret (pv 2))))), ?_⟩
  refine ⟨_, rfl, l, rfl, by omega, fun wa Hw sw nw hw => ⟨Nat.zero_le _, fun fa hfa => ?_⟩⟩
  have wsl : (wsOf l).length ≤ l.length + 1 := ws_count l
  refine ⟨_, rfl, wa, _, rfl, SqL.of (same_new hfa (.lst []) _ _ hw), ?_⟩
  refine for_enum (xs := (wsOf l).map strV) (fun j σ H' => ∃ ps xs x y z, ps.map (txP 45) = (wsOf l).take j ∧ goodL ps ∧ H' fa = some (.lst xs) ∧ Paired (PairAt H') xs ps ∧ Same Hw H' ∧ σ = [some (strV l), some (.ref wa), some (.ref fa), x, y, z])
    ⟨[], [], none, none, none, rfl, fun _ h => (nomatch h), upd_same, .nil, same_new hfa _, rfl⟩ (fun j σ H' z => ?_) (fun j v Tt σ H' hv z hT => ?_) (fun σ H' z => ?_)
  · obtain ⟨ps, xs, x, y, z, _, _, _, _, s2, _⟩ := z
    exact SqL.of (s2 _ _ hw)
  · obtain ⟨ps, xs, x, y, z, hps, hg, hf, hp, s2, rfl⟩ := z
    rw [List.getElem?_map] at hv
    obtain ⟨g, hgg, rfl⟩ := Option.map_eq_some_iff.mp hv
    obtain ⟨hj, eg⟩ := List.getElem?_eq_some_iff.mp hgg
    have hgl := ws_len (List.mem_of_getElem? hgg)
    have tk : (wsOf l).take (j + 1) = (wsOf l).take j ++ [g] := by rw [List.take_succ_eq_append_getElem hj, eg]
    have hlen : xs.length = ps.length := Paired.length hp
    have hpl : ps.length ≤ j := by
      have := congrArg List.length hps
      rw [List.length_map, List.length_take] at this
      omega
    have st := same_new hT (.tup [.int (j : Nat), strV g])
    refine ⟨Tt, _, rfl, SqT.of upd_same, rfl, _, _, rfl, _, _, rfl, rfl, ?_⟩
    refine ⟨_, rfl, g, rfl, by omega, fun hn H3 s3 => ?_, fun p hs c H3 s3 hc => ?_⟩
    · exact ⟨_, rfl, rfl, _, rfl, iteT ⟨_, rfl, nt_leaf fun d hd => qe j (by omega) d _ ((((sw.trans s2).trans st).trans s3).trans (same_new hd _)) upd_same⟩⟩
    · have s4 := st.trans s3
      obtain ⟨okp, ep⟩ := sayOf_some hs
      refine ⟨_, rfl, rfl, _, rfl, iteF ?_⟩
      refine ⟨_, rfl, Nat.zero_le _, fun b1 hb1 => ?_⟩
      have s5 := s4.trans (same_new hb1 (.lst []))
      have hc5 : upd H3 b1 (.lst []) c = some (.tup (pairV p.1 p.2)) := same_new hb1 _ _ _ hc
      refine ⟨.list (ps.map pairD), .list [], .lst (SqL.of (s5 _ _ hf)) (pairs_dp (pairs_same hp s5)), .lst (SqL.of upd_same) .nil, pairs_shaped ps, nil_shaped, _, rfl, ?_⟩
      rw [eqv_nil]
      -- put to the list
      have good : tDrop (tBM K "list" rAppend (tVar 2) (tCons (tVar 5) tNil)) { nx := fun σ H' => ∃ ps xs x y z, ps.map (txP 45) = (wsOf l).take (j + 1) ∧ goodL ps ∧ H' fa = some (.lst xs) ∧ Paired (PairAt H') xs ps ∧ Same Hw H' ∧ σ = [some (strV l), some (.ref wa), some (.ref fa), x, y, z], rt := Q }
          [some (strV l), some (.ref wa), some (.ref fa), some (.int (j : Nat)), some (strV g), some (.ref c)] (upd H3 b1 (.lst [])) := by
        have hf8 := s5 _ _ hf
        refine ⟨_, rfl, .inl ⟨rfl, _, SqL.of hf8⟩, _, rfl, fa, xs, _, rfl, rfl, hf8, Nat.lt_of_le_of_lt (show xs.length ≤ 1000 by omega) (by decide), ?_⟩
        refine ⟨ps ++ [p], xs ++ [.ref c], _, _, _, ?_, ?_, upd_same, paired_app (pairs_upd (pairs_same hp s5) hf8) (PairAt.upd_lst ⟨c, rfl, hc5, okp.1, okp.nn⟩ hf8), same_upd (s2.trans s5) hfa, rfl⟩
        · rw [List.map_append, hps, tk]
          show _ ++ [pairT 45 p.1 p.2] = _
          rw [ep]
        · intro q hq
          rcases List.mem_append.mp hq with hq | hq
          · exact hg q hq
          · rw [List.mem_singleton.mp hq]
            exact okp
      have bad : tMkO NC (spNT NC) [] (tCons (tVar 3) tNil) [some (strV l), some (.ref wa), some (.ref fa), some (.int (j : Nat)), some (strV g), some (.ref c)] (upd H3 b1 (.lst [])) E :=
        ⟨_, rfl, nt_leaf fun d hd => qe j (by omega) d _ (((sw.trans s2).trans s5).trans (same_new hd _)) upd_same⟩
      by_cases hne : ps = []
      · rw [hne]
        exact iteF (iteF good)
      · have e1 : (ps.map pairD).isEmpty = false := by
          rw [List.isEmpty_eq_false_iff]
          simpa using hne
        rw [e1]
        obtain ⟨v, q, hv1, ⟨c1, rfl, hc1, h31, h41⟩⟩ := pairs_last (pairs_same hp s5) hne
        refine iteT ⟨_, rfl, 1, rfl, fa, xs, -1, _, rfl, rfl, SqL.of (s5 _ _ hf), hv1, c1, _, 1, _, rfl, rfl, SqT.of hc1, at1, rfl, _, rfl, ?_⟩
        obtain ⟨q1, q2⟩ := q
        cases q2 with
        | none => exact iteT (iteT bad)
        | some q2 =>
          refine iteF ⟨_, rfl, c, _, 0, _, rfl, rfl, SqT.of hc5, at0, _, rfl, 1, rfl, fa, xs, -1, _, rfl, rfl, SqL.of (s5 _ _ hf), hv1, c1, _, 1, _, rfl, rfl, SqT.of hc1, at1, q2, 1, rfl, rfl, _, _, rfl, rfl, _, rfl, ?_⟩
          cases decide (p.1 ≤ q2 + 1) with
          | true => exact iteT bad
          | false => exact iteF good
  · obtain ⟨ps, xs, x, y, z, hps, hg, hf, hp, s2, rfl⟩ := z
    rw [List.length_map, List.take_length] at hps
    refine ⟨_, rfl, qs ps fa xs _ ?_ hg (sw.trans s2) hf hp⟩
    show joinB (ps.map (txP 45)) = l
    rw [hps, join_ws]
end
end Bo

namespace Bo
open PySem L2 PyProof.Rows
def LotAt (H : Hp) (v : V) (o : Option (Int × Option Int)) : Prop := match o with
  | none => v = .non
  | some p => PairAt H v p ∧ okP p
def lotD : Option (Int × Option Int) → PyData
  | none => .none
  | some p => pairD p
theorem LotAt.same {H H' : Hp} {v : V} {o : Option (Int × Option Int)} (h : LotAt H v o) (s : Same H H') : LotAt H' v o := by
  cases o with
  | none => exact h
  | some p => exact ⟨h.1.same s, h.2⟩
theorem LotAt.upd_lst {H : Hp} {v : V} {o : Option (Int × Option Int)} {a : Addr} {xs : List V} {u : HO} (h : LotAt H v o) (ha : H a = some (.lst xs)) : LotAt (upd H a u) v o := by
  cases o with
  | none => exact h
  | some p => exact ⟨h.1.upd_lst ha, h.2⟩
theorem LotAt.dp {K : PySem.W.Frag} {H : Hp} {v : V} {o : Option (Int × Option Int)} (h : LotAt H v o) : Dp K H v (lotD o) := by
  cases o with
  | none =>
    have e : v = .non := h
    rw [e]
    exact .non
  | some p => exact h.1.dp
theorem lots_dp {K : PySem.W.Frag} {H : Hp} : ∀ {vs : List V} {os : List (Option (Int × Option Int))}, Paired (LotAt H) vs os → DpAll K H vs (os.map lotD)
  | _, _, .nil => .nil
  | _, _, .cons r t => .cons r.dp (lots_dp t)
theorem lots_shaped (os : List (Option (Int × Option Int))) : SeqAt.shaped (.list (os.map lotD)) = true := list_shaped fun d hd => by
  obtain ⟨o, _, rfl⟩ := List.mem_map.mp hd
  cases o with
  | none => simp [lotD, PyData.canLay0, PyData.depth]
  | some p =>
    obtain ⟨a, b⟩ := pairD_lay p
    exact ⟨a, by show (pairD p).depth ≤ 1; omega⟩
theorem none_shaped : SeqAt.shaped PyData.none = true := by
  show (PyData.canLay0 .none && decide (PyData.depth .none ≤ 64)) = true
  simp [PyData.canLay0, PyData.depth]
theorem lot_eqv (o : Option (Int × Option Int)) : PyData.eqv (lotD o) .none = o.isNone := by
  cases o with
  | none => simp [lotD, PyData.eqv]
  | some p => simp [lotD, pairD, PyData.eqv]
theorem lot_all : ∀ {ws : List Tx}, (∀ o ∈ ws.map sayOf, o.isNone = false) → ∃ ps, ws.map sayOf = ps.map some ∧ ps.map (txP 45) = ws ∧ goodL ps
  | [], _ => ⟨[], rfl, rfl, fun _ h => nomatch h⟩
  | t :: r, h => by
    obtain ⟨ps, e1, e2, e3⟩ := lot_all (ws := r) fun o ho => h o (List.mem_cons_of_mem _ ho)
    cases hs : sayOf t with
    | none =>
      have := h none (by rw [List.map_cons, hs]; exact List.mem_cons_self)
      cases this
    | some p =>
      obtain ⟨ok, e⟩ := sayOf_some hs
      refine ⟨p :: ps, by rw [List.map_cons, hs, e1]; rfl, by rw [List.map_cons, e2]; show pairT 45 p.1 p.2 :: r = _; rw [e], fun q hq => ?_⟩
      rcases List.mem_cons.mp hq with rfl | hq
      · exact ok
      · exact e3 q hq
theorem lots_pairs {H : Hp} : ∀ {vs : List V} {ps : List (Int × Option Int)}, Paired (LotAt H) vs (ps.map some) → Paired (PairAt H) vs ps
  | vs, [], h => by
    cases h
    exact .nil
  | vs, p :: r, h => by
    cases h with
    | cons a b => exact .cons a.1 (lots_pairs b)
theorem first_none : ∀ {os : List (Option (Int × Option Int))}, os.any (·.isNone) = true → ∃ j, os[j]? = some none ∧ (∀ (m : Nat) (o : Option (Int × Option Int)), m < j → os[m]? = some o → o.isNone = false)
  | [], h => by cases h
  | none :: r, _ => ⟨0, rfl, fun m o hm => absurd hm (Nat.not_lt_zero _)⟩
  | some p :: r, h => by
    have h' : r.any (·.isNone) = true := by simpa using h
    obtain ⟨j, h1, h2⟩ := first_none h'
    refine ⟨j + 1, h1, fun m o hm ho => ?_⟩
    cases m with
    | zero =>
      have : some (some p) = some o := ho
      rw [← Option.some.inj this]
      rfl
    | succ m => exact h2 m o (by omega) ho
section
variable {P : Program} {w : World} {K : PySem.W.Frag} {mg : Str → Option Value} {base : Heap} {NC Bc : Addr}
theorem scReadLot : FnScope ["text", "found", "word"] ["text"] (defScope sReadLot) := ⟨rfl, rfl, rfl, by decide +kernel, rfl, by decide +kernel, by decide +kernel⟩
theorem ok_readLot {f : Addr} {fd : FuncData} (F : Fun K "read_lot" "read_lot" sReadLot f fd) (B : Bi mg) (W : CWords P w K mg base) (C : CStrIn P w K mg base) (MN : MkNT P w K mg base NC Bc) :
    FnOk P w K mg base (L2.CX P w) 4 f fd ["text"] (spRead NC 45 goodL) := by
  refine F.okX scReadLot (fun vs H Q E h => ?_) (fun cdv A outer s H vs Q E hr h => ?_)
  · obtain ⟨l, rfl, _⟩ := h
    rfl
  obtain ⟨l, rfl, hl, qs, qe⟩ := h
  have hu : (A.deeper (envOfC "read_lot" (defScope sReadLot) s.heap.objs.size f cdv)).units + 65 < cLine := by
    have := hr.un
    omega
  refine ⟨_, pss_cons (ps_setLc (i := 1) (own := [("word", 2)]) (g := gName 2) (tt := tYes) (te := tCall spStrIn [] E0 (tCons (tVar 2) tNil)) rfl scReadLot.nd rfl rfl (sw_true rfl rfl rfl (by decide +kernel)) (pi_list (cal W (hr.mono (by decide)) pass0 (pa_cons (pv 0) pa_nil)))
      (blkOk_by (N := ["text", "found", "word"]) (sc := defScope sReadLot) (by decide +kernel)) (fun _ _ _ _ _ => pg_name (i := 2) scReadLot.nd rfl (Or.inl rfl)) (fun _ _ _ _ _ => pts_nil) (fun _ _ _ _ _ => cal C hr pass0 (pa_cons (pv 2) pa_nil)))
    (pss_cons (ps_if (pt_cmpR (op_inD hu) pe_non (pv 1) (by rfl)) (pss_one (ps_raise rfl (takes_of rfl rfl rfl rfl) (pmk_nt MN (hr.mono (by decide)) (pe_bm PySem.F.plainAttrs_list PySem.F.slot_list_index PySem.F.type_list_index (mt_indexD hu) (pv 1) (pa_cons pe_non pa_nil))))) pss_nil)
    (pss_one (ps_ret (pv 1)))), ?_⟩
  have wsl : (wsOf l).length ≤ l.length + 1 := ws_count l
  refine ⟨_, rfl, l, rfl, by omega, fun wa Hw sw nw hw => ⟨wa, rfl, ⟨_, SqL.of hw⟩, fun D hD => ?_⟩⟩
  refine lc_list (xs := (wsOf l).map strV) (fun j H' => ∃ acc, H' D = some (.lst acc) ∧ Paired (LotAt H') acc (((wsOf l).take j).map sayOf) ∧ Same Hw H') ⟨[], upd_same, .nil, same_new hD _⟩ (fun j H' _ z => ?_) (fun j v H' hv z => ?_) (fun H' z => ?_)
  · obtain ⟨acc, _, _, s2⟩ := z
    exact SqL.of (s2 _ _ hw)
  · obtain ⟨acc, ha, hp, s2⟩ := z
    rw [List.getElem?_map] at hv
    obtain ⟨g, hgg, rfl⟩ := Option.map_eq_some_iff.mp hv
    obtain ⟨hj, eg⟩ := List.getElem?_eq_some_iff.mp hgg
    have hgl := ws_len (List.mem_of_getElem? hgg)
    have tk : ((wsOf l).take (j + 1)).map sayOf = ((wsOf l).take j).map sayOf ++ [sayOf g] := by
      rw [List.take_succ_eq_append_getElem hj, eg, List.map_append]
      rfl
    have hlen : acc.length ≤ 1000 := by
      have := Paired.length hp
      rw [List.length_map, List.length_take] at this
      omega
    refine ⟨rfl, _, rfl, g, rfl, by omega, fun hn H3 s3 => ?_, fun p hs c H3 s3 hc => ?_⟩
    · refine ⟨acc, s3 _ _ ha, Nat.lt_of_le_of_lt hlen (by decide), acc ++ [.non], upd_same, ?_, same_upd (s2.trans s3) hD⟩
      rw [tk, hn]
      exact paired_app (Paired.mapP hp fun _ _ x => (x.same s3).upd_lst (s3 _ _ ha)) rfl
    · refine ⟨acc, s3 _ _ ha, Nat.lt_of_le_of_lt hlen (by decide), acc ++ [.ref c], upd_same, ?_, same_upd (s2.trans s3) hD⟩
      rw [tk, hs]
      have ok := (sayOf_some hs).1
      exact paired_app (Paired.mapP hp fun _ _ x => (x.same s3).upd_lst (s3 _ _ ha)) ⟨PairAt.upd_lst ⟨c, rfl, hc, ok.1, ok.nn⟩ (s3 _ _ ha), ok⟩
  · obtain ⟨acc, ha, hp, s2⟩ := z
    rw [List.length_map, List.take_length] at hp
    refine ⟨_, rfl, .none, ((wsOf l).map sayOf).map lotD, .non, .lst (SqL.of ha) (lots_dp hp), none_shaped, lots_shaped _, _, rfl, ?_⟩
    have e : (((wsOf l).map sayOf).map lotD).any (fun z => PyData.eqv z .none) = ((wsOf l).map sayOf).any (·.isNone) := by
      rw [List.any_map]
      congr 1
      funext o
      exact lot_eqv o
    rw [e]
    cases hany : ((wsOf l).map sayOf).any (·.isNone) with
    | true =>
      obtain ⟨j, h1, h2⟩ := first_none hany
      have hj : j < ((wsOf l).map sayOf).length := (List.getElem?_eq_some_iff.mp h1).1
      rw [List.length_map] at hj
      refine iteT ⟨_, rfl, .inl ⟨rfl, _, SqL.of ha⟩, D, .non, .none, ((wsOf l).map sayOf).map lotD, j, .none, rfl, rfl, .lst (SqL.of ha) (lots_dp hp), .non, lots_shaped _, none_shaped, ?_, ?_, fun m z hm hz => ?_, nt_leaf fun d hd => qe j (by omega) d _ ((sw.trans s2).trans (same_new hd _)) upd_same⟩
      · rw [List.getElem?_map, h1]
        rfl
      · exact lot_eqv none
      · rw [List.getElem?_map] at hz
        obtain ⟨o, ho, rfl⟩ := Option.map_eq_some_iff.mp hz
        rw [lot_eqv]
        exact h2 m o hm ho
    | false =>
      have hall : ∀ o ∈ (wsOf l).map sayOf, o.isNone = false := fun o ho => by
        have := List.any_eq_false.mp hany o ho
        cases o with
        | none => exact absurd rfl this
        | some p => rfl
      obtain ⟨ps, e1, e2, e3⟩ := lot_all hall
      rw [e1] at hp
      refine iteF ⟨_, rfl, qs ps D acc _ ?_ e3 (sw.trans s2) ha (lots_pairs hp)⟩
      show joinB (ps.map (txP 45)) = l
      rw [e2, join_ws]
end
end Bo

namespace Bo
open PySem L2 PyProof.Rows
/-! ### a caught exception that outlives its clause -/
/-- the object of an exception, kept in a variable -/
def exk (a : Addr) (cls : Value) (d : Option Addr) : HO := .ext fun g => ∃ (o : Obj) (fl : Array Value), g.get? a = some o ∧ Zc cls d o ∧ o.data = .fields fl
theorem exk_ok {P : Program} {w : World} {H : Hp} {g : Heap} {a : Addr} {cls : Value} {d : Option Addr} {o : Obj} {fl : Array Value} (e : g.get? a = some o) (z : Zc cls d o) (k : o.data = .fields fl) : ObjOk P w H g a (exk a cls d) := by
  refine ⟨⟨o, fl, e, z, k⟩, ⟨o, e⟩, fun g1 g2 x y => ?_⟩
  obtain ⟨o', fl', e', z', k'⟩ := x
  exact ⟨o', fl', y o' e', z', k'⟩
theorem Inv.track {X : Cx} {pins : List (Addr × Obj)} {σ : L2.St} {H : Hp} {s : Shared} {a : Addr} {cls : Value} {d : Option Addr} {o : Obj} {fl : Array Value} (I : L2.Inv X pins σ H s)
    (e : s.heap.get? a = some o) (z : Zc cls d o) (k : o.data = .fields fl) (na : H a = none) (n0 : X.s_0.heap.get? a = none) (nl : a ≠ X.env.locals) (np : ∀ p ∈ X.pn ++ pins, p.1 ≠ a) :
    L2.Inv X pins σ (upd H a (exk a cls d)) s where
  ok := I.ok
  os := I.os
  bare := I.bare
  base := { keep := I.base.keep, slot := I.base.slot, there := I.base.there,
            free := fun b u q n hx => by
              rw [upd_ne fun y => by rw [y, n0] at q; cases q]
              exact I.base.free b u q n hx
            tups := fun b xs q => (upd_ne (ne_of_none (I.base.tups b xs q) na)).trans (I.base.tups b xs q)
            frzs := fun b u y q => (upd_ne (ne_of_none (I.base.frzs b u y q) na)).trans (I.base.frzs b u y q)
            tbls := fun b ps q => by
              obtain ⟨m, r⟩ := I.base.tbls b ps q
              exact ⟨m, (upd_ne (ne_of_none r na)).trans r⟩ }
  loc := I.loc
  cell := I.cell
  free := (upd_ne (Ne.symm nl)).trans I.free
  freeC := fun y c q => by
    refine (upd_ne fun t => ?_).trans (I.freeC y c q)
    obtain ⟨v, oc, h1, h2⟩ := I.cell y c q
    rw [t, e] at h1
    cases h1
    rw [k] at h2
    cases h2
  pin := fun p hp => by
    obtain ⟨p1, p2, p3⟩ := I.pin p hp
    exact ⟨p1, (upd_ne (np p hp)).trans p2, p3⟩
  hok := fun b u q => by
    by_cases hb : b = a
    · subst hb
      rw [upd_same] at q
      cases q
      exact exk_ok e z k
    · rw [upd_ne hb] at q
      exact (I.hok b u q).stay (fun _ _ _ r => r) (fun c r => (upd_ne (ne_of_none r na)).trans r) fun c xs r => (upd_ne (ne_of_none r na)).trans r
  len := I.len
/-- the ends of a clause's suite that only runs through: the name is gone, the exception stays -/
abbrev kept (D : Ends) (i : Nat) (a : Addr) (cls : Value) (d : Option Addr) : Ends := ⟨fun σ H => H a = none → D.nx (σ.set i none) (upd H a (exk a cls d)), fun _ _ => False, fun _ _ => False, fun _ _ => False⟩
/-- what such a clause wishes of the exceptions of the body: all are of the class that it names -/
def wKeep (K : PySem.W.Frag) (c : Value) (i : Nat) (ts : Addr → Value → Option Addr → TS) (D : Ends) : WX := fun cls d σ H =>
  PySem.W.exmOne K cls c = some true ∧ ∀ a, H a = none → ts a cls d (kept D i a cls d) (σ.set i (some (.ref a))) H
section
variable {X : Cx} {x n : Str} {c : Value} {i : Nat} {body suite : List Stmt} {b₀ : Stmt} {np pos pos' : Pos} {tb : WX → TS} {ts : Addr → Value → Option Addr → TS}
/-- not a frame: a record is none -/
theorem noFrame {B g : Heap} {l : List Env} {a : Addr} {o : Obj} {fl : Array Value} (f : g.FunFrames B l) (e : g.get? a = some o) (k : o.data = .fields fl) : a ∉ frs l := by
  intro m
  obtain ⟨_, o2, e2, no⟩ := f.mem m
  rw [e] at e2
  cases e2
  exact no fl k
theorem ld_named {Y : Cx} {y : Str} {v : Value} {yp : Pos} {pins : List (Addr × Obj)} {σ : L2.St} {H : Hp} {s : Shared} {Q : Value → Shared → Prop} {E : Value → Shared → Prop} (J : L2.Inv Y pins σ H s) (hc : Names Y y v) (q : Q v s) :
    wpAny (model Y.prog Y.w) Y.A (eval (.Name y yp) Y.env) Q E s := by
  obtain ⟨hg, nd, k | ⟨k1, k2, k3⟩⟩ := hc
  · exact ld_glob J hg k q nd
  · exact ld_blt J hg k1 k2 q k3 nd
/-- what is run once the body has let u out -/
abbrev catcher (X : Cx) (cl : ExceptHandler) (R : Flow → Shared → Prop) (u : Value) (t : Shared) : Prop :=
  wpAny (model X.prog X.w) X.A (noteFrame u X.env) (fun _ t2 => wpAny (model X.prog X.w) X.A (setFlight u none)
    (fun _ t3 => wpAny (model X.prog X.w) X.A (handleBy u X.env [cl]) R X.xe t3) X.xe t2) X.xe t
theorem ps_try_keep (hc : Names X x c) (hi : X.N[i]? = some n) (hN : X.N.Nodup)
    (hb : ∀ (W : WX) (pn : List (Addr × Obj)) (xe : Value → Shared → Prop), Takes (X.tr pn xe) W → PSs (X.tr pn xe) body (tb W))
    (hsu : ∀ (a : Addr) (oe : Obj) (cls : Value) (d : Option Addr) (pn : List (Addr × Obj)), PSs (X.suite a ((a, oe) :: pn)) (b₀ :: suite) (ts a cls d))
    (hs : X.stack = X.env :: X.outer := by rfl) (hf : X.env.frame = some X.env.locals := by rfl) (hln : X.env.kindOf n = some .local := by rfl) (hex : X.ex = [] := by rfl) :
    PS X (.Try body [.ExceptHandler (some (.Name x np)) (some n) (b₀ :: suite) pos'] [] [] pos) (fun D => tb (wKeep X.K c i ts D) D) := by
  constructor
  intro pins s σ H D I h
  have ok := I.ok
  obtain ⟨cl, ecl⟩ : ∃ cl : ExceptHandler, cl = .ExceptHandler (some (.Name x np)) (some n) (b₀ :: suite) pos' := ⟨_, rfl⟩
  have caught : Takes (X.tr (X.pn ++ pins) (catcher X cl (SP X pins D))) (wKeep X.K c i ts D) := fun u s1 q => ?caught
  · rw [← ecl]
    refine wpAny_Try_except (wpAny_mono ((hb (wKeep X.K c i ts D) (X.pn ++ pins) _ caught).run [] s σ H D (I.toTry _) h) (fun f s1 q => ?_) fun u s1 q => q)
    cases f with
    | next =>
      obtain ⟨σ1, H1, J, q⟩ := q
      exact wpAny_execs_nil ⟨σ1, H1, J.ofTry ok, q⟩
    | brk =>
      obtain ⟨σ1, H1, J, q⟩ := q
      exact ⟨σ1, H1, J.ofTry ok, q⟩
    | cont =>
      obtain ⟨σ1, H1, J, q⟩ := q
      exact ⟨σ1, H1, J.ofTry ok, q⟩
    | ret u =>
      obtain ⟨v, σ1, H1, J, r, q⟩ := q
      exact ⟨v, σ1, H1, J.ofTry ok, r, q⟩
  · subst ecl
    obtain ⟨a, B, s2, _, σ1, H1, cls, d, rfl, J0, nb, up, sky, na, os, ag, mt, wt⟩ := q
    have J : L2.Inv X pins σ1 H1 s2 := J0.ofTry ok
    replace sky : Sky B (X.env :: X.outer) a (Zc cls d) X.env.locals s1.heap := hs ▸ sky
    show catcher X _ _ _ _
    refine Sky.land Zc.steady (ok.frames.trans (congrArg some hs)) hf sky fun g3 fl3 up3 => ?_
    obtain ⟨o3, f3, e3, z3, k3⟩ := fl3.there
    have out := noFrame fl3.2.2.1 e3 k3
    have nl : a ≠ X.env.locals := fun t => out (List.mem_filterMap.mpr ⟨X.env, List.mem_cons_self, t ▸ hf⟩)
    have nf : a ∉ X.fs := fun m => by
      obtain ⟨v, hv, t⟩ := List.mem_filterMap.mp m
      exact out (List.mem_filterMap.mpr ⟨v, List.mem_cons_of_mem _ hv, t⟩)
    have n2 : s2.heap.get? a = none := by
      cases t : s2.heap.get? a with
      | none => rfl
      | some o =>
        have y := nb a o t (by rw [← hs] at out; exact out)
        rw [fl3.2.1] at y
        cases y
    have n0 : X.s_0.heap.get? a = none := by
      cases t : X.s_0.heap.get? a with
      | none => rfl
      | some o =>
        obtain ⟨o', y⟩ := J.base.there a o t (by rw [hex]; exact List.not_mem_nil)
        rw [n2] at y
        cases y
    have np : ∀ p ∈ X.pn ++ pins, p.1 ≠ a := fun p hp t => by
      have y := (J.pin p hp).1
      rw [t, n2] at y
      cases y
    have L3 : L2.Inv X pins σ1 H1 { s1 with heap := g3 } := J.landed nb fl3.1 (up.trans up3) os ag
    have J3 := L3.suite e3 k3 na nl nf
    refine wpAny_handleBy_cons (codeAny_handlers_test ?_) (fun t => nomatch t)
    have mk := PySem.W.exm_one (M := model X.prog X.w) J3.kIn (fun A Q E s4 y t => wpAny_typeOf_ref (y _ _ e3) (z3.1.symm ▸ t)) mt
    refine ld_named J3 hc (mk.here ?_)
    refine codeAny_handlers_suite_as (HandSPX.lands_againZ fl3 fun g4 fl4 up4 => ?_)
    obtain ⟨o4, f4, e4, z4, k4⟩ := fl4.there
    have L4 : L2.Inv X pins σ1 H1 { s1 with heap := g4 } := J.landed nb fl4.1 ((up.trans up3).trans up4) os ag
    have J4 := L4.suite e4 k4 na nl nf
    refine store_ok (v := .ref a) (X := X.suite a ((a, o4) :: (X.pn ++ pins))) J4 hN hi (.inl hln) rfl (fun s5 J5 => ?_) (.inr hln)
    refine wpAny_mono ((hsu a o4 cls d (X.pn ++ pins)).run [] s5 _ H1 _ J5 (wt a na)) (fun f s6 q => ?_) fun _ _ t => False.elim t
    cases f with
    | next =>
      obtain ⟨σ6, H6, J6, q⟩ := q
      refine gone_ok (X := X.suite a ((a, o4) :: (X.pn ++ pins))) J6 hN hi hln fun s7 J7 => ?_
      obtain ⟨e7, n7, _⟩ := J7.pin (a, o4) (List.mem_append_left _ List.mem_cons_self)
      exact ⟨_, _, Inv.track (J7.unsuite ok) e7 z4 k4 n7 n0 nl np, q n7⟩
    | brk =>
      obtain ⟨_, _, _, t⟩ := q
      exact t.elim
    | cont =>
      obtain ⟨_, _, _, t⟩ := q
      exact t.elim
    | ret u =>
      obtain ⟨_, _, _, _, _, t⟩ := q
      exact t.elim
end
/-- a field of a kept exception -/
def tXk (C : Addr) (f : Str) (te : TE) : TE := fun σ H Q => te σ H fun v H1 => ∃ (a d : Addr) (fs : List (Str × V)) (u : V), v = .ref a ∧ H1 a = some (exk a (.ref C) (some d)) ∧ H1 d = some (.xd fs) ∧ fs.lookup f = some u ∧ Q u H1
theorem pe_xk {X : Cx} {C : Addr} {e : Expr} {te : TE} {pos : Pos} {n : Str} (T : XfC X.K C) (no : PySem.W.findIn X.K (.ref C) n = some none) (he : PE X e te) (hb : attributeBase e n X.env (eval e X.env) = eval e X.env := by rfl) : PE X (.Attribute e n pos) (tXk C n te) := by
  constructor
  intro pins s σ H Q I h
  refine attr_of hb (thn (he.run pins s σ H _ I h) fun u s1 hh => ?_)
  obtain ⟨_, H1, J, ru, a, d, fs, v, rfl, ka, kd, lk, q⟩ := hh
  cases ru
  obtain ⟨⟨o, fl, e1, z1, k1⟩, _⟩ := J.hok a _ ka
  obtain ⟨m, ns, rl⟩ := J.hok d _ kd
  obtain ⟨od, o1, o2⟩ := lookIn_ns ns
  have r := rl n
  rw [lk] at r
  obtain ⟨t, ht, rt⟩ := RelO.some_of r
  have at_ : PySem.W.InstAt s1.heap a o C (some od) := ⟨e1, z1.1, by unfold PySem.W.notCls; rw [k1], by rw [z1.2]; exact o1⟩
  have fo : PySem.W.findObj X.K C (some od) n = some (.value t) := PySem.W.findObj_own T.hdC no rfl ((o2 n).trans (congrArg some ht))
  exact HandSPX.exc_get J.kIn at_ T.ga T.gg T.exC fo (handed_of rt) ⟨v, H1, J.tok _, rt, q⟩
end Bo

namespace Bo
open PySem L2 PyProof.Rows
/-- what is asked of NoText where it is caught -/
structure XN (K : PySem.W.Frag) (mg : Str → Option Value) (C : Addr) : Prop where
  xf : XfC K C
  no : PySem.W.findIn K (.ref C) "at" = some none
  ex : PySem.W.exmOne K (.ref C) (.ref C) = some true
  m : mg "NoText" = some (.ref C)
theorem XN.names {X : Cx} {C : Addr} (N : XN X.K X.mg C) (hg : Gl X "NoText" := by rfl) : Names X "NoText" (.ref C) := ⟨hg, by decide, .inl N.m⟩
theorem takes_no {X : Cx} : Takes X (fun _ _ _ _ => False) := fun _ _ ⟨_, _, _, _, _, _, _, _, _, _, _, _, _, _, _, _, w⟩ => w.elim
section
variable {X : Cx} {k : Nat} {x : Str} {ps : List Str} {sp : Sp} {W : WX} {p pos : Pos} {e : Expr} {es : List Expr} {t : TA}
/-- a def that may raise, called where the slots are told of what it raises -/
theorem calS (C : Cal X.prog X.w X.K X.mg X.base (L2.CX X.prog X.w) k x ps sp) (hr : Room k X.A) (tk : Takes X W) (ha : PA X (e :: es) t) (hg : Gl X x := by rfl)
    (hdb : (x == ("__debug__" : Str)) = false := by decide) (he : starEach (e :: es) X.env = (false, eval e X.env) :: starEach es X.env := by rfl) (hpl : (backTo pos (starEach es X.env)).any (·.1) = false := by rfl) :
    PE X (.Call (.Name x p) (e :: es) [] pos) (tCallS sp (WE W) t) := by
  obtain ⟨f, fd, F, m, kp, b⟩ := C.ex
  exact pe_callS F hr hg m kp b (passAt tk) ha hdb he hpl
end
def spRef : Sp := fun vs H Q _ => ∃ l : Tx, vs = [strV l] ∧ l.length ≤ 64 ∧ (∀ is, readS l = .ok is → ∀ H', Same H H' → Q (.int (-1)) H') ∧ ∀ e : Nat, readS l = .error e → ∀ H', Same H H' → Q (.int (e : Nat)) H'
section
variable {P : Program} {w : World} {K : PySem.W.Frag} {mg : Str → Option Value} {base : Heap} {NC : Addr}
abbrev CReadRow (P : Program) (w : World) (K : PySem.W.Frag) (mg : Str → Option Value) (base : Heap) (NC : Addr) : Prop := Cal P w K mg base (L2.CX P w) 205 "read_row" ["text"] (spReadRow NC)
theorem scRef : FnScope ["_law_text", "_law_at", "e"] ["_law_text"] (defScope sRefusedAt) := ⟨rfl, rfl, rfl, by decide +kernel, rfl, by decide +kernel, by decide +kernel⟩
theorem ok_refused {f : Addr} {fd : FuncData} (F : Fun K "_law_refused_at" "_law_refused_at" sRefusedAt f fd) (N : XN K mg NC) (R : CReadRow P w K mg base NC) : FnOk P w K mg base CX0 206 f fd ["_law_text"] spRef := by
  refine F.ok scRef (fun vs H Q E h => ?_) (fun cdv A outer s H vs Q E hr h => ?_)
  · obtain ⟨l, rfl, _⟩ := h
    rfl
  obtain ⟨l, rfl, hl, qs, qe⟩ := h
  refine ⟨_, pss_cons (ps_set (i := 1) scRef.nd rfl (Or.inl rfl) (pe_un un_neg pe_int))
    (pss_cons (ps_try_as (i := 2) rfl rfl scRef.nd rfl rfl N.names takes_no (fun W pn xe tk pa => pss_one (ps_expr (calS R hr tk (pa_cons (pv 0) pa_nil))))
      (fun a oe cls d pn hz hf => pss_one (ps_set (i := 1) scRef.nd rfl (Or.inl rfl) (pe_xf N.xf N.no hz hf (pv 2)))))
    (pss_one (ps_ret (pv 1)))), ?_⟩
  refine ⟨1, rfl, _, rfl, l, rfl, hl, fun is hi b xs H1 s1 hb hp => ?_, fun e he d H1 s1 hd => ?_⟩
  · exact ⟨_, rfl, qs is hi _ s1⟩
  · refine ⟨true, N.ex, fun _ a ha => ?_, fun z => nomatch z⟩
    exact ⟨_, rfl, rfl, rfl, d, _, _, rfl, hd, rfl, _, rfl, qe e he _ s1⟩
end
end Bo

namespace Bo
open PySem L2 PyProof.Rows
def spBack : Sp := fun vs H Q _ => ∃ (k : Int) (l : Tx), vs = [.int k, strV l] ∧ (k = 0 ∨ k = 1 ∨ k = 2 ∨ k = 3 ∨ k = 4) ∧ l.length ≤ 64 ∧ ∀ H', Same H H' → Q (.bl true) H'
/-- the body of the try -/
abbrev askT (sh rd : Sp) (W : WX) : TS := tAsg (tCall sh [] E0 (tCons (tCallS rd (WE W) (tCons (tVar 1) tNil)) tNil)) (gName 2)
def bodyT (NC : Addr) (W : WX) : TS := fun D => tIfS (tTest (tOp rEq (tVar 0) (tC (V.int 0)))) (askT spShowRow (spReadRow NC) W) (tIfS (tTest (tOp rEq (tVar 0) (tC (V.int 1)))) (askT (spShow 58 goodT) (spRead NC 58 goodT) W)
  (tIfS (tTest (tOp rEq (tVar 0) (tC (V.int 2)))) (askT (spShow 45 goodL) (spRead NC 45 goodL) W) (tIfS (tTest (tOp rEq (tVar 0) (tC (V.int 3)))) (askT (spShow 45 goodL) (spRead NC 45 goodL) W) (askT (spShow 58 goodS) (spRead NC 58 goodS) W)))) D
theorem ask_pairs {NC : Addr} {s : Nat} {good : List (Int × Option Int) → Prop} {W : WX} {D : Ends} {H : Hp} {l : Tx} {v0 v3 v4 v5 v2 : Option V} (hl : l.length ≤ 64)
    (g : ∀ H', Same H H' → D.nx [v0, some (strV l), some (strV l), v3, v4, v5] H') (b : ∀ e : Nat, e ≤ (wsOf l).length → ∀ d H', Same H H' → H' d = some (.xd (atF (e : Nat))) → W (.ref NC) (some d) [v0, some (strV l), v2, v3, v4, v5] H') :
    askT (spShow s good) (spRead NC s good) W D [v0, some (strV l), v2, v3, v4, v5] H := by
  refine ⟨_, rfl, l, rfl, hl, fun ps a xs H1 hj hg s1 ha hp => ⟨a, xs, ps, rfl, ha, hp, hg, by rw [hj]; omega, fun H2 s2 => ?_⟩, fun e he d H1 s1 hd => b e he d H1 s1 hd⟩
  rw [hj]
  exact g H2 (s1.trans s2)
theorem body_run {NC : Addr} {W : WX} {D : Ends} {H : Hp} {k : Int} {l : Tx} {v3 v4 v5 v2 : Option V} (hl : l.length ≤ 64) (hk : k = 0 ∨ k = 1 ∨ k = 2 ∨ k = 3 ∨ k = 4)
    (g : ∀ H', Same H H' → D.nx [some (.int k), some (strV l), some (strV l), v3, v4, v5] H') (b : ∀ e : Nat, e ≤ (wsOf l).length → ∀ d H', Same H H' → H' d = some (.xd (atF (e : Nat))) → W (.ref NC) (some d) [some (.int k), some (strV l), v2, v3, v4, v5] H') :
    bodyT NC W D [some (.int k), some (strV l), v2, v3, v4, v5] H := by
  rcases hk with rfl | rfl | rfl | rfl | rfl
  · refine ⟨_, rfl, rfl, _, rfl, iteT ?_⟩
    refine ⟨_, rfl, l, rfl, hl, fun is hi a xs H1 s1 ha hp => ?_, fun e he d H1 s1 hd => b e (readS_at he) d H1 s1 hd⟩
    obtain ⟨hj, _, ok⟩ := readS_tx hi
    refine ⟨a, xs, is, rfl, ha, hp, by rw [hj]; omega, ok, fun H2 s2 => ?_⟩
    rw [hj]
    exact g H2 (s1.trans s2)
  · exact ⟨_, rfl, rfl, _, rfl, iteF ⟨_, rfl, rfl, _, rfl, iteT (ask_pairs hl g b)⟩⟩
  · exact ⟨_, rfl, rfl, _, rfl, iteF ⟨_, rfl, rfl, _, rfl, iteF ⟨_, rfl, rfl, _, rfl, iteT (ask_pairs hl g b)⟩⟩⟩
  · exact ⟨_, rfl, rfl, _, rfl, iteF ⟨_, rfl, rfl, _, rfl, iteF ⟨_, rfl, rfl, _, rfl, iteF ⟨_, rfl, rfl, _, rfl, iteT (ask_pairs hl g b)⟩⟩⟩⟩
  · exact ⟨_, rfl, rfl, _, rfl, iteF ⟨_, rfl, rfl, _, rfl, iteF ⟨_, rfl, rfl, _, rfl, iteF ⟨_, rfl, rfl, _, rfl, iteF (ask_pairs hl g b)⟩⟩⟩⟩
theorem many_eq (l : Tx) : ((((Txt.split (ofL l) (ofL [32])).map V.str).length : Int) * if (!decide (strV l = V.str (Str.ofString ""))) = true then 1 else 0) = ((wsOf l).length : Int) := by
  rw [show (Str.ofString "" : Str) = ofL [] by decide +kernel, ofL_dec]
  by_cases h : l = []
  · rw [h]
    rfl
  · rw [decide_eq_false h, split_ws h, List.length_map]
    exact Int.mul_one _
section
variable {P : Program} {w : World} {K : PySem.W.Frag} {mg : Str → Option Value} {base : Heap} {NC : Addr}
theorem scBack : FnScope ["_law_kind", "_law_text", "_law_told", "_law_caught", "_law_many", "e"] ["_law_kind", "_law_text"] (defScope sBack) := ⟨rfl, rfl, rfl, by decide +kernel, rfl, by decide +kernel, by decide +kernel⟩
theorem ok_back {f : Addr} {fd : FuncData} (F : Fun K "_law_back" "_law_back" sBack f fd) (B : Bi mg) (N : XN K mg NC)
    (R0 : CReadRow P w K mg base NC) (S0' : Cal P w K mg base CX0 205 "show_row" ["row"] spShowRow)
    (R1 : Cal P w K mg base (L2.CX P w) 4 "read_table" ["text"] (spRead NC 58 goodT)) (S1 : Cal P w K mg base CX0 4 "show_table" ["table"] (spShow 58 goodT))
    (R2 : Cal P w K mg base (L2.CX P w) 4 "read_stretches" ["text"] (spRead NC 45 goodL)) (S2 : Cal P w K mg base CX0 3 "show_stretches" ["stretches"] (spShow 45 goodL))
    (R3 : Cal P w K mg base (L2.CX P w) 4 "read_lot" ["text"] (spRead NC 45 goodL))
    (R4 : Cal P w K mg base (L2.CX P w) 4 "read_shelf" ["text"] (spRead NC 58 goodS)) (S4 : Cal P w K mg base CX0 4 "show_shelf" ["shelf"] (spShow 58 goodS)) :
    FnOk P w K mg base CX0 206 f fd ["_law_kind", "_law_text"] spBack := by
  refine F.ok scBack (fun vs H Q E h => ?_) (fun cdv A outer s H vs Q E hr h => ?_)
  · obtain ⟨k, l, rfl, _⟩ := h
    rfl
  obtain ⟨k, l, rfl, hk, hl, q⟩ := h
  refine ⟨_, pss_cons (ps_set (i := 2) scBack.nd rfl (Or.inl rfl) pe_non) (pss_cons (ps_set (i := 3) scBack.nd rfl (Or.inl rfl) pe_non)
    (pss_cons (ps_set (i := 4) scBack.nd rfl (Or.inl rfl) (pe_op op_mul (pe_callB call_len_seq (by rfl) B.len PySem.boot_len (pa_cons (pe_split (pv 1) pe_str) pa_nil)) (pe_callTy call_int1 (by rfl) B.int boot_int (pa_cons (pe_cmpR op_ne (pv 1) pe_str (nomark _)) pa_nil))))
    (pss_cons (ps_try_keep (i := 5) N.names rfl scBack.nd
      (fun W pn xe tk => pss_one (ps_if (pt_cmpR op_eq (pv 0) pe_int (nomark _)) (pss_one (ps_set (i := 2) scBack.nd rfl (Or.inl rfl) (cal S0' hr pass0 (pa_cons (calS R0 hr tk (pa_cons (pv 1) pa_nil)) pa_nil))))
        (pss_one (ps_if (pt_cmpR op_eq (pv 0) pe_int (nomark _)) (pss_one (ps_set (i := 2) scBack.nd rfl (Or.inl rfl) (cal S1 (hr.mono (by decide)) pass0 (pa_cons (calS R1 (hr.mono (by decide)) tk (pa_cons (pv 1) pa_nil)) pa_nil))))
        (pss_one (ps_if (pt_cmpR op_eq (pv 0) pe_int (nomark _)) (pss_one (ps_set (i := 2) scBack.nd rfl (Or.inl rfl) (cal S2 (hr.mono (by decide)) pass0 (pa_cons (calS R2 (hr.mono (by decide)) tk (pa_cons (pv 1) pa_nil)) pa_nil))))
        (pss_one (ps_if (pt_cmpR op_eq (pv 0) pe_int (nomark _)) (pss_one (ps_set (i := 2) scBack.nd rfl (Or.inl rfl) (cal S2 (hr.mono (by decide)) pass0 (pa_cons (calS R3 (hr.mono (by decide)) tk (pa_cons (pv 1) pa_nil)) pa_nil))))
        (pss_one (ps_set (i := 2) scBack.nd rfl (Or.inl rfl) (cal S4 (hr.mono (by decide)) pass0 (pa_cons (calS R4 (hr.mono (by decide)) tk (pa_cons (pv 1) pa_nil)) pa_nil))))))))))))
      (fun a oe cls d pn => pss_one (ps_set (i := 3) scBack.nd rfl (Or.inl rfl) (pv 5))))
    (pss_cons (ps_if (pt_cmpR op_isN (pv 3) pe_non (nomark _)) (pss_one (ps_ret (pe_cmpR op_eq (pv 2) (pv 1) (nomark _)))) pss_nil)
    (pss_one (ps_ret (pe_and (pe_isi B (pe_xk N.xf N.no (pv 3)) rfl rfl B.int boot_int) (pe_and (pe_not (pe_isi B (pe_xk N.xf N.no (pv 3)) rfl rfl B.bool boot_bool)) (pe_one (pe_chain op_le op_le pe_int (pe_xk N.xf N.no (pv 3)) (pv 4)))))))))))
    , ?_⟩
  have wsl : (wsOf l).length ≤ l.length + 1 := ws_count l
  refine ⟨_, rfl, ⟨_, rfl⟩, ofL l, ofL [32], rfl, (by rw [show (Str.ofString " " : Str) = ofL [32] by decide +kernel]), rfl, (by rw [ofL_len]; exact small (by omega)), fun p hp => ?_⟩
  have s0 : Same H (upd H p (.lst ((Txt.split (ofL l) (ofL [32])).map V.str))) := same_new hp _
  refine ⟨p, _, rfl, .inl (SqL.of upd_same), _, rfl, rfl, .inr ⟨_, rfl, _, _, rfl, rfl, .inr ?_, ?_⟩⟩
  · split <;> decide
  show bodyT NC (wKeep K (.ref NC) 5 (fun a cls d => tAsg (tVar 5) (gName 3)) _) _ [some (.int k), some (strV l), some .non, some .non, some (.int ((((Txt.split (ofL l) (ofL [32])).map V.str).length : Int) * if (!decide (strV l = V.str (Str.ofString ""))) = true then 1 else 0)), none] _
  rw [many_eq]
  refine body_run hl hk (fun H1 s1 => ?_) (fun e he d H1 s1 hd => ?_)
  · refine ⟨_, rfl, rfl, _, rfl, iteT ⟨_, rfl, _, rfl, rfl, ?_⟩⟩
    rw [decide_eq_true rfl]
    exact q H1 (s0.trans s1)
  · refine ⟨N.ex, fun a ha => ⟨_, rfl, fun na => ?_⟩⟩
    have kd : upd H1 a (exk a (.ref NC) (some d)) d = some (.xd (atF (e : Nat))) := same_new na _ _ _ hd
    have at_ : (atF (e : Nat)).lookup ("at" : Str) = some (V.int (e : Nat)) := rfl
    refine ⟨_, rfl, rfl, _, rfl, iteF ?_⟩
    refine ⟨_, rfl, a, d, _, _, rfl, upd_same, kd, at_, .int (e : Nat), .ty "int", _, _, true, rfl, .ty "int", .base (.int _), kit_ty (by decide +kernel), _, rfl, iteT ?_⟩
    refine ⟨_, rfl, a, d, _, _, rfl, upd_same, kd, at_, .int (e : Nat), .ty "bool", _, _, false, rfl, .ty "bool", .base (.int _), kit_ty (by decide +kernel), _, rfl, _, rfl, iteT ?_⟩
    refine ⟨_, rfl, a, d, _, _, rfl, upd_same, kd, at_, _, _, rfl, rfl, _, rfl, ?_⟩
    rw [decide_eq_true (Int.natCast_nonneg e)]
    refine iteT ⟨_, rfl, _, _, rfl, rfl, ?_⟩
    show Q (V.bl (decide (((e : Nat) : Int) ≤ ((wsOf l).length : Nat)))) _
    rw [decide_eq_true (Int.ofNat_le.mpr he)]
    exact q _ ((s0.trans s1).trans (same_new na _))
end
end Bo

namespace Bo
open PySem L2 PyProof.Rows
/-! ### the law's own numbers -/
def CPowW (i j : Int) : Prop := 0 ≤ j ∧ (Builtin.Int.intBits i : Int) * j ≤ 2 ^ 27
theorem op_powW {X : Cx} : OpR X (binaryOp .Pow) (rI CPowW fun i j => .int (i ^ j.toNat)) := opI fun _ _ _ _ _ _ _ hc q => pow_int hc.1 hc.2 q
theorem bits_of {i : Int} {n : Nat} (h : i.natAbs < 2 ^ n) (h0 : 0 < n) : Builtin.Int.intBits i ≤ n := by
  have := PySem.Flt.log2_lt_of h0 h
  unfold Builtin.Int.intBits
  split <;> omega
theorem pow_wide {i : Int} {n k : Nat} (h : i.natAbs < 2 ^ n) (h0 : 0 < n) (hk : n * k ≤ 134217728) : CPowW i (k : Nat) := by
  refine ⟨Int.natCast_nonneg k, ?_⟩
  have h1 : Builtin.Int.intBits i * k ≤ n * k := Nat.mul_le_mul_right k (bits_of h h0)
  have e : (2 : Int) ^ 27 = 134217728 := by decide
  rw [e]
  have : ((Builtin.Int.intBits i * k : Nat) : Int) ≤ 134217728 := by omega
  rw [Int.natCast_mul] at this
  exact this
def tinL (a b c : Int) : List V := [.int a, .int b, .int c]
def P140 : Int := 2 ^ 140
def TinO (o : HO) (n : Nat) : Prop := ∃ a b c : Int, o = .lst (tinL a b c) ∧ 0 ≤ a ∧ 0 ≤ b ∧ b < P140 ∧ 0 ≤ c ∧ c ≤ (n : Nat)
theorem TinO.mono {o : HO} {n m : Nat} (h : TinO o n) (l : n ≤ m) : TinO o m := by
  obtain ⟨a, b, c, h1, h2, h3, h4, h5, h6⟩ := h
  exact ⟨a, b, c, h1, h2, h3, h4, h5, by omega⟩
structure DealP (vs : List V) (H : Hp) (Q : VK) : Prop where
  ex : ∃ (a : Addr) (w : Int) (o : HO) (n : Nat), vs = [.ref a, .int w] ∧ 0 < w ∧ w ≤ 10 ^ 14 ∧ H a = some o ∧ TinO o n ∧ n ≤ 1000000 ∧ ∀ v o', 0 ≤ v → v < w → TinO o' (n + 1) → Q (.int v) (upd H a o')
def spDeal : Sp := fun vs H Q _ => DealP vs H Q
theorem tin0 {a b c : Int} : atI (tinL a b c) 0 = some (.int a) := atI_nat (j := 0) rfl
theorem tin1 {a b c : Int} : atI (tinL a b c) 1 = some (.int b) := atI_nat (j := 1) rfl
theorem tin2 {a b c : Int} : atI (tinL a b c) 2 = some (.int c) := atI_nat (j := 2) rfl
section
variable {P : Program} {w : World} {K : PySem.W.Frag} {mg : Str → Option Value} {base : Heap}
theorem scDeal : FnScope ["_law_tin_here", "_law_wide", "_law_found", "_law_mixed"] ["_law_tin_here", "_law_wide"] (defScope sDeal) := ⟨rfl, rfl, rfl, by decide +kernel, rfl, by decide +kernel, by decide +kernel⟩
theorem ok_deal {f : Addr} {fd : FuncData} (F : Fun K "_law_deal" "_law_deal" sDeal f fd) : FnOk P w K mg base CX0 1 f fd ["_law_tin_here", "_law_wide"] spDeal := by
  refine F.ok scDeal (fun vs H Q E h => ?_) (fun cdv A outer s H vs Q E hr h => ?_)
  · obtain ⟨a, w, o, n, rfl, _⟩ := h.ex
    rfl
  obtain ⟨a, w, o, n, rfl, w0, w1, ha, ⟨x, y, z, rfl, x0, y0, y1, z0, z1⟩, hn, q⟩ := h.ex
  refine ⟨_, pss_cons (ps_if (pt_cmpR op_gt (pe_ix ix_list (pv 0) pe_int (fun _ _ => rfl)) pe_int (nomark _))
      (pss_cons (ps_set (i := 2) scDeal.nd rfl (Or.inl rfl) (pe_op op_mod (pe_ix ix_list (pv 0) pe_int (fun _ _ => rfl)) (pv 1)))
      (pss_cons (ps_asg (pe_op op_fdivW (pe_ix ix_list (pv 0) pe_int (fun _ _ => rfl)) (pv 1)) (pg_sub (pv 0) pe_int set_list))
      (pss_one (ps_ret (pv 2))))) pss_nil)
    (pss_cons (ps_asg (pe_op op_add (pe_ix ix_list (pv 0) pe_int (fun _ _ => rfl)) pe_int) (pg_sub (pv 0) pe_int set_list))
    (pss_cons (ps_set (i := 3) scDeal.nd rfl (Or.inl rfl) (pe_op op_mod (pe_op op_powW (pe_op op_add (pe_ix ix_list (pv 0) pe_int (fun _ _ => rfl)) (pe_op op_mul pe_int (pe_ix ix_list (pv 0) pe_int (fun _ _ => rfl)))) pe_int) (pe_op op_add (pe_op op_powW pe_int pe_int) pe_int)))
    (pss_cons (ps_set (i := 3) scDeal.nd rfl (Or.inl rfl) (pe_op op_mod (pe_op op_powW (pe_op op_add (pv 3) (pe_op op_mul pe_int (pe_ix ix_list (pv 0) pe_int (fun _ _ => rfl)))) pe_int) (pe_op op_add (pe_op op_powW pe_int pe_int) pe_int)))
    (pss_one (ps_ret (pe_op op_mod (pe_op op_fdiv (pv 3) pe_int) (pv 1))))))), ?_⟩
  have hp : (P140 : Int) = 1393796574908163946345982392040522594123776 := by decide
  have w64 : w.natAbs < 2 ^ 64 := by
    have e1 : (10 : Int) ^ 14 = 100000000000000 := by decide
    have e2 : (2 : Nat) ^ 64 = 18446744073709551616 := by decide
    omega
  refine ⟨_, rfl, a, _, 0, _, rfl, rfl, SqL.of ha, tin0, _, _, rfl, rfl, _, rfl, ?_⟩
  by_cases hx : x > 0
  · rw [decide_eq_true hx]
    refine iteT ⟨_, rfl, a, _, 0, _, rfl, rfl, SqL.of ha, tin0, _, rfl, _, _, rfl, rfl, w0, ?_⟩
    refine ⟨_, rfl, a, _, 0, _, rfl, rfl, SqL.of ha, tin0, _, rfl, _, _, rfl, rfl, wide_div w0 w64 (by decide) (by decide), ?_⟩
    refine ⟨_, rfl, a, _, 0, 0, rfl, rfl, ha, rfl, _, rfl, ?_⟩
    exact q _ _ (Int.emod_nonneg _ (by omega)) (Int.emod_lt_of_pos _ w0) ⟨x / w, y, z, rfl, Int.ediv_nonneg x0 (by omega), y0, y1, z0, by omega⟩
  · rw [decide_eq_false hx]
    refine iteF ⟨_, rfl, a, _, 2, _, rfl, rfl, SqL.of ha, tin2, _, _, rfl, rfl, ?_⟩
    refine ⟨_, rfl, a, _, 2, 2, rfl, rfl, ha, rfl, ?_⟩
    have e150 : (2 : Nat) ^ 150 = 1427247692705959881058285969449495136382746624 := by decide
    have e38 : (10 : Int) ^ (38 : Int).toNat = 100000000000000000000000000000000000000 := by decide
    have e40 : (10 : Int) ^ (40 : Int).toNat = 10000000000000000000000000000000000000000 := by decide
    have b1 : (y + 9576890767 * (z + 1)).natAbs < 2 ^ 150 := by omega
    have b2 : ∀ u : Int, (u % (10 ^ (38 : Int).toNat + 133) + 32452843 * (z + 1)).natAbs < 2 ^ 150 := fun u => by
      rw [e38]
      have := Int.emod_nonneg u (show (100000000000000000000000000000000000000 : Int) + 133 ≠ 0 by decide)
      have := Int.emod_lt_of_pos u (show 0 < (100000000000000000000000000000000000000 : Int) + 133 by decide)
      omega
    have d1 : (0 : Int) < 10 ^ (38 : Int).toNat + 133 := by rw [e38]; decide
    have d2 : (0 : Int) < 10 ^ (40 : Int).toNat + 121 := by rw [e40]; decide
    have t10 : (10 : Int).natAbs < 2 ^ 64 := by decide
    refine ⟨_, rfl, a, _, 1, _, rfl, rfl, SqL.of upd_same, tin1, _, rfl, a, _, 2, _, rfl, rfl, SqL.of upd_same, tin2, _, _, rfl, rfl, .inl ⟨by decide, by decide⟩, _, _, rfl, rfl, _, _, rfl, rfl, pow_wide (k := 3) b1 (by decide) (by decide),
      _, _, rfl, rfl, pow_wide (k := 38) t10 (by decide) (by decide), _, _, rfl, rfl, _, _, rfl, rfl, d1, ?_⟩
    refine ⟨_, rfl, _, rfl, a, _, 2, _, rfl, rfl, SqL.of upd_same, tin2, _, _, rfl, rfl, .inl ⟨by decide, by decide⟩, _, _, rfl, rfl, _, _, rfl, rfl, pow_wide (k := 5) (b2 _) (by decide) (by decide),
      _, _, rfl, rfl, pow_wide (k := 40) t10 (by decide) (by decide), _, _, rfl, rfl, _, _, rfl, rfl, d2, ?_⟩
    refine ⟨_, rfl, _, _, rfl, rfl, ⟨by decide, by decide⟩, _, rfl, _, _, rfl, rfl, w0, ?_⟩
    exact q _ _ (Int.emod_nonneg _ (by omega)) (Int.emod_lt_of_pos _ w0) ⟨x, y, z + 1, rfl, x0, y0, y1, by omega, by omega⟩
end
end Bo

namespace Bo
open PySem L2 PyProof.Rows
def spTin (K : PySem.W.Frag) : Sp := fun vs H Q _ => ∃ (s : Addr) (ns : List Int) (k : Nat), vs = [.ref s, .int (k : Nat)] ∧ SqL K H s (ns.map V.int) ∧ k ≤ 10 ∧ ∀ p o, H p = none → TinO o 0 → Q (.ref p) (upd H p o)
section
variable {P : Program} {w : World} {K : PySem.W.Frag} {mg : Str → Option Value} {base : Heap}
theorem scTin : FnScope ["_law_script", "_law_k", "_law_cell"] ["_law_script", "_law_k"] (defScope sTin) := ⟨rfl, rfl, rfl, by decide +kernel, rfl, by decide +kernel, by decide +kernel⟩
theorem ok_tin {f : Addr} {fd : FuncData} (F : Fun K "_law_tin" "_law_tin" sTin f fd) (B : Bi mg) : FnOk P w K mg base CX0 1 f fd ["_law_script", "_law_k"] (spTin K) := by
  refine F.ok scTin (fun vs H Q E h => ?_) (fun cdv A outer s H vs Q E hr h => ?_)
  · obtain ⟨a, ns, k, rfl, _⟩ := h
    rfl
  obtain ⟨a, ns, k, rfl, ha, hk, q⟩ := h
  refine ⟨_, pss_cons (ps_set (i := 2) scTin.nd rfl (Or.inl rfl) pe_int)
    (pss_cons (ps_if (pt_cmpR op_lt (pv 1) (pe_callB call_len_seq (by rfl) B.len PySem.boot_len (pa_cons (pv 0) pa_nil)) (nomark _)) (pss_one (ps_set (i := 2) scTin.nd rfl (Or.inl rfl) (pe_ix ix_list (pv 0) (pv 1) (fun _ _ => rfl)))) pss_nil)
    (pss_one (ps_ret (pe_lst (pa_cons (pe_callB (call_max2 rfl) (by rfl) B.max boot_max (pa_cons pe_int (pa_cons (pe_op op_sub (pe_callB call_abs (by rfl) B.abs boot_abs (pa_cons (pv 2) pa_nil)) (pe_op op_powW pe_int pe_int)) pa_nil)))
      (pa_cons (pe_op op_add (pe_op op_mul (pe_op op_mod (pv 2) (pe_op op_add (pe_op op_powW pe_int pe_int) pe_int)) pe_int) (pv 1)) (pa_cons pe_int pa_nil))))))), ?_⟩
  have t10 : (10 : Int).natAbs < 2 ^ 64 := by decide
  have e37 : (10 : Int) ^ (37 : Int).toNat = 10000000000000000000000000000000000000 := by decide
  have d1 : (0 : Int) < 10 ^ (37 : Int).toNat + 43 := by rw [e37]; decide
  have hp : (P140 : Int) = 1393796574908163946345982392040522594123776 := by decide
  have fin : ∀ c : Int, tRet (tLst (tCons (tCB (fun xs H Q => ∃ i j, xs = [V.int i, V.int j] ∧ Q (V.int (if j > i then j else i)) H) (tCons (tC (.int 0)) (tCons (tOp (rI0 fun i j => .int (i - j)) (tCB (fun xs H Q => ∃ i, xs = [V.int i] ∧ Q (V.int (if i < 0 then -i else i)) H) (tCons (tVar 2) tNil)) (tOp (rI CPowW fun i j => .int (i ^ j.toNat)) (tC (.int 10)) (tC (.int 18)))) tNil)))
      (tCons (tOp (rI0 fun i j => .int (i + j)) (tOp (rI CMul fun i j => .int (i * j)) (tOp (rI (fun _ j => 0 < j) fun i j => .int (i % j)) (tVar 2) (tOp (rI0 fun i j => .int (i + j)) (tOp (rI CPowW fun i j => .int (i ^ j.toNat)) (tC (.int 10)) (tC (.int 37))) (tC (.int 43)))) (tC (.int 64))) (tVar 1)) (tCons (tC (.int 0)) tNil))))
      { nx := fun _ H' => Q V.non H', rt := Q } [some (.ref a), some (.int (k : Nat)), some (.int c)] H := fun c => by
    refine ⟨_, rfl, _, rfl, _, _, rfl, rfl, pow_wide (k := 18) t10 (by decide) (by decide), _, _, rfl, rfl, _, _, rfl, ?_⟩
    refine ⟨_, rfl, _, _, rfl, rfl, pow_wide (k := 37) t10 (by decide) (by decide), _, _, rfl, rfl, _, _, rfl, rfl, d1, _, _, rfl, rfl, .inr ⟨by decide, by decide⟩, _, rfl, _, _, rfl, rfl, (by show 3 ≤ sizeLine; exact small (by decide)), fun p h => q p _ h ⟨_, _, 0, rfl, ?_, ?_, ?_, Int.le_refl _, Int.le_refl _⟩⟩
    · split <;> omega
    · have := Int.emod_nonneg c (show (10 : Int) ^ (37 : Int).toNat + 43 ≠ 0 by omega)
      omega
    · have := Int.emod_lt_of_pos c d1
      rw [hp]
      omega
  refine ⟨_, rfl, _, rfl, a, _, rfl, .inl ha, _, _, rfl, rfl, _, rfl, ?_⟩
  by_cases hx : ((k : Nat) : Int) < ((ns.map V.int).length : Nat)
  · rw [decide_eq_true hx]
    have hk2 : k < ns.length := by
      rw [List.length_map] at hx
      omega
    refine iteT ⟨_, rfl, _, rfl, a, _, _, _, rfl, rfl, ha, atI_nat (j := k) (v := V.int ns[k]) ?_, fin _⟩
    rw [List.getElem?_map, List.getElem?_eq_getElem hk2]
    rfl
  · rw [decide_eq_false hx]
    exact iteF (fin 0)
end
end Bo

namespace Bo
open PySem L2 PyProof.Rows
/-- all that was tracked is kept, but what stands at a -/
def SameBut (a : Addr) (H H' : Hp) : Prop := ∀ b u, b ≠ a → H b = some u → H' b = some u
theorem SameBut.refl {a : Addr} {H : Hp} : SameBut a H H := fun _ _ _ q => q
theorem SameBut.trans {a : Addr} {H H1 H2 : Hp} (x : SameBut a H H1) (y : SameBut a H1 H2) : SameBut a H H2 := fun b u n q => y b u n (x b u n q)
theorem SameBut.of {a : Addr} {H H1 : Hp} (x : Same H H1) : SameBut a H H1 := fun b u _ q => x b u q
theorem SameBut.upd {a : Addr} {H : Hp} {o : HO} : SameBut a H (upd H a o) := fun b u n q => by rw [upd_ne n]; exact q
/-- the numbers that are dealt from stand at a -/
def TinAt (a : Addr) (H : Hp) (n : Nat) : Prop := ∃ o, H a = some o ∧ TinO o n
theorem TinAt.same {a : Addr} {H H' : Hp} {n : Nat} (h : TinAt a H n) (s : Same H H') : TinAt a H' n := by
  obtain ⟨o, h1, h2⟩ := h
  exact ⟨o, s _ _ h1, h2⟩
theorem TinAt.mono {a : Addr} {H : Hp} {n m : Nat} (h : TinAt a H n) (l : n ≤ m) : TinAt a H m := by
  obtain ⟨o, h1, h2⟩ := h
  exact ⟨o, h1, h2.mono l⟩
theorem TinAt.ne {a b : Addr} {H : Hp} {n : Nat} (h : TinAt a H n) (hb : H b = none) : b ≠ a := by
  obtain ⟨o, h1, _⟩ := h
  exact (ne_of_none h1 hb).symm
/-- a deal, at its caller -/
theorem deal {a : Addr} {w : Int} {n : Nat} {H : Hp} {Q : VK} (h : TinAt a H n) (h0 : 0 < w) (h1 : w ≤ 10 ^ 14) (hn : n ≤ 1000000) (q : ∀ v H', 0 ≤ v → v < w → TinAt a H' (n + 1) → SameBut a H H' → Q (.int v) H') : DealP [.ref a, .int w] H Q := by
  obtain ⟨o, e, t⟩ := h
  exact ⟨⟨a, w, o, n, rfl, h0, h1, e, t, hn, fun v o' v0 v1 t' => q v _ v0 v1 ⟨o', upd_same, t'⟩ SameBut.upd⟩⟩
theorem nest_nil (cs : List Tx) : nestT [] cs = joinB cs := by
  show [] ++ (joinB cs ++ []) = joinB cs
  rw [List.append_nil, List.nil_append]
theorem nest_cons (d : Int) (ns : List Int) (cs : List Tx) : nestT (d :: ns) cs = numT d ++ [42, 40] ++ nestT ns cs ++ [41] := by
  unfold nestT preN
  rw [List.map_cons, List.flatten_cons, List.length_cons, List.replicate_succ']
  simp only [List.append_assoc]
theorem num1 {d : Int} (h0 : 0 ≤ d) (h1 : d < 3) : (numT d).length = 1 := by
  have h : d = 0 ∨ d = 1 ∨ d = 2 := by omega
  rcases h with rfl | rfl | rfl <;> decide +kernel
theorem inner_len {cs : List Tx} (h : cs ∈ innerC) : (joinB cs).length ≤ 6 := by
  have : ∀ c ∈ innerC, (joinB c).length ≤ 6 := by decide +kernel
  exact this cs h
theorem nest_len {cs : List Tx} (h : cs ∈ innerC) : ∀ {ns : List Int}, (∀ n ∈ ns, 0 ≤ n ∧ n < 3) → (nestT ns cs).length ≤ 6 + 4 * ns.length
  | [], _ => by
    rw [nest_nil]
    exact inner_len h
  | d :: r, hn => by
    have ih := nest_len h (ns := r) fun m hm => hn m (List.mem_cons_of_mem _ hm)
    obtain ⟨d0, d1⟩ := hn d List.mem_cons_self
    have := num1 d0 d1
    rw [nest_cons]
    simp only [List.length_append, List.length_cons, List.length_nil]
    omega
def spDeep : Sp := fun vs H Q _ => ∃ (a : Addr) (n : Nat), vs = [.ref a, .int 8] ∧ TinAt a H n ∧ n ≤ 900000 ∧
  ∀ ns cs H', ns.length = 8 → (∀ m ∈ ns, 0 ≤ m ∧ m < 3) → cs ∈ innerC → TinAt a H' (n + 9) → SameBut a H H' → Q (strV (nestT ns cs)) H'
section
variable {P : Program} {w : World} {K : PySem.W.Frag} {mg : Str → Option Value} {base : Heap}
abbrev CDeal (P : Program) (w : World) (K : PySem.W.Frag) (mg : Str → Option Value) (base : Heap) : Prop := Cal P w K mg base CX0 1 "_law_deal" ["_law_tin_here", "_law_wide"] spDeal
theorem scDeep : FnScope ["_law_tin_here", "_law_deep_here", "_law_inner", "_law_turn"] ["_law_tin_here", "_law_deep_here"] (defScope sDeep) := ⟨rfl, rfl, rfl, by decide +kernel, rfl, by decide +kernel, by decide +kernel⟩
theorem inner_at {v : Int} (h0 : 0 ≤ v) (h1 : v < 3) : ∃ cs, cs ∈ innerC ∧ atI [V.str (Str.ofString "3-"), V.str (Str.ofString "0-5 2-"), V.str (Str.ofString "")] v = some (strV (nestT [] cs)) := by
  have h : v = 0 ∨ v = 1 ∨ v = 2 := by omega
  rcases h with rfl | rfl | rfl
  · exact ⟨[[51, 45]], by decide, (atI_nat (j := 0) rfl).trans (by rw [nest_nil, show (Str.ofString "3-" : Str) = ofL (joinB [[51, 45]]) by decide +kernel])⟩
  · exact ⟨[[48, 45, 53], [50, 45]], by decide, (atI_nat (j := 1) rfl).trans (by rw [nest_nil, show (Str.ofString "0-5 2-" : Str) = ofL (joinB [[48, 45, 53], [50, 45]]) by decide +kernel])⟩
  · exact ⟨[], by decide, (atI_nat (j := 2) rfl).trans (by rw [nest_nil, show (Str.ofString "" : Str) = ofL (joinB []) by decide +kernel])⟩
theorem ok_deep {f : Addr} {fd : FuncData} (F : Fun K "_law_deep" "_law_deep" sDeep f fd) (B : Bi mg) (D : CDeal P w K mg base) : FnOk P w K mg base CX0 2 f fd ["_law_tin_here", "_law_deep_here"] spDeep := by
  refine F.ok scDeep (fun vs H Q E h => ?_) (fun cdv A outer s H vs Q E hr h => ?_)
  · obtain ⟨a, n, rfl, _⟩ := h
    rfl
  obtain ⟨a, n, rfl, ht, hn, q⟩ := h
  refine ⟨_, pss_cons (ps_set (i := 2) scDeep.nd rfl (Or.inl rfl) (pe_ix ix_list (pe_lst (pa_cons pe_str (pa_cons pe_str (pa_cons pe_str pa_nil)))) (cal D hr pass0 (pa_cons (pv 0) (pa_cons pe_int pa_nil))) (fun _ _ => rfl)))
    (pss_cons (ps_for PassesOwn.never rfl (pi_range1 (by rfl) B.range (pa_cons (pv 1) pa_nil)) (pg_name (i := 3) scDeep.nd rfl (Or.inl rfl))
      (pss_one (ps_set (i := 2) scDeep.nd rfl (Or.inl rfl) (pe_op op_add_str (pe_op op_add_str (pe_op op_add_str (pe_callTy call_str_int (by rfl) B.str boot_str (pa_cons (cal D hr pass0 (pa_cons (pv 0) (pa_cons pe_int pa_nil))) pa_nil)) pe_str) (pv 2)) pe_str))))
    (pss_one (ps_ret (pv 2)))), ?_⟩
  refine ⟨(by show 3 ≤ sizeLine; exact small (by decide)), fun p hp => ⟨_, rfl, deal (ht.same (same_new hp _)) (by decide) (by decide) (by omega) fun v H1 v0 v1 t1 s1 => ?_⟩⟩
  have hpa := ht.ne hp
  obtain ⟨cs, hc, hi⟩ := inner_at v0 v1
  refine ⟨p, _, v, _, rfl, rfl, SqL.of (s1 p _ hpa upd_same), hi, _, rfl, 8, rfl, by decide, by decide, ?_⟩
  refine for_range (lo := 0) (n := 8) (fun j σ H' => ∃ (ns : List Int) (x : Option V), ns.length = j ∧ (∀ m ∈ ns, 0 ≤ m ∧ m < 3) ∧ TinAt a H' (n + 1 + j) ∧ SameBut a H H' ∧ σ = [some (.ref a), some (.int 8), some (strV (nestT ns cs)), x])
    ⟨[], none, rfl, fun _ h => absurd h List.not_mem_nil, t1, (SameBut.of (same_new hp _)).trans s1, rfl⟩ (fun j σ H' hj z => ?_) (fun σ H' z => ?_)
  · obtain ⟨ns, x, hl, hns, t2, s2, rfl⟩ := z
    have hnl := nest_len hc hns
    refine ⟨_, rfl, deal t2 (by decide) (by decide) (by omega) fun v H2 v0 v1 t3 s3 => ⟨v, rfl, num_log v0 (by have := num1 v0 v1; omega), ?_⟩⟩
    have h1 := num1 v0 v1
    rw [str_num v0, show (Str.ofString "*(" : Str) = ofL [42, 40] by decide +kernel, show (Str.ofString ")" : Str) = ofL [41] by decide +kernel]
    have e : ofL (numT v) ++ ofL [42, 40] ++ ofL (nestT ns cs) ++ ofL [41] = ofL (nestT (v :: ns) cs) := by rw [ofL_app, ofL_app, ofL_app, nest_cons]
    refine ⟨_, _, rfl, rfl, ?_, _, rfl, _, _, rfl, rfl, ?_, _, _, rfl, rfl, ?_, ⟨v :: ns, _, by rw [List.length_cons, hl], fun m hm => ?_, t3.mono (by omega), s2.trans s3, by rw [e]; rfl⟩⟩
    · rw [ofL_len, ofL_len]
      exact small (by simp only [List.length_cons, List.length_nil]; omega)
    · rw [ofL_app, ofL_len, ofL_len]
      exact small (by simp only [List.length_append, List.length_cons, List.length_nil]; omega)
    · rw [ofL_app, ofL_app, ofL_len, ofL_len]
      exact small (by simp only [List.length_append, List.length_cons, List.length_nil]; omega)
    · rcases List.mem_cons.mp hm with rfl | hm
      · exact ⟨v0, v1⟩
      · exact hns m hm
  · obtain ⟨ns, x, hl, hns, t2, s2, rfl⟩ := z
    exact ⟨_, rfl, q ns cs H' hl hns hc t2 s2⟩
end
end Bo

namespace Bo
open PySem L2 PyProof.Rows
theorem rstrip_any (l : Tx) (b : Str) : ∃ l', Txt.rstripChars (ofL l) b = ofL l' ∧ l'.length ≤ l.length := by
  refine ⟨TL.tl (Txt.rstripChars (ofL l) b), (ofL_tl _).symm, ?_⟩
  unfold Txt.rstripChars
  rw [PyProof.Rows.stripBy_eq]
  show (PySem.Builtin.Str.strSub (ofL l) _ _).cps.toList.length ≤ _
  rw [PySem.StrLaws.strSub_toList, List.length_take, List.length_drop]
  show _ ≤ l.length
  have e : (ofL l).cps.toList.length = l.length := rfl
  rw [e]
  omega
def signsV : List V := [.str (Str.ofString "0123456789"), .str (Str.ofString "-- ::"), .str (Str.ofString "12-  "), .str (Str.ofString "0:1 2-"), .str (Str.ofString "3*()- "), .str (Str.ofString "ab~!")]
def tailsV : List V := [.str (ofL []), .str (Str.ofString "-"), .str (Str.ofString ":1 "), .str (Str.ofString "- ")]
theorem str_at {s : Str} {l : Tx} {vs : List V} {j : Nat} (h : vs[j]? = some (.str s)) (e : TL.tl s = l) : atI vs (j : Int) = some (strV l) := by
  rw [atI_nat h, ← e]
  show _ = some (V.str (ofL (TL.tl s)))
  rw [ofL_tl]
theorem sign_at {v : Int} (h0 : 0 ≤ v) (h1 : v < 6) : ∃ l : Tx, atI signsV v = some (strV l) ∧ 1 ≤ l.length ∧ l.length ≤ 10 := by
  have h : v = 0 ∨ v = 1 ∨ v = 2 ∨ v = 3 ∨ v = 4 ∨ v = 5 := by omega
  rcases h with rfl | rfl | rfl | rfl | rfl | rfl
  · exact ⟨_, str_at (j := 0) rfl rfl, by decide +kernel, by decide +kernel⟩
  · exact ⟨_, str_at (j := 1) rfl rfl, by decide +kernel, by decide +kernel⟩
  · exact ⟨_, str_at (j := 2) rfl rfl, by decide +kernel, by decide +kernel⟩
  · exact ⟨_, str_at (j := 3) rfl rfl, by decide +kernel, by decide +kernel⟩
  · exact ⟨_, str_at (j := 4) rfl rfl, by decide +kernel, by decide +kernel⟩
  · exact ⟨_, str_at (j := 5) rfl rfl, by decide +kernel, by decide +kernel⟩
theorem tail_at {v : Int} (h0 : 0 ≤ v) (h1 : v < 4) : ∃ l : Tx, atI tailsV v = some (strV l) ∧ l.length ≤ 3 := by
  have h : v = 0 ∨ v = 1 ∨ v = 2 ∨ v = 3 := by omega
  rcases h with rfl | rfl | rfl | rfl
  · exact ⟨_, str_at (j := 0) rfl rfl, by decide +kernel⟩
  · exact ⟨_, str_at (j := 1) rfl rfl, by decide +kernel⟩
  · exact ⟨_, str_at (j := 2) rfl rfl, by decide +kernel⟩
  · exact ⟨_, str_at (j := 3) rfl rfl, by decide +kernel⟩
theorem great_eq (g : Int) : ofL (numT g) ++ ofL [42, 40] ++ ofL (numT g) ++ ofL [42, 40, 48, 45, 32, 49, 45, 41, 41] = ofL (nestT [g, g] greatC) := by
  rw [ofL_app, ofL_app, ofL_app, nest_cons, nest_cons, nest_nil, show joinB greatC = [48, 45, 32, 49, 45] by decide +kernel]
  simp only [List.append_assoc, List.cons_append, List.nil_append]
theorem less_eq (g : Int) : ofL (numT g) ++ ofL [42, 40, 48, 45, 32, 49, 45, 41] = ofL (nestT [g] greatC) := by
  rw [ofL_app, nest_cons, nest_nil, show joinB greatC = [48, 45, 32, 49, 45] by decide +kernel]
  simp only [List.append_assoc, List.cons_append, List.nil_append]
theorem SameBut.base {a : Addr} {H0 H H' : Hp} (s : Same H0 H) (h : H0 a = none) (x : SameBut a H H') : Same H0 H' := fun b u q => x b u (ne_of_none q h) (s b u q)
theorem all_back {K : PySem.W.Frag} {D : Ends} {H : Hp} {l : Tx} {v0 v1 v2 v3 v4 v6 v7 v8 v9 v10 : Option V} (hl : l.length ≤ 64) (q : ∀ H', Same H H' → D.nx [v0, v1, v2, v3, v4, some (strV l), v6, v7, v8, v9, v10] H') :
    tIfS (tNot (tB (tCB (rAll K) (tCons (tLc (iRng1 (tCons (tC (.int 5)) tNil)) (gName 10) tYes (tCall spBack [] E0 (tCons (tVar 10) (tCons (tVar 5) tNil))) [10]) tNil)))) (tRet (tC (.bl false))) tNext D [v0, v1, v2, v3, v4, some (strV l), v6, v7, v8, v9, v10] H := by
  refine ⟨5, rfl, by decide, by decide, fun d hd => ?_⟩
  refine lc_gen (List.replicate 5 (.bl true)) (small (by decide)) hd (fun j H1 hj s => hj) (fun H1 s => Nat.le_refl _) (fun j y x H1 H2 Q' hy s hx k => ?_) (fun H1 s h1 => ?_)
  · obtain ⟨rfl, rfl⟩ := hx
    obtain ⟨hj, rfl⟩ := List.getElem?_eq_some_iff.mp hy
    rw [List.length_replicate] at hj
    refine ⟨rfl, _, rfl, _, rfl, _, l, rfl, by omega, hl, fun H3 s3 => ?_⟩
    have k3 := k H3 s3
    rw [List.getElem_replicate] at k3
    exact k3
  · exact ⟨d, List.replicate 5 true, rfl, SqL.of h1, _, rfl, iteF (q H1 s)⟩
def spLaw (K : PySem.W.Frag) : Sp := fun vs H Q _ => ∃ (a : Addr) (ns : List Int), vs = [.ref a] ∧ ns.length ≤ 1000 ∧ SqL K H a (ns.map V.int) ∧ ∀ H', Q (.bl true) H'
section
variable {P : Program} {w : World} {K : PySem.W.Frag} {mg : Str → Option Value} {base : Heap}
abbrev lawN : List Str := ["_law_script", "_law_k", "_law_tin_here", "_law_turn", "_law_signs", "_law_text", "_law_part", "_law_some", "_law_deep_here", "_law_great", "_law_kind"]
theorem scLaw : FnScope lawN ["_law_script"] (defScope sLaw) := ⟨rfl, rfl, rfl, by decide +kernel, rfl, by decide +kernel, by decide +kernel⟩
theorem ok_law {f : Addr} {fd : FuncData} (F : Fun K "law" "law" sLaw f fd) (B : Bi mg) (D : CDeal P w K mg base) (T : Cal P w K mg base CX0 1 "_law_tin" ["_law_script", "_law_k"] (spTin K))
    (Dp : Cal P w K mg base CX0 2 "_law_deep" ["_law_tin_here", "_law_deep_here"] spDeep) (Bk : Cal P w K mg base CX0 206 "_law_back" ["_law_kind", "_law_text"] spBack) (R : Cal P w K mg base CX0 206 "_law_refused_at" ["_law_text"] spRef) :
    FnOk P w K mg base CX0 207 f fd ["_law_script"] (spLaw K) := by
  refine F.ok scLaw (fun vs H Q E h => ?_) (fun cdv A outer s H vs Q E hr h => ?_)
  · obtain ⟨a, ns, rfl, _⟩ := h
    rfl
  obtain ⟨sc, ns, rfl, hn, hs, q⟩ := h
  have hrD : Room 1 (A.deeper (envOfC "law" (defScope sLaw) s.heap.objs.size f cdv)) := hr.mono (by decide)
  have hr2 : Room 2 (A.deeper (envOfC "law" (defScope sLaw) s.heap.objs.size f cdv)) := hr.mono (by decide)
  refine ⟨_, pss_cons (ps_for PassesOwn.never rfl (pi_range1 (by rfl) B.range (pa_cons (pe_callB (call_max2 rfl) (by rfl) B.max boot_max (pa_cons pe_int (pa_cons (pe_callB (call_min2 rfl) (by rfl) B.min boot_min (pa_cons pe_int (pa_cons (pe_callB call_len_seq (by rfl) B.len PySem.boot_len (pa_cons (pv 0) pa_nil)) pa_nil))) pa_nil))) pa_nil)) (pg_name (i := 1) scLaw.nd rfl (Or.inl rfl))
      (pss_cons (ps_set (i := 2) scLaw.nd rfl (Or.inl rfl) (cal T hrD pass0 (pa_cons (pv 0) (pa_cons (pv 1) pa_nil))))
      (pss_cons (ps_for PassesOwn.never rfl (pi_range1 (by rfl) B.range (pa_cons pe_int pa_nil)) (pg_name (i := 3) scLaw.nd rfl (Or.inl rfl))
        (pss_cons (ps_set (i := 4) scLaw.nd rfl (Or.inl rfl) (pe_lst (pa_cons pe_str (pa_cons pe_str (pa_cons pe_str (pa_cons pe_str (pa_cons pe_str (pa_cons pe_str pa_nil))))))))
        (pss_cons (ps_set (i := 5) scLaw.nd rfl (Or.inr rfl) pe_str)
        (pss_cons (ps_for PassesOwn.never rfl (pi_range1 (by rfl) B.range (pa_cons (pe_op op_add pe_int (cal D hrD pass0 (pa_cons (pv 2) (pa_cons pe_int pa_nil)))) pa_nil)) (pg_name (i := 6) scLaw.nd rfl (Or.inl rfl))
          (pss_cons (ps_set (i := 7) scLaw.nd rfl (Or.inl rfl) (pe_ix ix_list (pv 4) (cal D hrD pass0 (pa_cons (pv 2) (pa_cons pe_int pa_nil))) (fun _ _ => rfl)))
          (pss_one (ps_set (i := 5) scLaw.nd rfl (Or.inr rfl) (pe_op op_add_str (pe_op op_add_str (pv 5) (pe_ix ix_str (pv 7) (cal D hrD pass0 (pa_cons (pv 2) (pa_cons (pe_callB call_len_str (by rfl) B.len PySem.boot_len (pa_cons (pv 7) pa_nil)) pa_nil))) (fun _ _ => rfl)))
            (pe_ix ix_list (pe_lst (pa_cons pe_str (pa_cons pe_str (pa_cons pe_str (pa_cons pe_str pa_nil))))) (cal D hrD pass0 (pa_cons (pv 2) (pa_cons pe_int pa_nil))) (fun _ _ => rfl)))))))
        (pss_cons (ps_set (i := 5) scLaw.nd rfl (Or.inr rfl) (pe_ifExp (pt_cmpR op_eq (cal D hrD pass0 (pa_cons (pv 2) (pa_cons pe_int pa_nil))) pe_int (nomark _)) (pe_m1 PySem.F.slot_str_rstrip PySem.F.type_str_rstrip mt_rstripChars (pv 5) pe_str) (pv 5)))
        (pss_one (ps_if (pt_not (pt_val (pe_callB (cr_all rfl) (by rfl) B.all boot_all (pa_cons (pe_lc (own := [("_law_kind", 10)]) (g := gName 10) (tt := tYes) (te := tCall spBack [] E0 (tCons (tVar 10) (tCons (tVar 5) tNil))) rfl scLaw.nd (pi_range1 (by rfl) B.range (pa_cons pe_int pa_nil)) (blkOk_by (N := lawN) (sc := defScope sLaw) (by decide +kernel))
            (fun _ _ _ _ _ => pg_name (i := 10) scLaw.nd rfl (Or.inl rfl)) (fun _ _ _ _ _ => pts_nil) (fun _ _ _ _ _ => cal Bk hr pass0 (pa_cons (pv 10) (pa_cons (pv 5) pa_nil)))) pa_nil)))) (pss_one (ps_ret pe_bl)) pss_nil)))))))
      (pss_cons (ps_set (i := 8) scLaw.nd rfl (Or.inl rfl) (cal Dp hr2 pass0 (pa_cons (pv 2) (pa_cons pe_int pa_nil))))
      (pss_cons (ps_if (PW.pt (pw_or (pt_not (pt_val (cal Bk hr pass0 (pa_cons pe_int (pa_cons (pv 8) pa_nil))))) (pw_or1 (pt_cmpR op_ne (cal R hr pass0 (pa_cons (pv 8) pa_nil)) (pe_un un_neg pe_int) (nomark _))))) (pss_one (ps_ret pe_bl)) pss_nil)
      (pss_cons (ps_set (i := 9) scLaw.nd rfl (Or.inl rfl) (pe_op op_add (pe_op op_powW pe_int pe_int) (cal D hrD pass0 (pa_cons (pv 2) (pa_cons (pe_op op_powW pe_int pe_int) pa_nil)))))
      (pss_cons (ps_set (i := 5) scLaw.nd rfl (Or.inr rfl) (pe_op op_add_str (pe_op op_add_str (pe_op op_add_str (pe_callTy call_str_int (by rfl) B.str boot_str (pa_cons (pv 9) pa_nil)) pe_str) (pe_callTy call_str_int (by rfl) B.str boot_str (pa_cons (pv 9) pa_nil))) pe_str))
      (pss_one (ps_if (PW.pt (pw_or (pt_cmpR op_ne (cal R hr pass0 (pa_cons (pv 5) pa_nil)) pe_int (nomark _)) (pw_or1 (pt_cmpR op_ne (cal R hr pass0 (pa_cons (pe_op op_add_str (pe_callTy call_str_int (by rfl) B.str boot_str (pa_cons (pe_op op_powW pe_int pe_int) pa_nil)) pe_str) pa_nil)) (pe_un un_neg pe_int) (nomark _))))) (pss_one (ps_ret pe_bl)) pss_nil)))))))))
    (pss_one (ps_ret pe_bl)), ?_⟩
  have hm : ∀ c : Int, 1 ≤ (if (if c < 10 then c else 10) > 1 then (if c < 10 then c else 10) else 1) ∧ (if (if c < 10 then c else 10) > 1 then (if c < 10 then c else 10) else 1) ≤ 10 := fun c => by
    constructor <;> (repeat' split) <;> omega
  refine ⟨_, rfl, sc, _, rfl, .inl hs, _, _, rfl, _, _, rfl, _, rfl, Int.le_trans (by decide) (hm _).1, Int.lt_of_le_of_lt (hm _).2 (by decide), ?_⟩
  have h10 := (hm ((ns.map V.int).length : Int)).2
  refine for_range (lo := 0) (fun i σ H' => Same H H' ∧ ∃ x1 x2 x3 x4 x5 x6 x7 x8 x9 x10 : Option V, σ = [some (.ref sc), x1, x2, x3, x4, x5, x6, x7, x8, x9, x10]) ⟨fun _ _ h => h, _, _, _, _, _, _, _, _, _, _, rfl⟩ (fun i σ H1 hi z => ?_) (fun σ H1 z => q _)
  obtain ⟨s1, x1, x2, x3, x4, x5, x6, x7, x8, x9, x10, rfl⟩ := z
  refine ⟨_, rfl, _, rfl, sc, ns, i, by rw [Int.zero_add]; rfl, s1.seq hs, by omega, fun p o hp ho => ?_⟩
  have hp0 : H p = none := s1.free hp
  have t1 : TinAt p (upd H1 p o) (100 * 0) := ⟨o, upd_same, ho⟩
  have s2 : Same H (upd H1 p o) := s1.trans (same_new hp _)
  generalize upd H1 p o = H2 at t1 s2 ⊢
  refine ⟨40, rfl, by decide, by decide, ?_⟩
  refine for_range (lo := 0) (n := 40) (fun j σ H' => TinAt p H' (100 * j) ∧ Same H H' ∧ ∃ x3 x4 x5 x6 x7 x8 x9 x10 : Option V, σ = [some (.ref sc), some (.int (0 + (i : Nat))), some (.ref p), x3, x4, x5, x6, x7, x8, x9, x10])
    ⟨t1, s2, _, _, _, _, _, _, _, _, rfl⟩ (fun j σ H3 hj z => ?_) (fun σ H3 z => ?_)
  · obtain ⟨t3, s3, x3, x4, x5, x6, x7, x8, x9, x10, rfl⟩ := z
    refine ⟨(by show 6 ≤ sizeLine; exact small (by decide)), fun g hg => ?_⟩
    rw [show (Str.ofString "" : Str) = ofL [] by decide +kernel]
    have gp : g ≠ p := t3.ne hg
    have hg0 : H g = none := s3.free hg
    refine ⟨_, rfl, deal (t3.same (same_new hg _)) (by decide) (by decide) (by omega) fun v H4 v0 v1 t4 s4 => ⟨_, _, rfl, rfl, _, rfl, by omega, by omega, ?_⟩⟩
    have g4 : H4 g = some (.lst signsV) := s4 g _ gp upd_same
    have s4' : Same H H4 := SameBut.base (s3.trans (same_new hg _)) hp0 s4
    refine for_range (lo := 0) (fun m σ H' => ∃ (l : Tx) (x6 x7 x8 x9 x10 : Option V), l.length ≤ 4 * m ∧ TinAt p H' (100 * j + 1 + 3 * m) ∧ Same H H' ∧ H' g = some (.lst signsV) ∧ σ = [some (.ref sc), some (.int (0 + (i : Nat))), some (.ref p), some (.int (0 + (j : Nat))), some (.ref g), some (strV l), x6, x7, x8, x9, x10])
      ⟨[], _, _, _, _, _, Nat.le_refl _, t4, s4', g4, rfl⟩ (fun m σ H5 hm z => ?_) (fun σ H5 z => ?_)
    · obtain ⟨l, x6, x7, x8, x9, x10, hl, t5, s5, g5, rfl⟩ := z
      refine ⟨_, rfl, _, rfl, deal t5 (by decide) (by decide) (by omega) fun v2 H6 u0 u1 t6 s6 => ?_⟩
      obtain ⟨l1, a1, n1, n2⟩ := sign_at u0 u1
      have g6 : H6 g = some (.lst signsV) := s6 g _ gp g5
      have z1 : (ofL l1).length ≤ sizeLine := by rw [ofL_len]; exact small (by omega)
      refine ⟨g, _, v2, _, rfl, rfl, SqL.of g6, a1, ?_⟩
      refine ⟨_, rfl, _, rfl, _, rfl, _, rfl, ofL l1, rfl, z1, deal t6 (by rw [ofL_len]; omega) (by rw [ofL_len]; exact Int.le_trans (show ((l1.length : Nat) : Int) ≤ 10 by omega) (by decide)) (by omega) fun v3 H7 w0 w1 t7 s7 => ?_⟩
      rw [ofL_len] at w1
      obtain ⟨c, at3⟩ : ∃ c, atI (ofL l1).cps.toList v3 = some c := by
        obtain ⟨n, rfl⟩ : ∃ n : Nat, v3 = (n : Int) := ⟨v3.toNat, by omega⟩
        exact ⟨l1[n]'(by omega), atI_nat (xs := l1) (List.getElem?_eq_getElem (by omega))⟩
      refine ⟨ofL l1, v3, c, rfl, rfl, z1, at3, _, _, rfl, rfl, ?_, (by show 4 ≤ sizeLine; exact small (by decide)), fun h hh => ?_⟩
      · rw [ofL_len]
        exact small (show l.length + 1 ≤ 1000 by omega)
      refine ⟨_, rfl, deal (t7.same (same_new hh _)) (by decide) (by decide) (by omega) fun v4 H8 y0 y1 t8 s8 => ?_⟩
      obtain ⟨l3, a3, n3⟩ := tail_at y0 y1
      refine ⟨h, _, v4, _, rfl, rfl, SqL.of (s8 h _ (t7.ne hh) upd_same), a3, ?_⟩
      have sh := same_new hh (.lst tailsV)
      have e : ofL l ++ (⟨#[c]⟩ : Str) ++ ofL l3 = ofL (l ++ [c] ++ l3) := by rw [show (⟨#[c]⟩ : Str) = ofL [c] from rfl, ofL_app, ofL_app]
      refine ⟨_, _, rfl, rfl, ?_, ⟨l ++ [c] ++ l3, _, _, _, _, _, ?_, t8.mono (by omega), SameBut.base ((SameBut.base (SameBut.base s5 hp0 s6) hp0 s7).trans sh) hp0 s8, s8 g _ gp (sh _ _ (s7 g _ gp g6)), by rw [e]; rfl⟩⟩
      · rw [show (⟨#[c]⟩ : Str) = ofL [c] from rfl, ofL_app, ofL_len, ofL_len, List.length_append, List.length_singleton]
        exact small (by omega)
      · rw [List.length_append, List.length_append, List.length_singleton]
        omega
    · obtain ⟨l, x6, x7, x8, x9, x10, hl, t5, s5, g5, rfl⟩ := z
      refine ⟨_, rfl, deal t5 (by decide) (by decide) (by omega) fun v2 H6 u0 u1 t6 s6 => ⟨rfl, _, rfl, ?_⟩⟩
      cases decide (V.int v2 = V.int 0) with
      | false =>
        refine iteF ⟨_, rfl, all_back (by omega) fun H9 s9 => ⟨(t6.same s9).mono (by omega), (SameBut.base s5 hp0 s6).trans s9, _, _, _, _, _, _, _, _, rfl⟩⟩
      | true =>
        refine iteT ⟨_, rfl, ⟨_, rfl⟩, ofL l, _, rfl, rfl, (by rw [ofL_len]; exact small (by omega)), ?_⟩
        obtain ⟨l', e, hl'⟩ := rstrip_any l (Str.ofString " ")
        rw [e]
        exact all_back (by omega) fun H9 s9 => ⟨(t6.same s9).mono (by omega), (SameBut.base s5 hp0 s6).trans s9, _, _, _, _, _, _, _, _, rfl⟩
  · obtain ⟨t3, s3, x3, x4, x5, x6, x7, x8, x9, x10, rfl⟩ := z
    refine ⟨_, rfl, p, 100 * 40, rfl, t3, by decide, fun ms cs H4 hl hms hc t4 s4 => ?_⟩
    have hlen := nest_len hc hms
    obtain ⟨is, his⟩ := read_deep hms hl hc
    have z4 : (nestT ms cs).length ≤ 64 := by omega
    refine ⟨_, rfl, 0, nestT ms cs, rfl, .inl rfl, z4, fun H5 s5 => ⟨_, rfl, iteF ⟨_, rfl, nestT ms cs, rfl, z4, fun _ _ H6 s6 => ⟨_, rfl, rfl, _, rfl, iteF ?_⟩, fun e he => ?_⟩⟩⟩
    · have t6 := (t4.same s5).same s6
      have e15 : (10 : Int) ^ (15 : Int).toNat = 1000000000000000 := by decide
      have e14 : (10 : Int) ^ (14 : Int).toNat = 100000000000000 := by decide
      have t10 : (10 : Int).natAbs < 2 ^ 64 := by decide
      refine ⟨_, _, rfl, rfl, pow_wide (k := 15) t10 (by decide) (by decide), _, rfl, _, _, rfl, rfl, pow_wide (k := 14) t10 (by decide) (by decide), deal t6 (by decide) (by decide) (by decide) fun v H7 v0 v1 t7 s7 => ⟨_, _, rfl, rfl, ?_⟩⟩
      rw [e15]
      rw [e14] at v1
      obtain ⟨G, hG⟩ : ∃ G : Int, 1000000000000000 + v = G := ⟨_, rfl⟩
      show gName 9 (.int (1000000000000000 + v)) _ _ _
      rw [hG]
      have hG0 : 0 ≤ G := by omega
      have hGl : (numT G).length ≤ 16 := TL.numL_len (by decide) (show G.toNat < 10 ^ 16 by
        have e16 : (10 : Nat) ^ 16 = 10000000000000000 := by decide
        omega)
      have hT : (nestT [G, G] greatC).length ≤ 64 := by
        have e1 := congrArg Str.length (great_eq G)
        rw [ofL_app, ofL_app, ofL_app, ofL_len, ofL_len] at e1
        simp only [List.length_append, List.length_cons, List.length_nil] at e1
        omega
      have hrd : readS (nestT [G, G] greatC) = .error 2 := read_great (by
        have e1 : (10 : Int) ^ 15 = 1000000000000000 := by decide
        omega)
      have lg : G.natAbs.log2 < 1920 := num_log hG0 (by omega)
      refine ⟨_, rfl, G, rfl, lg, ?_⟩
      rw [str_num hG0, show (Str.ofString "*(" : Str) = ofL [42, 40] by decide +kernel, show (Str.ofString "*(0- 1-))" : Str) = ofL [42, 40, 48, 45, 32, 49, 45, 41, 41] by decide +kernel,
        show (Str.ofString "*(0- 1-)" : Str) = ofL [42, 40, 48, 45, 32, 49, 45, 41] by decide +kernel]
      refine ⟨_, _, rfl, rfl, ?_, _, rfl, G, rfl, lg, ?_⟩
      · rw [ofL_len, ofL_len]
        exact small (by simp only [List.length_cons, List.length_nil]; omega)
      rw [str_num hG0]
      refine ⟨_, _, rfl, rfl, ?_, _, _, rfl, rfl, ?_, ?_⟩
      · rw [ofL_app, ofL_len, ofL_len]
        exact small (by simp only [List.length_append, List.length_cons, List.length_nil]; omega)
      · rw [ofL_app, ofL_app, ofL_len, ofL_len]
        exact small (by simp only [List.length_append, List.length_cons, List.length_nil]; omega)
      rw [great_eq]
      refine ⟨_, rfl, nestT [G, G] greatC, rfl, hT, fun is hi => ?_, fun e he H8 s8 => ?_⟩
      · rw [hrd] at hi
        cases hi
      obtain rfl : 2 = e := by
        rw [hrd] at he
        exact Except.error.inj he
      refine ⟨rfl, _, rfl, iteF ?_⟩
      have n0 : (0 : Int) ≤ 10 ^ (29 : Int).toNat := by decide
      have nl : (numT (10 ^ (29 : Int).toNat)).length ≤ 30 := by decide +kernel
      refine ⟨_, _, rfl, rfl, pow_wide (k := 29) t10 (by decide) (by decide), _, rfl, num_log n0 (by omega), ?_⟩
      rw [str_num n0]
      refine ⟨_, _, rfl, rfl, ?_, ?_⟩
      · rw [ofL_len, ofL_len]
        exact small (by simp only [List.length_cons, List.length_nil]; omega)
      rw [less_eq]
      have hT2 : (nestT [10 ^ (29 : Int).toNat] greatC).length ≤ 64 := by decide +kernel
      obtain ⟨is2, h2⟩ := read_less
      refine ⟨nestT [10 ^ (29 : Int).toNat] greatC, rfl, hT2, fun _ _ H9 s9 => ⟨1, rfl, rfl, _, rfl, iteF ?_⟩, fun e he => ?_⟩
      · have s7' := SameBut.base (((SameBut.base s3 hp0 s4).trans s5).trans s6) hp0 s7
        exact ⟨(s7'.trans s8).trans s9, _, _, _, _, _, _, _, _, _, _, rfl⟩
      · have h2' : readS (nestT [10 ^ (29 : Int).toNat] greatC) = .ok is2 := h2
        rw [h2'] at he
        cases he
    · rw [his] at he
      cases he
end
end Bo

namespace Bo
open PySem L2 PyProof.Rows
/-! ### what the top has made -/
/-- how a def takes what it is called with -/
def HB (x qual : Str) (st : Stmt) (ps : List Str) : Prop := ∀ (kV doc pm : Value) (an : Option Addr) (cdv ct : Value) (us : List Value), us.length = ps.length →
  bindArgs (PySem.W.fnOf x qual (defArgs st) (defBody st) (defScope st) .none kV doc pm an cdv ct) ⟨us, []⟩ = pure (ps.zip us)
theorem hb_gNum : HB "is_number" "is_number" sIsNumber ["thing"] := fun _ _ _ _ _ _ us hl => match us, hl with | [_], _ => rfl
theorem hb_gSay : HB "is_saying" "is_saying" sIsSaying ["thing"] := fun _ _ _ _ _ _ us hl => match us, hl with | [_], _ => rfl
theorem hb_gRow : HB "is_row" "is_row" sIsRow ["thing"] := fun _ _ _ _ _ _ us hl => match us, hl with | [_], _ => rfl
theorem hb_gPS : HB "people_said" "people_said" sPeopleSaid ["item"] := fun _ _ _ _ _ _ us hl => match us, hl with | [_], _ => rfl
theorem hb_gPO : HB "people_of" "people_of" sPeopleOf ["thing"] := fun _ _ _ _ _ _ us hl => match us, hl with | [_], _ => rfl
theorem hb_gLong : HB "is_long" "is_long" sIsLong ["thing"] := fun _ _ _ _ _ _ us hl => match us, hl with | [_], _ => rfl
theorem hb_gStep : HB "is_step" "is_step" sIsStep ["thing"] := fun _ _ _ _ _ _ us hl => match us, hl with | [_], _ => rfl
theorem hb_gTable : HB "is_table" "is_table" sIsTable ["thing"] := fun _ _ _ _ _ _ us hl => match us, hl with | [_], _ => rfl
theorem hb_gStretch : HB "is_stretch" "is_stretch" sIsStretch ["thing"] := fun _ _ _ _ _ _ us hl => match us, hl with | [_], _ => rfl
theorem hb_gPlain : HB "plain" "plain" sPlain ["number"] := fun _ _ _ _ _ _ us hl => match us, hl with | [_], _ => rfl
theorem hb_gEntry : HB "is_entry" "is_entry" sIsEntry ["thing"] := fun _ _ _ _ _ _ us hl => match us, hl with | [_], _ => rfl
theorem hb_gShelf : HB "is_shelf" "is_shelf" sIsShelf ["thing"] := fun _ _ _ _ _ _ us hl => match us, hl with | [_], _ => rfl
theorem hb_gEnd : HB "end_text" "end_text" sEndText ["number"] := fun _ _ _ _ _ _ us hl => match us, hl with | [_], _ => rfl
theorem hb_gPart : HB "part_text" "part_text" sPartText ["part"] := fun _ _ _ _ _ _ us hl => match us, hl with | [_], _ => rfl
theorem hb_gRowT : HB "row_text" "row_text" sRowText ["row"] := fun _ _ _ _ _ _ us hl => match us, hl with | [_], _ => rfl
theorem hb_gShowRow : HB "show_row" "show_row" sShowRow ["row"] := fun _ _ _ _ _ _ us hl => match us, hl with | [_], _ => rfl
theorem hb_gShowTab : HB "show_table" "show_table" sShowTable ["table"] := fun _ _ _ _ _ _ us hl => match us, hl with | [_], _ => rfl
theorem hb_gShowStr : HB "show_stretches" "show_stretches" sShowStretches ["stretches"] := fun _ _ _ _ _ _ us hl => match us, hl with | [_], _ => rfl
theorem hb_gShowShf : HB "show_shelf" "show_shelf" sShowShelf ["shelf"] := fun _ _ _ _ _ _ us hl => match us, hl with | [_], _ => rfl
theorem hb_gWords : HB "words_in" "words_in" sWordsIn ["text"] := fun _ _ _ _ _ _ us hl => match us, hl with | [_], _ => rfl
theorem hb_gNumIn : HB "number_in" "number_in" sNumberIn ["word"] := fun _ _ _ _ _ _ us hl => match us, hl with | [_], _ => rfl
theorem hb_gPair : HB "pair_in" "pair_in" sPairIn ["word", "mark"] := fun _ _ _ _ _ _ us hl => match us, hl with | [_, _], _ => rfl
theorem hb_gStrIn : HB "stretch_in" "stretch_in" sStretchIn ["word"] := fun _ _ _ _ _ _ us hl => match us, hl with | [_], _ => rfl
theorem hb_gReadRow : HB "read_row" "read_row" sReadRow ["text"] := fun _ _ _ _ _ _ us hl => match us, hl with | [_], _ => rfl
theorem hb_gReadTab : HB "read_table" "read_table" sReadTable ["text"] := fun _ _ _ _ _ _ us hl => match us, hl with | [_], _ => rfl
theorem hb_gReadLot : HB "read_lot" "read_lot" sReadLot ["text"] := fun _ _ _ _ _ _ us hl => match us, hl with | [_], _ => rfl
theorem hb_gReadStr : HB "read_stretches" "read_stretches" sReadStretches ["text"] := fun _ _ _ _ _ _ us hl => match us, hl with | [_], _ => rfl
theorem hb_gReadShf : HB "read_shelf" "read_shelf" sReadShelf ["text"] := fun _ _ _ _ _ _ us hl => match us, hl with | [_], _ => rfl
theorem hb_gTin : HB "_law_tin" "_law_tin" sTin ["_law_script", "_law_k"] := fun _ _ _ _ _ _ us hl => match us, hl with | [_, _], _ => rfl
theorem hb_gDeal : HB "_law_deal" "_law_deal" sDeal ["_law_tin_here", "_law_wide"] := fun _ _ _ _ _ _ us hl => match us, hl with | [_, _], _ => rfl
theorem hb_gBack : HB "_law_back" "_law_back" sBack ["_law_kind", "_law_text"] := fun _ _ _ _ _ _ us hl => match us, hl with | [_, _], _ => rfl
theorem hb_gRef : HB "_law_refused_at" "_law_refused_at" sRefusedAt ["_law_text"] := fun _ _ _ _ _ _ us hl => match us, hl with | [_], _ => rfl
theorem hb_gDeep : HB "_law_deep" "_law_deep" sDeep ["_law_tin_here", "_law_deep_here"] := fun _ _ _ _ _ _ us hl => match us, hl with | [_, _], _ => rfl
theorem hb_gLaw : HB "law" "law" sLaw ["_law_script"] := fun _ _ _ _ _ _ us hl => match us, hl with | [_], _ => rfl
theorem hb_mInit : HB "__init__" "Reader.__init__" sInit ["self"] := fun _ _ _ _ _ _ us hl => match us, hl with | [_], _ => rfl
theorem hb_mBegin : HB "begin" "Reader.begin" sBegin ["self", "many"] := fun _ _ _ _ _ _ us hl => match us, hl with | [_, _], _ => rfl
theorem hb_mClose : HB "close" "Reader.close" sClose ["self"] := fun _ _ _ _ _ _ us hl => match us, hl with | [_], _ => rfl
theorem hb_mTake : HB "take" "Reader.take" sTake ["self", "word"] := fun _ _ _ _ _ _ us hl => match us, hl with | [_, _], _ => rfl
theorem hb_mNT : HB "__init__" "NoText.__init__" sNoText ["self", "at"] := fun _ _ _ _ _ _ us hl => match us, hl with | [_, _], _ => rfl
/-- a def of the module -/
structure GF (K : PySem.W.Frag) (mg : Str → Option Value) (x : Str) (st : Stmt) (ps : List Str) : Prop where
  ex : ∃ (f : Addr) (fd : FuncData), Fun K x x st f fd ∧ mg x = some (.ref f) ∧ ∀ us : List Value, us.length = ps.length → bindArgs fd ⟨us, []⟩ = pure (ps.zip us)
/-- a method of the class at C -/
structure MF (K : PySem.W.Frag) (C : Addr) (m qual : Str) (st : Stmt) (ps : List Str) : Prop where
  ex : ∃ (f : Addr) (fd : FuncData), Fun K m qual st f fd ∧ PySem.W.findIn K (.ref C) m = some (some (.ref f)) ∧ PySem.W.isFn K (.ref f) = true ∧ PySem.W.typeIn K (.ref f) = some (.type "function") ∧ Binds K fd ps []
section
variable {P : Program} {w : World} {K : PySem.W.Frag} {mg : Str → Option Value} {base h : Heap} {x m qual : Str} {st : Stmt} {ps : List Str} {f C NC Bc : Addr} {oc kV doc pm cdv ct : Value} {od an : Option Addr} {osl : Array (Option Value)} {k : Nat} {sp : Sp} {CX : CXT}
theorem gf_mk (X : K.In h) (G : h.Ns mainGlobals mg) (b : HB x x st ps) (a : PySem.W.nsIn K mainGlobals x = some (some (.ref f)))
    (l : K.lookup f = some ⟨oc, od, .func (PySem.W.fnOf x x (defArgs st) (defBody st) (defScope st) .none kV doc pm an cdv ct), osl⟩) (c : PySem.W.codeIn K cdv x = true) (kp : PySem.W.keepIn K (.ref f) = true) : GF K mg x st ps :=
  ⟨⟨f, _, fun_mk l c kp, PySem.W.mg_of X G a, b kV doc pm an cdv ct⟩⟩
theorem mf_mk (b : HB m qual st ps) (a : PySem.W.findIn K (.ref C) m = some (some (.ref f)))
    (l : K.lookup f = some ⟨oc, od, .func (PySem.W.fnOf m qual (defArgs st) (defBody st) (defScope st) .none kV doc pm an cdv ct), osl⟩) (c : PySem.W.codeIn K cdv qual = true) (kp : PySem.W.keepIn K (.ref f) = true) (i : PySem.W.isFn K (.ref f) = true) (t : PySem.W.typeIn K (.ref f) = some (.type "function")) : MF K C m qual st ps :=
  ⟨⟨f, _, fun_mk l c kp, a, i, t, Binds.all (b kV doc pm an cdv ct)⟩⟩
theorem GF.cal (g : GF K mg x st ps) (ok : ∀ {f : Addr} {fd : FuncData}, Fun K x x st f fd → FnOk P w K mg base CX k f fd ps sp) : Cal P w K mg base CX k x ps sp := by
  obtain ⟨f, fd, F, m, b⟩ := g.ex
  exact ⟨⟨f, fd, ok F, m, F.kp, Binds.all b⟩⟩
/-- all that the law leans on -/
structure Tp (K : PySem.W.Frag) (mg : Str → Option Value) (NC Bc C : Addr) : Prop where
  bi : Bi mg
  fig : ∃ t : Tok, mg "FIGURES" = some (.str "0123456789" t)
  aga : ∃ t : Tok, mg "AGAIN" = some (.str "again" t)
  mst : ∃ t : Tok, mg "MOST_PEOPLE" = some (.int MOST t)
  nt : NT K mg NC Bc
  xn : XN K mg NC
  ni : MF K NC "__init__" "NoText.__init__" sNoText ["self", "at"]
  rt : RT K mg C
  makes : PySem.W.makesIn K C = true
  kc : PySem.W.keepIn K (.ref C) = true
  gNum : GF K mg "is_number" sIsNumber ["thing"]
  gSay : GF K mg "is_saying" sIsSaying ["thing"]
  gRow : GF K mg "is_row" sIsRow ["thing"]
  gPS : GF K mg "people_said" sPeopleSaid ["item"]
  gPO : GF K mg "people_of" sPeopleOf ["thing"]
  gLong : GF K mg "is_long" sIsLong ["thing"]
  gStep : GF K mg "is_step" sIsStep ["thing"]
  gTable : GF K mg "is_table" sIsTable ["thing"]
  gStretch : GF K mg "is_stretch" sIsStretch ["thing"]
  gPlain : GF K mg "plain" sPlain ["number"]
  gEntry : GF K mg "is_entry" sIsEntry ["thing"]
  gShelf : GF K mg "is_shelf" sIsShelf ["thing"]
  gEnd : GF K mg "end_text" sEndText ["number"]
  gPart : GF K mg "part_text" sPartText ["part"]
  gRowT : GF K mg "row_text" sRowText ["row"]
  gShowRow : GF K mg "show_row" sShowRow ["row"]
  gShowTab : GF K mg "show_table" sShowTable ["table"]
  gShowStr : GF K mg "show_stretches" sShowStretches ["stretches"]
  gShowShf : GF K mg "show_shelf" sShowShelf ["shelf"]
  gWords : GF K mg "words_in" sWordsIn ["text"]
  gNumIn : GF K mg "number_in" sNumberIn ["word"]
  gPair : GF K mg "pair_in" sPairIn ["word", "mark"]
  gStrIn : GF K mg "stretch_in" sStretchIn ["word"]
  gReadRow : GF K mg "read_row" sReadRow ["text"]
  gReadTab : GF K mg "read_table" sReadTable ["text"]
  gReadLot : GF K mg "read_lot" sReadLot ["text"]
  gReadStr : GF K mg "read_stretches" sReadStretches ["text"]
  gReadShf : GF K mg "read_shelf" sReadShelf ["text"]
  gTin : GF K mg "_law_tin" sTin ["_law_script", "_law_k"]
  gDeal : GF K mg "_law_deal" sDeal ["_law_tin_here", "_law_wide"]
  gBack : GF K mg "_law_back" sBack ["_law_kind", "_law_text"]
  gRef : GF K mg "_law_refused_at" sRefusedAt ["_law_text"]
  gDeep : GF K mg "_law_deep" sDeep ["_law_tin_here", "_law_deep_here"]
  gLaw : GF K mg "law" sLaw ["_law_script"]
  mInit : MF K C "__init__" "Reader.__init__" sInit ["self"]
  mBegin : MF K C "begin" "Reader.begin" sBegin ["self", "many"]
  mClose : MF K C "close" "Reader.close" sClose ["self"]
  mTake : MF K C "take" "Reader.take" sTake ["self", "word"]
theorem MF.cal (g : MF K C m qual st ps) (ok : ∀ {f : Addr} {fd : FuncData}, Fun K m qual st f fd → FnOk P w K mg base CX k f fd ps sp) : CalM P w K mg base CX k C m ps sp := by
  obtain ⟨f, fd, F, a, i, _, b⟩ := g.ex
  exact ⟨⟨f, fd, ok F, ⟨a, i, F.kp⟩, b⟩⟩
theorem all_law (T : Tp K mg NC Bc C) {fa : Addr} (hfa : mg "law" = some (.ref fa)) : ∃ fd : FuncData, (∀ (s : Shared) (u : Value), BindsTo s fd ⟨[u], []⟩ [("_law_script", u)]) ∧
    ∀ base : Heap, FnOk P w K mg base CX0 207 fa fd ["_law_script"] (spLaw K) := by
  obtain ⟨fl, fdl, FL, ml, bl⟩ := T.gLaw.ex
  have e := ml.symm.trans hfa
  cases e
  refine ⟨fdl, fun s u => .of_eq (bl [u] rfl), fun base => ?_⟩
  have B := T.bi
  obtain ⟨tf, mF⟩ := T.fig
  obtain ⟨ta, mA⟩ := T.aga
  obtain ⟨tm, mM⟩ := T.mst
  have N : CNum P w K mg base := T.gNum.cal fun F => ok_num F B
  have S : CSay P w K mg base := T.gSay.cal fun F => ok_say F B N
  have R : CRow P w K mg base := T.gRow.cal fun F => ok_row F B S
  obtain ⟨f1, d1, F1, m1, b1⟩ := T.gPS.ex
  obtain ⟨f2, d2, F2, m2, b2⟩ := T.gPO.ex
  have PO := people_both (P := P) (w := w) (base := base) F1 m1 (Binds.all b1) F2 m2 (Binds.all b2) B mA N S 100
  have L : CLong P w K mg base := T.gLong.cal fun F => ok_long F mM PO
  have St : CStep P w K mg base := T.gStep.cal fun F => ok_step F B N
  have Tb : CTab P w K mg base := T.gTable.cal fun F => ok_table F B St
  have Sr : CStr P w K mg base := T.gStretch.cal fun F => ok_stretch F B N
  have Pl : CPlain P w K mg base := T.gPlain.cal fun F => ok_plain F B
  have En : CEntry P w K mg base := T.gEntry.cal fun F => ok_entry F B N Pl
  have Sh : CShf P w K mg base := T.gShelf.cal fun F => ok_shelf F B En
  have Ed : CEnd P w K mg base := T.gEnd.cal fun F => ok_end F B
  obtain ⟨f3, d3, F3, m3, b3⟩ := T.gPart.ex
  obtain ⟨f4, d4, F4, m4, b4⟩ := T.gRowT.ex
  have RTx := text_both (P := P) (w := w) (base := base) F3 m3 (Binds.all b3) F4 m4 (Binds.all b4) Ed 100
  have WR : Cal P w K mg base CX0 205 "show_row" ["row"] spShowRow := T.gShowRow.cal fun F => ok_showRow F R L RTx
  have WT : Cal P w K mg base CX0 4 "show_table" ["table"] (spShow 58 goodT) := T.gShowTab.cal fun F => ok_showTab F Tb
  have WS : Cal P w K mg base CX0 3 "show_stretches" ["stretches"] (spShow 45 goodL) := T.gShowStr.cal fun F => ok_showStr F B Sr Ed
  have WH : Cal P w K mg base CX0 4 "show_shelf" ["shelf"] (spShow 58 goodS) := T.gShowShf.cal fun F => ok_showShf F Sh
  have W : CWords P w K mg base := T.gWords.cal fun F => ok_words F B
  have NI : CNumIn P w K mg base := T.gNumIn.cal fun F => ok_numIn F B mF
  have PI : CPairIn P w K mg base := T.gPair.cal fun F => ok_pairIn F NI
  have SI : CStrIn P w K mg base := T.gStrIn.cal fun F => ok_strIn F NI PI
  have MI : CalMk P w K mg base 1 C ["self"] (spInit C) := by
    obtain ⟨f, fd, F, a, i, _, b⟩ := T.mInit.ex
    exact ⟨⟨f, fd, ok_init F T.rt, ⟨T.makes, a, i, T.kc⟩, b⟩⟩
  have MB : CalM P w K mg base CX0 1 C "begin" ["self", "many"] (spBegin C) := T.mBegin.cal fun F => ok_begin F T.rt
  have MC : CalM P w K mg base CX0 1 C "close" ["self"] (spClose C) := T.mClose.cal fun F => ok_close F T.rt
  have MT : CalM P w K mg base CX0 4 C "take" ["self", "word"] (spTake C) := T.mTake.cal fun F => ok_take F T.rt B NI SI MB MC
  have MN : MkNT P w K mg base NC Bc := by
    obtain ⟨f, fd, F, a, _, t, b⟩ := T.ni.ex
    exact ⟨T.nt, ⟨f, fd, ok_nt F T.nt, a, t, b⟩⟩
  have RR : CReadRow P w K mg base NC := T.gReadRow.cal fun F => ok_readRow F B T.rt W MI MT R L MN
  have RTb : Cal P w K mg base (L2.CX P w) 4 "read_table" ["text"] (spRead NC 58 goodT) := T.gReadTab.cal fun F => ok_readTab F B W PI Tb MN
  have RL : Cal P w K mg base (L2.CX P w) 4 "read_lot" ["text"] (spRead NC 45 goodL) := T.gReadLot.cal fun F => ok_readLot F B W SI MN
  have RS : Cal P w K mg base (L2.CX P w) 4 "read_stretches" ["text"] (spRead NC 45 goodL) := T.gReadStr.cal fun F => ok_readStr F B W SI MN
  have RH : Cal P w K mg base (L2.CX P w) 4 "read_shelf" ["text"] (spRead NC 58 goodS) := T.gReadShf.cal fun F => ok_readShf F B W PI Sh MN
  have Ti : Cal P w K mg base CX0 1 "_law_tin" ["_law_script", "_law_k"] (spTin K) := T.gTin.cal fun F => ok_tin F B
  have De : CDeal P w K mg base := T.gDeal.cal fun F => ok_deal F
  have Bk : Cal P w K mg base CX0 206 "_law_back" ["_law_kind", "_law_text"] spBack := T.gBack.cal fun F => ok_back F B T.xn RR WR RTb WT RS WS RL RH WH
  have Rf : Cal P w K mg base CX0 206 "_law_refused_at" ["_law_text"] spRef := T.gRef.cal fun F => ok_refused F T.xn RR
  have Dp : Cal P w K mg base CX0 2 "_law_deep" ["_law_tin_here", "_law_deep_here"] spDeep := T.gDeep.cal fun F => ok_deep F B De
  exact ok_law FL B De Ti Dp Bk Rf
theorem tp_all {q : Program} {v : Int} {fa : Addr} {bm : List Value} {tf ta : Tok} {nm qn : Str} {Nn : Addr} {bs : List Value} {sn : List Str} {sub : List Value} {ab : Bool} {col : Option Bool} {dd : Option Addr} {k0 k1 k2 k3 k5 : Option Value}
    (X : K.In h) (G : h.Ns mainGlobals mg) (hfa : mg "law" = some (.ref fa)) (XP : PySem.W.XL q [("MOST_PEOPLE", PySem.W.WData.int v)] mg h) (hv : v = MOST)
    (aF : PySem.W.nsIn K mainGlobals "FIGURES" = some (some (.str "0123456789" tf))) (aA : PySem.W.nsIn K mainGlobals "AGAIN" = some (some (.str "again" ta)))
    (aN : PySem.W.nsIn K mainGlobals "NoText" = some (some (.ref NC))) (aB : PySem.W.nsIn K mainGlobals "BoastError" = some (some (.ref Bc))) (aR : PySem.W.nsIn K mainGlobals "Reader" = some (some (.ref C)))
    (xN : K.lookup NC = some (excClassObj nm qn NC Nn bs bm true sn sub ab col dd k0 k1 k2 k3 k5 "ValueError.__new__")) (vN : PySem.HandSPX.refsVE bm = true)
    (n1 : PySem.W.findIn K (.ref NC) "__setattr__" = some (some (.builtin "object.__setattr__"))) (n2 : PySem.W.subIn K (.ref NC) (.type "BaseException") = some true) (n3 : PySem.W.typeIn K (.ref NC) = some (.type "type")) (n4 : PySem.W.keepIn K (.ref NC) = true)
    (n5 : PySem.W.findIn K (.ref NC) "at" = some none) (n6 : PySem.W.findIn K (.ref NC) "__getattribute__" = some (some (.builtin "BaseException.__getattribute__"))) (n7 : PySem.W.findIn K (.ref NC) "__getattr__" = some none) (n8 : PySem.W.hasDictIn K NC = true) (n9 : PySem.W.subIn K (.ref NC) (.ref NC) = some true)
    (b1 : PySem.W.specialIn K (.ref Bc) "__getattribute__" = some (some (.builtin "type.__getattribute__"))) (b2 : PySem.W.readsIn K Bc (.type "type") = true) (b3 : PySem.W.findCls K (.ref Bc) (.type "type") "__init__" = some (.val (.builtin "ValueError.__init__")))
    (r1 : PySem.W.plainGet K C Str.empty = true) (r2 : PySem.W.hasDictIn K C = true) (r3 : PySem.W.plainOver K C = true) (r4 : PySem.W.findIn K (.ref C) "__setattr__" = some (some (.builtin "object.__setattr__"))) (r5 : PySem.W.findIn K (.ref C) "s11_open" = some none) (r6 : PySem.W.findIn K (.ref C) "s11_times" = some none)
    (r7 : PySem.W.makesIn K C = true) (r8 : PySem.W.keepIn K (.ref C) = true)
    (zisinst : PySem.W.nsIn K mainGlobals "isinstance" = some none)
    (zint : PySem.W.nsIn K mainGlobals "int" = some none)
    (zbool : PySem.W.nsIn K mainGlobals "bool" = some none)
    (ztuple : PySem.W.nsIn K mainGlobals "tuple" = some none)
    (zlist : PySem.W.nsIn K mainGlobals "list" = some none)
    (zstr : PySem.W.nsIn K mainGlobals "str" = some none)
    (zall : PySem.W.nsIn K mainGlobals "all" = some none)
    (zlen : PySem.W.nsIn K mainGlobals "len" = some none)
    (zzip : PySem.W.nsIn K mainGlobals "zip" = some none)
    (zenumerate : PySem.W.nsIn K mainGlobals "enumerate" = some none)
    (zrange : PySem.W.nsIn K mainGlobals "range" = some none)
    (zmax : PySem.W.nsIn K mainGlobals "max" = some none)
    (zmin : PySem.W.nsIn K mainGlobals "min" = some none)
    (zabs : PySem.W.nsIn K mainGlobals "abs" = some none)
    (ni : MF K NC "__init__" "NoText.__init__" sNoText ["self", "at"])
    (mInit : MF K C "__init__" "Reader.__init__" sInit ["self"])
    (mBegin : MF K C "begin" "Reader.begin" sBegin ["self", "many"])
    (mClose : MF K C "close" "Reader.close" sClose ["self"])
    (mTake : MF K C "take" "Reader.take" sTake ["self", "word"])
    (gNum : GF K mg "is_number" sIsNumber ["thing"])
    (gSay : GF K mg "is_saying" sIsSaying ["thing"])
    (gRow : GF K mg "is_row" sIsRow ["thing"])
    (gPS : GF K mg "people_said" sPeopleSaid ["item"])
    (gPO : GF K mg "people_of" sPeopleOf ["thing"])
    (gLong : GF K mg "is_long" sIsLong ["thing"])
    (gStep : GF K mg "is_step" sIsStep ["thing"])
    (gTable : GF K mg "is_table" sIsTable ["thing"])
    (gStretch : GF K mg "is_stretch" sIsStretch ["thing"])
    (gPlain : GF K mg "plain" sPlain ["number"])
    (gEntry : GF K mg "is_entry" sIsEntry ["thing"])
    (gShelf : GF K mg "is_shelf" sIsShelf ["thing"])
    (gEnd : GF K mg "end_text" sEndText ["number"])
    (gPart : GF K mg "part_text" sPartText ["part"])
    (gRowT : GF K mg "row_text" sRowText ["row"])
    (gShowRow : GF K mg "show_row" sShowRow ["row"])
    (gShowTab : GF K mg "show_table" sShowTable ["table"])
    (gShowStr : GF K mg "show_stretches" sShowStretches ["stretches"])
    (gShowShf : GF K mg "show_shelf" sShowShelf ["shelf"])
    (gWords : GF K mg "words_in" sWordsIn ["text"])
    (gNumIn : GF K mg "number_in" sNumberIn ["word"])
    (gPair : GF K mg "pair_in" sPairIn ["word", "mark"])
    (gStrIn : GF K mg "stretch_in" sStretchIn ["word"])
    (gReadRow : GF K mg "read_row" sReadRow ["text"])
    (gReadTab : GF K mg "read_table" sReadTable ["text"])
    (gReadLot : GF K mg "read_lot" sReadLot ["text"])
    (gReadStr : GF K mg "read_stretches" sReadStretches ["text"])
    (gReadShf : GF K mg "read_shelf" sReadShelf ["text"])
    (gTin : GF K mg "_law_tin" sTin ["_law_script", "_law_k"])
    (gDeal : GF K mg "_law_deal" sDeal ["_law_tin_here", "_law_wide"])
    (gBack : GF K mg "_law_back" sBack ["_law_kind", "_law_text"])
    (gRef : GF K mg "_law_refused_at" sRefusedAt ["_law_text"])
    (gDeep : GF K mg "_law_deep" sDeep ["_law_tin_here", "_law_deep_here"])
    (gLaw : GF K mg "law" sLaw ["_law_script"])
    : ∃ fd : FuncData, (∀ (s : Shared) (u : Value), BindsTo s fd ⟨[u], []⟩ [("_law_script", u)]) ∧ ∀ base : Heap, FnOk P w K mg base CX0 207 fa fd ["_law_script"] (spLaw K) := by
  have OX : OexC K NC := ⟨⟨_, _, _, _, _, _, _, _, _, _, _, _, _, _, _, xN, vN⟩, n1, n2, n3, n4⟩
  have mN := PySem.W.mg_of X G aN
  have mst : ∃ t : Tok, mg "MOST_PEOPLE" = some (.int MOST t) := by
    obtain ⟨u, e, r⟩ := XP.2.val _ List.mem_cons_self
    cases r
    rw [hv] at e
    exact ⟨_, e⟩
  have T : Tp K mg NC Bc C :=
    { bi := ⟨PySem.W.mg_none_of X G zisinst, PySem.W.mg_none_of X G zint, PySem.W.mg_none_of X G zbool, PySem.W.mg_none_of X G ztuple, PySem.W.mg_none_of X G zlist, PySem.W.mg_none_of X G zstr, PySem.W.mg_none_of X G zall, PySem.W.mg_none_of X G zlen, PySem.W.mg_none_of X G zzip, PySem.W.mg_none_of X G zenumerate, PySem.W.mg_none_of X G zrange, PySem.W.mg_none_of X G zmax, PySem.W.mg_none_of X G zmin, PySem.W.mg_none_of X G zabs⟩
      fig := ⟨tf, PySem.W.mg_of X G aF⟩, aga := ⟨ta, PySem.W.mg_of X G aA⟩, mst := mst
      nt := ⟨OX, mN, PySem.W.mg_of X G aB, n5, b1, b2, b3⟩
      xn := ⟨⟨n6, n7, n2, n8⟩, n5, PySem.W.exm_ref n2 n8 n3 n9, mN⟩
      ni := ni, rt := ⟨⟨r1, r2, r3, r4⟩, r5, r6, PySem.W.mg_of X G aR⟩, makes := r7, kc := r8
      gNum := gNum, gSay := gSay, gRow := gRow, gPS := gPS, gPO := gPO, gLong := gLong, gStep := gStep, gTable := gTable, gStretch := gStretch, gPlain := gPlain, gEntry := gEntry, gShelf := gShelf, gEnd := gEnd, gPart := gPart, gRowT := gRowT, gShowRow := gShowRow, gShowTab := gShowTab, gShowStr := gShowStr, gShowShf := gShowShf, gWords := gWords, gNumIn := gNumIn, gPair := gPair, gStrIn := gStrIn, gReadRow := gReadRow, gReadTab := gReadTab, gReadLot := gReadLot, gReadStr := gReadStr, gReadShf := gReadShf, gTin := gTin, gDeal := gDeal, gBack := gBack, gRef := gRef, gDeep := gDeep, gLaw := gLaw, mInit := mInit, mBegin := mBegin, mClose := mClose, mTake := mTake }
  exact all_law T hfa
end
/-- the end: what a loose name of the module holds is told -/
theorem walk_loose {l : PySem.W.OpenLaw} {n k : Nat} {q : Program} {loose : List Str} {XP : (Str → Option Value) → Heap → Prop} {YP : World → Heap → Prop} {d : DefRec} {K : Params → PySem.W.Frag} {x : Str} {sp : PySem.W.Frag → Sp}
    (hn : l.most = some n) (hz : n ≤ sizeLine) (nd : d.params.defaults = []) (room : Room k callerA) (kin : ∀ (w : World) (g : Heap), YP w g → (K w.params).In g)
    (F : ∀ (w : World) (mg : Str → Option Value) (fa : Addr) (g : Heap), XP mg g → (K w.params).In g → g.Ns mainGlobals mg → mg d.name = some (.ref fa) →
      ∃ fd : FuncData, (∀ (s : Shared) (u : Value), BindsTo s fd ⟨[u], []⟩ [(x, u)]) ∧ ∀ base : Heap, FnOk l.prog w (K w.params) mg base CX0 k fa fd [x] (sp (K w.params)))
    (told : ∀ (K : PySem.W.Frag) (H : Hp) (a : Addr) (ns : List Int), ns.length ≤ n → SqL K H a (ns.map V.int) → sp K [.ref a] H (fun v _ => v = .bl true) fun _ _ _ => False) :
    PySem.W.WalkO q loose XP YP l.row.toRowW d [] (fun f vs => PySem.call f vs) := by
  refine Att.attach_call hn nd fun w t0 t1 mg mb fa o pm cd doc a vs ns G Y _ _ _ named scr whole len gens => ?_
  obtain ⟨fd, binds, ok⟩ := F w mg fa _ G.X (kin w _ Y) G.T.g named
  exact law_call (kin w _ Y) G.T.g G.T.b G.T.builtins G.T.nolimit gens scr whole (Nat.le_trans len hz) room (fun base _ _ => ok base) binds (fun H _ S => told _ H a ns len S) fun _ _ _ z => z
end Bo

open PySem PySem.W PyProof.Rows
set_option maxRecDepth 100000 in
set_option maxHeartbeats 0 in
theorem PySem.Challenge.cw_boastrow_k96_whole_texts_read_back_holds : PySem.Challenge.rw_boastrow_k96_whole_texts_read_back.Holds := by
  w_on; o_law; k_head; (case hw => w_witness2)
  k_fill
  refine Bo.walk_loose (l := PySem.Challenge.rw_boastrow_k96_whole_texts_read_back) (n := 63) (k := 207) (x := "_law_script") (sp := Bo.spLaw) rfl (by decide) rfl ⟨rfl, by decide, by decide⟩ (fun w g Y => PySem.W.kIn_of Y) ?F
    (fun K H a ns hl hS => ⟨a, ns, rfl, Nat.le_trans hl (by decide), hS, fun _ => rfl⟩)
  case F =>
    intro w mg fa g XP KX G hmg
    refine' Bo.tp_all KX G hmg XP ?hv ?aF ?aA ?aN ?aB ?aR ?xN ?vN ?n1 ?n2 ?n3 ?n4 ?n5 ?n6 ?n7 ?n8 ?n9 ?b1 ?b2 ?b3 ?r1 ?r2 ?r3 ?r4 ?r5 ?r6 ?r7 ?r8 ?zisinst ?zint ?zbool ?ztuple ?zlist ?zstr ?zall ?zlen ?zzip ?zenumerate ?zrange ?zmax ?zmin ?zabs ?ni ?mInit ?mBegin ?mClose ?mTake ?gNum ?gSay ?gRow ?gPS ?gPO ?gLong ?gStep ?gTable ?gStretch ?gPlain ?gEntry ?gShelf ?gEnd ?gPart ?gRowT ?gShowRow ?gShowTab ?gShowStr ?gShowShf ?gWords ?gNumIn ?gPair ?gStrIn ?gReadRow ?gReadTab ?gReadLot ?gReadStr ?gReadShf ?gTin ?gDeal ?gBack ?gRef ?gDeep ?gLaw
    (case hv => decide)
    (case aF => k_is)
    (case aA => k_is)
    (case aN => k_is)
    (case aB => k_is)
    (case aR => k_is)
    (case xN => k_is)
    (case vN => decide +kernel)
    (case n1 => k_is)
    (case n2 => k_is)
    (case n3 => k_is)
    (case n4 => k_is)
    (case n5 => k_is)
    (case n6 => k_is)
    (case n7 => k_is)
    (case n8 => k_is)
    (case n9 => k_is)
    (case b1 => k_is)
    (case b2 => k_is)
    (case b3 => k_is)
    (case r1 => k_is)
    (case r2 => k_is)
    (case r3 => k_is)
    (case r4 => k_is)
    (case r5 => k_is)
    (case r6 => k_is)
    (case r7 => k_is)
    (case r8 => k_is)
    (case zisinst => k_is)
    (case zint => k_is)
    (case zbool => k_is)
    (case ztuple => k_is)
    (case zlist => k_is)
    (case zstr => k_is)
    (case zall => k_is)
    (case zlen => k_is)
    (case zzip => k_is)
    (case zenumerate => k_is)
    (case zrange => k_is)
    (case zmax => k_is)
    (case zmin => k_is)
    (case zabs => k_is)
    (case ni => refine' Bo.mf_mk Bo.hb_mNT ?a ?l ?c ?kp ?i ?t; (case a => k_is); (case l => k_is); (case c => k_is); (case kp => k_is); (case i => k_is); (case t => k_is))
    (case mInit => refine' Bo.mf_mk Bo.hb_mInit ?a ?l ?c ?kp ?i ?t; (case a => k_is); (case l => k_is); (case c => k_is); (case kp => k_is); (case i => k_is); (case t => k_is))
    (case mBegin => refine' Bo.mf_mk Bo.hb_mBegin ?a ?l ?c ?kp ?i ?t; (case a => k_is); (case l => k_is); (case c => k_is); (case kp => k_is); (case i => k_is); (case t => k_is))
    (case mClose => refine' Bo.mf_mk Bo.hb_mClose ?a ?l ?c ?kp ?i ?t; (case a => k_is); (case l => k_is); (case c => k_is); (case kp => k_is); (case i => k_is); (case t => k_is))
    (case mTake => refine' Bo.mf_mk Bo.hb_mTake ?a ?l ?c ?kp ?i ?t; (case a => k_is); (case l => k_is); (case c => k_is); (case kp => k_is); (case i => k_is); (case t => k_is))
    (case gNum => refine' Bo.gf_mk KX G Bo.hb_gNum ?a ?l ?c ?kp; (case a => k_is); (case l => k_is); (case c => k_is); (case kp => k_is))
    (case gSay => refine' Bo.gf_mk KX G Bo.hb_gSay ?a ?l ?c ?kp; (case a => k_is); (case l => k_is); (case c => k_is); (case kp => k_is))
    (case gRow => refine' Bo.gf_mk KX G Bo.hb_gRow ?a ?l ?c ?kp; (case a => k_is); (case l => k_is); (case c => k_is); (case kp => k_is))
    (case gPS => refine' Bo.gf_mk KX G Bo.hb_gPS ?a ?l ?c ?kp; (case a => k_is); (case l => k_is); (case c => k_is); (case kp => k_is))
    (case gPO => refine' Bo.gf_mk KX G Bo.hb_gPO ?a ?l ?c ?kp; (case a => k_is); (case l => k_is); (case c => k_is); (case kp => k_is))
    (case gLong => refine' Bo.gf_mk KX G Bo.hb_gLong ?a ?l ?c ?kp; (case a => k_is); (case l => k_is); (case c => k_is); (case kp => k_is))
    (case gStep => refine' Bo.gf_mk KX G Bo.hb_gStep ?a ?l ?c ?kp; (case a => k_is); (case l => k_is); (case c => k_is); (case kp => k_is))
    (case gTable => refine' Bo.gf_mk KX G Bo.hb_gTable ?a ?l ?c ?kp; (case a => k_is); (case l => k_is); (case c => k_is); (case kp => k_is))
    (case gStretch => refine' Bo.gf_mk KX G Bo.hb_gStretch ?a ?l ?c ?kp; (case a => k_is); (case l => k_is); (case c => k_is); (case kp => k_is))
    (case gPlain => refine' Bo.gf_mk KX G Bo.hb_gPlain ?a ?l ?c ?kp; (case a => k_is); (case l => k_is); (case c => k_is); (case kp => k_is))
    (case gEntry => refine' Bo.gf_mk KX G Bo.hb_gEntry ?a ?l ?c ?kp; (case a => k_is); (case l => k_is); (case c => k_is); (case kp => k_is))
    (case gShelf => refine' Bo.gf_mk KX G Bo.hb_gShelf ?a ?l ?c ?kp; (case a => k_is); (case l => k_is); (case c => k_is); (case kp => k_is))
    (case gEnd => refine' Bo.gf_mk KX G Bo.hb_gEnd ?a ?l ?c ?kp; (case a => k_is); (case l => k_is); (case c => k_is); (case kp => k_is))
    (case gPart => refine' Bo.gf_mk KX G Bo.hb_gPart ?a ?l ?c ?kp; (case a => k_is); (case l => k_is); (case c => k_is); (case kp => k_is))
    (case gRowT => refine' Bo.gf_mk KX G Bo.hb_gRowT ?a ?l ?c ?kp; (case a => k_is); (case l => k_is); (case c => k_is); (case kp => k_is))
    (case gShowRow => refine' Bo.gf_mk KX G Bo.hb_gShowRow ?a ?l ?c ?kp; (case a => k_is); (case l => k_is); (case c => k_is); (case kp => k_is))
    (case gShowTab => refine' Bo.gf_mk KX G Bo.hb_gShowTab ?a ?l ?c ?kp; (case a => k_is); (case l => k_is); (case c => k_is); (case kp => k_is))
    (case gShowStr => refine' Bo.gf_mk KX G Bo.hb_gShowStr ?a ?l ?c ?kp; (case a => k_is); (case l => k_is); (case c => k_is); (case kp => k_is))
    (case gShowShf => refine' Bo.gf_mk KX G Bo.hb_gShowShf ?a ?l ?c ?kp; (case a => k_is); (case l => k_is); (case c => k_is); (case kp => k_is))
    (case gWords => refine' Bo.gf_mk KX G Bo.hb_gWords ?a ?l ?c ?kp; (case a => k_is); (case l => k_is); (case c => k_is); (case kp => k_is))
    (case gNumIn => refine' Bo.gf_mk KX G Bo.hb_gNumIn ?a ?l ?c ?kp; (case a => k_is); (case l => k_is); (case c => k_is); (case kp => k_is))
    (case gPair => refine' Bo.gf_mk KX G Bo.hb_gPair ?a ?l ?c ?kp; (case a => k_is); (case l => k_is); (case c => k_is); (case kp => k_is))
    (case gStrIn => refine' Bo.gf_mk KX G Bo.hb_gStrIn ?a ?l ?c ?kp; (case a => k_is); (case l => k_is); (case c => k_is); (case kp => k_is))
    (case gReadRow => refine' Bo.gf_mk KX G Bo.hb_gReadRow ?a ?l ?c ?kp; (case a => k_is); (case l => k_is); (case c => k_is); (case kp => k_is))
    (case gReadTab => refine' Bo.gf_mk KX G Bo.hb_gReadTab ?a ?l ?c ?kp; (case a => k_is); (case l => k_is); (case c => k_is); (case kp => k_is))
    (case gReadLot => refine' Bo.gf_mk KX G Bo.hb_gReadLot ?a ?l ?c ?kp; (case a => k_is); (case l => k_is); (case c => k_is); (case kp => k_is))
    (case gReadStr => refine' Bo.gf_mk KX G Bo.hb_gReadStr ?a ?l ?c ?kp; (case a => k_is); (case l => k_is); (case c => k_is); (case kp => k_is))
    (case gReadShf => refine' Bo.gf_mk KX G Bo.hb_gReadShf ?a ?l ?c ?kp; (case a => k_is); (case l => k_is); (case c => k_is); (case kp => k_is))
    (case gTin => refine' Bo.gf_mk KX G Bo.hb_gTin ?a ?l ?c ?kp; (case a => k_is); (case l => k_is); (case c => k_is); (case kp => k_is))
    (case gDeal => refine' Bo.gf_mk KX G Bo.hb_gDeal ?a ?l ?c ?kp; (case a => k_is); (case l => k_is); (case c => k_is); (case kp => k_is))
    (case gBack => refine' Bo.gf_mk KX G Bo.hb_gBack ?a ?l ?c ?kp; (case a => k_is); (case l => k_is); (case c => k_is); (case kp => k_is))
    (case gRef => refine' Bo.gf_mk KX G Bo.hb_gRef ?a ?l ?c ?kp; (case a => k_is); (case l => k_is); (case c => k_is); (case kp => k_is))
    (case gDeep => refine' Bo.gf_mk KX G Bo.hb_gDeep ?a ?l ?c ?kp; (case a => k_is); (case l => k_is); (case c => k_is); (case kp => k_is))
    (case gLaw => refine' Bo.gf_mk KX G Bo.hb_gLaw ?a ?l ?c ?kp; (case a => k_is); (case l => k_is); (case c => k_is); (case kp => k_is))

