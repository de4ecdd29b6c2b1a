import PyProof.Rows.All
import Wide.All
import OpenK.AllK
import Wide.FinOn
import PyProof.EqAt
import PyProof.EqKinds
import PyProof.TupleCall
import HandS.ForMost
import HandS.ForExc
import HandS.IsInst
import HandS.Wide
import HandS.Defaults
import HandS.Codes
import PySem.Challenge.RW_latticeshapes_k82_whole_formatted_and_pa
import KE.GoesMore
import HandS.GenOver
import HandS.GenList
import HandS.ExcCtx
import HandS.ExcInit
import HandS.ExcInitHot
import HandS.SuiteRaise
import HandS.RaiseFrom
import KE.GoesZip
import KE.GoesEnum
import HandS.Deep
import HandS.Style
import HandS.More
import KE.DatumOrd
import HandS.ClsMeth
import HandS.Property
import HandS.Nested
import KE.KSuper
import HandS.Text
import KE.IntTextText
import HandS.FStr
import PyProof.Rows.MatchSeqLen
import PyProof.RulesAs
import HandS.CallLocal
import HandS.CallSlots
import HandS.Star
import HandS.RaiseMore
import OpenK.KOps
import PyProof.ReprReads
import PyProof.ReprRoads
import PyProof.ReprLen
import HandS.TryOnly
import HandS.HeadHook1
import HandS.HeadHook2
import HandS.HeadNt
import HandS.Head0
import HandS.Head1
import HandS.Head2
import HandS.HeadEnd
set_option Elab.async false
set_option linter.all false
set_option maxRecDepth 100000
set_option maxHeartbeats 4000000
/-! Own part 2: the text by places, the built-in names, the small defs. -/
namespace K82
open PySem PySem.Spec PyProof.Rows L2

/-! ### the text -/
def topS (i : Nat) : Stmt := PySem.Challenge.pw_latticeshapes_k82_whole_formatted_and_pa.main.body.getD i (.Pass ⟨0, 0, 0, 0⟩)
/-- the built-in names are what they are -/
structure Free (mg : Str → Option Value) : Prop where
  isi : mg "isinstance" = none
  int : mg "int" = none
  bool : mg "bool" = none
  tuple : mg "tuple" = none
  list : mg "list" = none
  str : mg "str" = none
  len : mg "len" = none
  all : mg "all" = none
  abs : mg "abs" = none
  min : mg "min" = none
  max : mg "max" = none
  sum : mg "sum" = none
  range : mg "range" = none
  enumerate : mg "enumerate" = none
  zip : mg "zip" = none
  repr : mg "repr" = none
  sorted : mg "sorted" = none
  super : mg "super" = none
/-- a def of the module, at one address, by its promise -/
structure Ca (P : Program) (w : World) (K : PySem.W.Frag) (mg : Str → Option Value) (base : Heap) (CX : CXT) (k : Nat) (x : Str) (sp : Sp) (dvs : List V) : Prop where
  ex : ∃ (f : Addr) (fd : FuncData) (ps : List Str) (ds : List Value), FnOk P w K mg base CX k f fd ps sp ∧ mg x = some (.ref f) ∧ PySem.W.keepIn K (.ref f) = true ∧ Binds K fd ps ds ∧ Vals dvs ds
/-- a def of the top as it stands: its function object; dvs: its defaults -/
def DfD (K : PySem.W.Frag) (mg : Str → Option Value) (x : Str) (i : Nat) (dvs : List V) : Prop :=
  ∃ (f : Addr) (fd : FuncData), FunD K x x (defArgs (topS i)) (defBody (topS i)) (defScope (topS i)) dvs [] f fd ∧ mg x = some (.ref f)
abbrev Df (K : PySem.W.Frag) (mg : Str → Option Value) (x : Str) (i : Nat) : Prop := DfD K mg x i []
section
variable {X : Cx} {CX : CXT} {k j : Nat} {x : Str} {sp : Sp} {dvs : List V} {E : XK} {p pos : Pos} {e : Expr} {es : List Expr} {t : TA}
/-- a call of it -/
theorem pe_ca (c : Ca X.prog X.w X.K X.mg X.base CX k x sp dvs) (hr : Room j X.A) (hk : k ≤ j) (hx : Passes CX X E) (ha : PA X (e :: es) t) (hg : Gl X x := by rfl)
    (hdb : (x == ("__debug__" : Str)) = false := by decide) (he : starEach (e :: es) X.env = (false, eval e X.env) :: starEach es X.env := by rfl) (hpl : (backTo pos (starEach es X.env)).any (·.1) = false := by rfl) :
    PE X (.Call (.Name x p) (e :: es) [] pos) (tCall sp dvs E t) := by
  obtain ⟨f, fd, ps, ds, F, hm, kp, b, d⟩ := c.ex
  exact pe_call F (hr.mono hk) hg hm kp b d hx ha hdb he hpl
theorem pe_ca0 (c : Ca X.prog X.w X.K X.mg X.base CX0 k x sp dvs) (hr : Room j X.A) (hk : k ≤ j) (ha : PA X (e :: es) t) (hg : Gl X x := by rfl)
    (hdb : (x == ("__debug__" : Str)) = false := by decide) (he : starEach (e :: es) X.env = (false, eval e X.env) :: starEach es X.env := by rfl) (hpl : (backTo pos (starEach es X.env)).any (·.1) = false := by rfl) :
    PE X (.Call (.Name x p) (e :: es) [] pos) (tCall sp dvs E0 t) := pe_ca c hr hk pass0 ha hg hdb he hpl
end
section
variable {P : Program} {w : World} {K : PySem.W.Frag} {mg : Str → Option Value} {base : Heap}
/-- a def's promise by its body -/
theorem ca_of {CX : CXT} {x : Str} {i k : Nat} {N ps : List Str} {sp : Sp} (D : Df K mg x i) (S : FnScope N ps (defScope (topS i))) (len : ∀ vs H Q E, sp vs H Q E → vs.length = ps.length)
    (hb : ∀ (kV doc pm : Value) (an : Option Addr) (cdv ct : Value) (us : List Value), us.length = ps.length → bindArgs (PySem.W.fnOf x x (defArgs (topS i)) (defBody (topS i)) (defScope (topS i)) .none kV doc pm an cdv ct) ⟨us, []⟩ = pure (ps.zip us))
    (hbody : ∀ (f : Addr) (cdv : Value) (A : Around) (outer : List Env) (s : Shared) (H : Hp) (vs : List V) (Q : VK) (E : XK), Room k (A.deeper (envOfC x (defScope (topS i)) s.heap.objs.size f cdv)) → sp vs H Q E →
      ∃ t, PSs (cxOf CX P w K mg base N x (defScope (topS i)) f cdv A outer s H E) (defBody (topS i)) t ∧ t { nx := fun _ H' => Q .non H', rt := Q } (start N vs) H) : Ca P w K mg base CX (k + 1) x sp [] := by
  obtain ⟨f, fd, F, hm⟩ := D
  refine ⟨f, fd, ps, [], F.ok S len fun cdv A outer s H vs Q E hr h => hbody f cdv A outer s H vs Q E hr h, hm, F.kp, F.bindsN hb, .nil⟩
/-- the same where the last parameters have defaults, all of which fill up -/
theorem ca_ofD {CX : CXT} {x : Str} {i k n : Nat} {N ps : List Str} {sp : Sp} {dvs : List V} (D : DfD K mg x i dvs) (S : FnScope N ps (defScope (topS i))) (len : ∀ vs H Q E, sp vs H Q E → vs.length = ps.length)
    (hd : dvs ≠ []) (hn : n + dvs.length = ps.length)
    (hb : ∀ (T : Addr) (kV doc pm : Value) (an : Option Addr) (cdv ct : Value) (us its : List Value), us.length = n → its.length = dvs.length →
      ∃ k, bindArgs (PySem.W.fnOf x x (defArgs (topS i)) (defBody (topS i)) (defScope (topS i)) (.ref T) kV doc pm an cdv ct) ⟨us, []⟩ = seqItems? (.ref T) >>= k ∧ k (some its.toArray) = pure (ps.zip (us ++ its.drop 0)))
    (hbody : ∀ (f : Addr) (cdv : Value) (A : Around) (outer : List Env) (s : Shared) (H : Hp) (vs : List V) (Q : VK) (E : XK), Room k (A.deeper (envOfC x (defScope (topS i)) s.heap.objs.size f cdv)) → sp vs H Q E →
      ∃ t, PSs (cxOf CX P w K mg base N x (defScope (topS i)) f cdv A outer s H E) (defBody (topS i)) t ∧ t { nx := fun _ H' => Q .non H', rt := Q } (start N vs) H) : Ca P w K mg base CX (k + 1) x sp dvs := by
  obtain ⟨f, fd, F, hm⟩ := D
  obtain ⟨ds, r, b⟩ := F.binds1 n 0 hd (by rw [Nat.sub_zero]; exact hn) hb
  exact ⟨f, fd, ps, ds, F.ok S len fun cdv A outer s H vs Q E hr h => hbody f cdv A outer s H vs Q E hr h, hm, F.kp, b, r⟩
end
end K82
set_option Elab.async false
set_option linter.all false
set_option maxRecDepth 100000
set_option maxHeartbeats 4000000
namespace K82
open PySem PySem.Spec PyProof.Rows L2
section
variable {P : Program} {w : World} {K : PySem.W.Frag} {mg : Str → Option Value} {base : Heap}

/-! ### is_integer -/
def spIsInt : Sp := fun vs H Q _ => ∃ n : Int, vs = [.int n] ∧ Q (.bl true) H
theorem sc12 : FnScope ["value"] ["value"] (defScope (topS 12)) := ⟨rfl, rfl, rfl, by decide +kernel, rfl, by decide +kernel, by decide +kernel⟩
theorem ok_is_integer (F : Free mg) (D : Df K mg "is_integer" 12) : Ca P w K mg base CX0 1 "is_integer" spIsInt [] := by
  refine ca_of D sc12 (fun vs H Q E h => ?_) (fun _ _ _ _ _ _ us hl => match us, hl with | [_], _ => rfl) (fun f cdv A outer s H vs Q E hr h => ?_)
  · obtain ⟨n, rfl, _⟩ := h
    rfl
  · obtain ⟨n, rfl, q⟩ := h
    refine ⟨_, pss_one (ps_ret (pe_and (pe_callB call_isi (by rfl) F.isi (by decide +kernel) (pa_cons (pv 0) (pa_cons (pe_bltn (v := .ty "int") (by rfl) F.int (by decide +kernel) rfl) pa_nil)))
      (pe_one (pe_not (pe_callB call_isi (by rfl) F.isi (by decide +kernel) (pa_cons (pv 0) (pa_cons (pe_bltn (v := .ty "bool") (by rfl) F.bool (by decide +kernel) rfl) pa_nil))))))), ?_⟩
    refine ⟨_, rfl, _, _, .type "int", _, true, rfl, .ty "int", .base (.int n), kit_ty (by decide +kernel), true, rfl, iteT ?_⟩
    exact ⟨_, rfl, _, _, .type "int", _, false, rfl, .ty "bool", .base (.int n), kit_ty (by decide +kernel), false, rfl, q⟩

/-! ### check_integer -/
def spCheckInt : Sp := fun vs H Q _ => ∃ n : Int, vs = [.int n, .non] ∧ Q .non H
theorem sc13 : FnScope ["value", "least"] ["value", "least"] (defScope (topS 13)) := ⟨rfl, rfl, rfl, by decide +kernel, rfl, by decide +kernel, by decide +kernel⟩
theorem ok_check_integer (D : DfD K mg "check_integer" 13 [.non]) (cI : Ca P w K mg base CX0 1 "is_integer" spIsInt []) : Ca P w K mg base CX0 2 "check_integer" spCheckInt [.non] := by
  refine ca_ofD (n := 1) D sc13 (fun vs H Q E h => ?_) (by simp) rfl (fun _ _ _ _ _ _ _ us its hl hi => match us, hl, its, hi with | [_], _, [_], _ => ⟨_, rfl, rfl⟩) (fun f cdv A outer s H vs Q E hr h => ?_)
  · obtain ⟨n, rfl, _⟩ := h
    rfl
  · obtain ⟨n, rfl, q⟩ := h
    refine ⟨_, pss_one (ps_if (PW.pt (pw_or (pt_not (pt_val (pe_ca0 cI hr (by decide) (pa_cons (pv 0) pa_nil)))) (pw_or1 (PW.pt (pw_and (pt_cmp (pc_notN (pv 1)) rfl) (pw_and1 (pt_cmpR op_lt (pv 0) (pv 1) (nomark _)))))))) pss_never pss_nil), ?_⟩
    exact ⟨_, rfl, n, rfl, true, rfl, iteF ⟨_, rfl, false, rfl, iteF (iteF q)⟩⟩

/-! ### points -/
/-- a point, as it stands -/
def PtAt (H : Hp) (p : Int × Int) (v : V) : Prop := ∃ a, v = .ref a ∧ H a = some (.tup [.int p.1, .int p.2])
theorem PtAt.same {H H' : Hp} {p : Int × Int} {v : V} (h : PtAt H p v) (s : Same H H') : PtAt H' p v := by
  obtain ⟨a, e, h⟩ := h
  exact ⟨a, e, s _ _ h⟩

/-! ### is_point -/
def spIsPoint : Sp := fun vs H Q _ => ∃ (p : Int × Int) (v : V), vs = [v] ∧ PtAt H p v ∧ ∀ H', Same H H' → Q (.bl true) H'
theorem sc15 : FnScope ["value", "item"] ["value"] (defScope (topS 15)) := ⟨rfl, rfl, rfl, by decide +kernel, rfl, by decide +kernel, by decide +kernel⟩
theorem sNew {H : Hp} {p : Addr} (hp : H p = none) (o : HO) : Same H (upd H p o) := fun b u e => by
  rw [upd_ne (ne_of_none e hp)]
  exact e
theorem sOver {H H' : Hp} {p : Addr} {o u : HO} (s : Same (upd H p o) H') (hp : H p = none) : Same H (upd H' p u) := fun b v e => by
  have nb : b ≠ p := ne_of_none e hp
  rw [upd_ne nb]
  exact s b v (by rw [upd_ne nb]; exact e)
theorem sPut {H H' : Hp} {p : Addr} {u : HO} (s : Same H H') (hp : H p = none) : Same H (upd H' p u) := fun b v e => by
  rw [upd_ne (ne_of_none e hp)]
  exact s b v e
theorem rep_snoc {α : Type} (n : Nat) (a : α) : List.replicate (n + 1) a = List.replicate n a ++ [a] := List.replicate_succ'
theorem ok_is_point (F : Free mg) (D : Df K mg "is_point" 15) (cI : Ca P w K mg base CX0 1 "is_integer" spIsInt []) : Ca P w K mg base CX0 2 "is_point" spIsPoint [] := by
  refine ca_of D sc15 (fun vs H Q E h => ?_) (fun _ _ _ _ _ _ us hl => match us, hl with | [_], _ => rfl) (fun f cdv A outer s H vs Q E hr h => ?_)
  · obtain ⟨p, v, rfl, _⟩ := h
    rfl
  · obtain ⟨⟨x, y⟩, v, rfl, ⟨a, rfl, ha⟩, q⟩ := h
    refine ⟨_, pss_one (ps_ret (pe_and (pe_callB call_isi (by rfl) F.isi (by decide +kernel) (pa_cons (pv 0) (pa_cons (pe_bltn (v := .ty "tuple") (by rfl) F.tuple (by decide +kernel) rfl) pa_nil)))
      (pe_and (pe_cmpR op_eq (pe_callB call_len_seq (by rfl) F.len (by decide +kernel) (pa_cons (pv 0) pa_nil)) pe_int (nomark _))
      (pe_one (pe_callB (cr_all rfl) (by rfl) F.all (by decide +kernel) (pa_cons (pe_lc (own := [("item", 1)]) (g := gName 1) rfl sc15.nd (pi_tup (pv 0)) (blkOk_by (own := [("item", 1)]) (N := ["value", "item"]) (sc := defScope (topS 15)) (by decide +kernel))
        (fun _ _ _ _ _ => pg_name (i := 1) sc15.nd rfl (Or.inl rfl)) (fun _ _ _ _ _ => pts_nil) (fun _ _ _ _ _ => pe_ca0 cI hr (by decide) (pa_cons (pv 1) pa_nil))) pa_nil)))))), ?_⟩
    refine ⟨_, rfl, _, _, .type "tuple", _, true, rfl, .ty "tuple", .base (.tup ha), kit_ty (by decide +kernel), true, rfl, iteT ?_⟩
    refine ⟨_, rfl, a, _, rfl, .inr (SqT.of ha), rfl, true, rfl, iteT ?_⟩
    refine ⟨_, rfl, a, rfl, ⟨_, SqT.of ha⟩, fun D hD => ?_⟩
    refine lc_tup (K := K) (a := a) (xs := [.int x, .int y]) (fun i H' => Same H H' ∧ H' D = some (.lst ((List.replicate i true).map V.bl))) ⟨sNew hD _, upd_same⟩ (fun i H' _ h => SqT.of (h.1 _ _ ha)) ?_ ?_
    · rintro i z H' hi ⟨s1, hd⟩
      obtain ⟨n, rfl⟩ : ∃ n, z = .int n := by
        match i, hi with
        | 0, hi => exact ⟨x, (Option.some.inj hi).symm⟩
        | 1, hi => exact ⟨y, (Option.some.inj hi).symm⟩
      have hi2 : i < 2 := (List.getElem?_eq_some_iff.mp hi).1
      refine ⟨rfl, _, rfl, n, rfl, _, hd, ?_, sPut s1 hD, ?_⟩
      · rw [List.length_map, List.length_replicate, sizeLine_eq]
        omega
      · rw [upd_same, rep_snoc, List.map_append]
        rfl
    · rintro H' ⟨s1, hd⟩
      refine ⟨D, [true, true], rfl, SqL.of hd, q H' s1⟩
end
end K82
set_option Elab.async false
set_option linter.all false
set_option maxRecDepth 100000
set_option maxHeartbeats 4000000
namespace K82
open PySem PySem.Spec PyProof.Rows L2

/-! ### sizes -/
def Bd (n : Nat) (x : Int) : Prop := x.natAbs < 2 ^ n
def BdP (n : Nat) (p : Int × Int) : Prop := Bd n p.1 ∧ Bd n p.2
theorem Bd.mono {n m : Nat} {x : Int} (h : Bd n x) (l : n ≤ m) : Bd m x := Nat.lt_of_lt_of_le h (Nat.pow_le_pow_right (by decide) l)
theorem Bd.sub {n : Nat} {x y : Int} (h : Bd n x) (g : Bd n y) : Bd (n + 1) (x - y) := by
  unfold Bd at *
  rw [Nat.pow_succ]
  omega
theorem Bd.mul {n m : Nat} {x y : Int} (h : Bd n x) (g : Bd m y) : Bd (n + m) (x * y) := wide_lt h g
theorem Bd.wide {n m : Nat} {x y : Int} (h : Bd n x) (g : Bd m y) (h0 : 0 < n) (h1 : 0 < m) (l : n + m ≤ 1000000) : CMulW x y := wide_mul h g h0 h1 l

/-! ### the plane -/
def crossI (a b : Int × Int) : Int := a.1 * b.2 - a.2 * b.1
def diffI (e s : Int × Int) : Int × Int := (e.1 - s.1, e.2 - s.2)
def turnI (a b c : Int × Int) : Int := crossI (diffI b a) (diffI c b)
theorem BdP.diff {n : Nat} {e s : Int × Int} (h : BdP n e) (g : BdP n s) : BdP (n + 1) (diffI e s) := ⟨h.1.sub g.1, h.2.sub g.2⟩
theorem BdP.cross {n m : Nat} {a b : Int × Int} (h : BdP n a) (g : BdP m b) : Bd (n + m + 1) (crossI a b) := (h.1.mul g.2).sub (h.2.mul g.1)
theorem BdP.turn {n : Nat} {a b c : Int × Int} (ha : BdP n a) (hb : BdP n b) (hc : BdP n c) : Bd (2 * n + 3) (turnI a b c) := by
  have z := BdP.cross (hb.diff ha) (hc.diff hb)
  exact z.mono (by omega)

section
variable {P : Program} {w : World} {K : PySem.W.Frag} {mg : Str → Option Value} {base : Heap}

/-! ### cross_of, difference, turn_of -/
def spCross : Sp := fun vs H Q _ => ∃ (p q : Int × Int) (u v : V), vs = [u, v] ∧ PtAt H p u ∧ PtAt H q v ∧ BdP 4000 p ∧ BdP 4000 q ∧ Q (.int (crossI p q)) H
theorem sc17 : FnScope ["first", "second"] ["first", "second"] (defScope (topS 17)) := ⟨rfl, rfl, rfl, by decide +kernel, rfl, by decide +kernel, by decide +kernel⟩
theorem ok_cross_of (D : Df K mg "cross_of" 17) : Ca P w K mg base CX0 1 "cross_of" spCross [] := by
  refine ca_of D sc17 (fun vs H Q E h => ?_) (fun _ _ _ _ _ _ us hl => match us, hl with | [_, _], _ => rfl) (fun f cdv A outer s H vs Q E hr h => ?_)
  · obtain ⟨p, q, u, v, rfl, _⟩ := h
    rfl
  · obtain ⟨p, q, u, v, rfl, ⟨a, rfl, ha⟩, ⟨b, rfl, hb⟩, bp, bq, k⟩ := h
    refine ⟨_, pss_one (ps_ret (pe_op op_sub (pe_op op_mulW (pe_ix ix_tup (pv 0) pe_int (fun _ _ => rfl)) (pe_ix ix_tup (pv 1) pe_int (fun _ _ => rfl)))
      (pe_op op_mulW (pe_ix ix_tup (pv 0) pe_int (fun _ _ => rfl)) (pe_ix ix_tup (pv 1) pe_int (fun _ _ => rfl))))), ?_⟩
    refine ⟨_, rfl, a, _, 0, _, rfl, rfl, SqT.of ha, rfl, _, rfl, b, _, 1, _, rfl, rfl, SqT.of hb, rfl, _, _, rfl, rfl, bp.1.wide bq.2 (by decide) (by decide) (by decide), ?_⟩
    refine ⟨_, rfl, a, _, 1, _, rfl, rfl, SqT.of ha, rfl, _, rfl, b, _, 0, _, rfl, rfl, SqT.of hb, rfl, _, _, rfl, rfl, bp.2.wide bq.1 (by decide) (by decide) (by decide), ?_⟩
    exact ⟨_, _, rfl, rfl, k⟩
def spDiff : Sp := fun vs H Q _ => ∃ (p q : Int × Int) (u v : V), vs = [u, v] ∧ PtAt H p u ∧ PtAt H q v ∧ ∀ (H' : Hp) (z : V), Same H H' → PtAt H' (diffI p q) z → Q z H'
theorem sc18 : FnScope ["end", "start"] ["end", "start"] (defScope (topS 18)) := ⟨rfl, rfl, rfl, by decide +kernel, rfl, by decide +kernel, by decide +kernel⟩
theorem ok_difference (D : Df K mg "difference" 18) : Ca P w K mg base CX0 1 "difference" spDiff [] := by
  refine ca_of D sc18 (fun vs H Q E h => ?_) (fun _ _ _ _ _ _ us hl => match us, hl with | [_, _], _ => rfl) (fun f cdv A outer s H vs Q E hr h => ?_)
  · obtain ⟨p, q, u, v, rfl, _⟩ := h
    rfl
  · obtain ⟨p, q, u, v, rfl, ⟨a, rfl, ha⟩, ⟨b, rfl, hb⟩, k⟩ := h
    refine ⟨_, pss_one (ps_ret (pe_tup (pa_cons (pe_op op_sub (pe_ix ix_tup (pv 0) pe_int (fun _ _ => rfl)) (pe_ix ix_tup (pv 1) pe_int (fun _ _ => rfl)))
      (pa_cons (pe_op op_sub (pe_ix ix_tup (pv 0) pe_int (fun _ _ => rfl)) (pe_ix ix_tup (pv 1) pe_int (fun _ _ => rfl))) pa_nil)))), ?_⟩
    refine ⟨_, rfl, a, _, 0, _, rfl, rfl, SqT.of ha, rfl, _, rfl, b, _, 0, _, rfl, rfl, SqT.of hb, rfl, _, _, rfl, rfl, ?_⟩
    refine ⟨_, rfl, a, _, 1, _, rfl, rfl, SqT.of ha, rfl, _, rfl, b, _, 1, _, rfl, rfl, SqT.of hb, rfl, _, _, rfl, rfl, by show 2 ≤ sizeLine; decide, fun t ht => ?_⟩
    exact k _ _ (sNew ht _) ⟨t, rfl, upd_same⟩
def spTurn : Sp := fun vs H Q _ => ∃ (a b c : Int × Int) (u v z : V), vs = [u, v, z] ∧ PtAt H a u ∧ PtAt H b v ∧ PtAt H c z ∧ BdP 1100 a ∧ BdP 1100 b ∧ BdP 1100 c ∧ ∀ H', Same H H' → Q (.int (turnI a b c)) H'
theorem sc19 : FnScope ["first", "second", "third"] ["first", "second", "third"] (defScope (topS 19)) := ⟨rfl, rfl, rfl, by decide +kernel, rfl, by decide +kernel, by decide +kernel⟩
theorem ok_turn_of (D : Df K mg "turn_of" 19) (cC : Ca P w K mg base CX0 1 "cross_of" spCross []) (cD : Ca P w K mg base CX0 1 "difference" spDiff []) : Ca P w K mg base CX0 2 "turn_of" spTurn [] := by
  refine ca_of D sc19 (fun vs H Q E h => ?_) (fun _ _ _ _ _ _ us hl => match us, hl with | [_, _, _], _ => rfl) (fun f cdv A outer s H vs Q E hr h => ?_)
  · obtain ⟨a, b, c, u, v, z, rfl, _⟩ := h
    rfl
  · obtain ⟨a, b, c, u, v, z, rfl, ha, hb, hc, ba, bb, bc, k⟩ := h
    refine ⟨_, pss_one (ps_ret (pe_ca0 cC hr (by decide) (pa_cons (pe_ca0 cD hr (by decide) (pa_cons (pv 1) (pa_cons (pv 0) pa_nil)))
      (pa_cons (pe_ca0 cD hr (by decide) (pa_cons (pv 2) (pa_cons (pv 1) pa_nil))) pa_nil)))), ?_⟩
    refine ⟨_, rfl, _, rfl, b, a, _, _, rfl, hb, ha, fun H1 d1 s1 p1 => ?_⟩
    refine ⟨_, rfl, _, rfl, c, b, _, _, rfl, hc.same s1, hb.same s1, fun H2 d2 s2 p2 => ?_⟩
    have B1 : BdP 4000 (diffI b a) := ⟨(bb.diff ba).1.mono (by decide), (bb.diff ba).2.mono (by decide)⟩
    have B2 : BdP 4000 (diffI c b) := ⟨(bc.diff bb).1.mono (by decide), (bc.diff bb).2.mono (by decide)⟩
    exact ⟨_, _, _, _, rfl, p1.same s2, p2, B1, B2, k _ (s1.trans s2)⟩

/-! ### check_point -/
def spCheckPoint : Sp := fun vs H Q _ => ∃ (p : Int × Int) (v : V), vs = [v] ∧ PtAt H p v ∧ ∀ H', Same H H' → Q .non H'
theorem sc16 : FnScope ["value"] ["value"] (defScope (topS 16)) := ⟨rfl, rfl, rfl, by decide +kernel, rfl, by decide +kernel, by decide +kernel⟩
theorem ok_check_point (D : Df K mg "check_point" 16) (c : Ca P w K mg base CX0 2 "is_point" spIsPoint []) : Ca P w K mg base CX0 3 "check_point" spCheckPoint [] := by
  refine ca_of D sc16 (fun vs H Q E h => ?_) (fun _ _ _ _ _ _ us hl => match us, hl with | [_], _ => rfl) (fun f cdv A outer s H vs Q E hr h => ?_)
  · obtain ⟨p, v, rfl, _⟩ := h
    rfl
  · obtain ⟨p, v, rfl, hp, k⟩ := h
    refine ⟨_, pss_one (ps_if (pt_not (pt_val (pe_ca0 c hr (by decide) (pa_cons (pv 0) pa_nil)))) pss_never pss_nil), ?_⟩
    exact ⟨_, rfl, p, v, rfl, hp, fun H' s' => ⟨true, rfl, iteF (k H' s')⟩⟩
end
end K82
set_option Elab.async false
set_option linter.all false
set_option maxRecDepth 100000
set_option maxHeartbeats 4000000
/-! Own part: enumerate over whatever has a next. -/
namespace K82
open PySem PySem.Spec PyProof.Rows L2
open Builtin.SmallTypes (nextOf)

section
variable {prog : Program} {w : World} {A : Around} {E : Value → Shared → Prop} {s : Shared}
/-- one turn of enumerate's own next: by what the inner iterator's next does -/
theorem enum_next_any {e it : Addr} {i : Int} {old : Value} {Q : Value → Shared → Prop} (he : IsEnum s.heap e it i old)
    (hn : wpAny (model prog w) A (nextOf (.ref it)) (fun x s1 => IsEnum s1.heap e it i old ∧
      ∀ h', IsEnumOut h' e it (i + 1) x s1.heap.objs.size → h'.get? s1.heap.objs.size = some { cls := .type "tuple", data := .seq #[.int i s1.toks, x] } → h'.objs.size = s1.heap.objs.size + 1 →
        (∀ b o, b ≠ e → s1.heap.get? b = some o → h'.get? b = some o) → Q (.ref s1.heap.objs.size) { s1 with heap := h', toks := s1.toks + 1 }) E s) :
    wpAny (model prog w) A (Builtin.«enumerate.__next__» ⟨[.ref e], []⟩) (fun fin s' => ∃ v, fin = .done (.ret v) ∧ Q v s') E s := by
  show wpAny _ _ (field (.ref e) 2 >>= _) _ _ _
  refine wpAny_bind (wpAny_field he rfl (x := .ref it) rfl ?_)
  refine wpAny_bind (wpAny_mono hn (fun x s1 hx => ?_) fun _ _ z => z)
  obtain ⟨he1, hq⟩ := hx
  obtain ⟨hp, g, d, tk, os⟩ := s1
  have e1 : IsEnum hp e it i old := he1
  show wpAny _ _ (field (.ref e) 3 >>= _) _ _ _
  refine wpAny_bind (wpAny_field e1 rfl (x := rawInt i) rfl ?_)
  show wpAny _ _ (field (.ref e) 4 >>= _) _ _ _
  refine wpAny_bind (wpAny_field e1 rfl (x := .none) rfl ?_)
  show wpAny _ _ (mkInt i >>= _) _ _ _
  refine wpAny_bind (wpAny_mkInt ?_)
  show wpAny _ _ (setField (.ref e) 3 (rawInt (i + 1)) >>= _) _ _ _
  refine wpAny_bind (wpAny_setField_rec e1 (by simp) fun h2 e2 b2 => ?_)
  have e2' : IsEnum h2 e it (i + 1) old := e2
  have b2' : Heap.SameBut e hp h2 := b2
  show wpAny _ _ (setField (.ref e) 4 .none >>= _) _ _ _
  refine wpAny_bind (wpAny_setField_rec e2' (by simp) fun h3 e3 b3 => ?_)
  have e3' : IsEnum h3 e it (i + 1) old := e3
  have b3' : Heap.SameBut e h2 h3 := b3
  show wpAny _ _ (newTuple [.int i tk, x] >>= _) _ _ _
  refine wpAny_bind (wpAny_newTuple ?_)
  have sz : h3.objs.size = hp.objs.size := by rw [b3'.1, b2'.1]
  have lt : e < hp.objs.size := Heap.lt_size e1
  obtain ⟨h4, q4⟩ : ∃ h4, h3.push { cls := .type "tuple", data := .seq #[.int i tk, x] } = h4 := ⟨_, rfl⟩
  have e4 : IsEnum h4 e it (i + 1) old := by rw [← q4]; exact Heap.get?_push_of_some _ e3'
  have t4 : h4.get? hp.objs.size = some { cls := .type "tuple", data := .seq #[.int i tk, x] } := by rw [← q4, ← sz]; exact Heap.get?_push_size _ rfl
  have z4 : h4.objs.size = hp.objs.size + 1 := by rw [← q4, Heap.size_push, sz]
  have k4 : ∀ b o, b ≠ e → hp.get? b = some o → h4.get? b = some o := fun b o hb q => by
    rw [← q4]
    exact Heap.get?_push_of_some _ (b3'.extBut b o hb (b2'.extBut b o hb q))
  show wpAny _ _ (Builtin.SmallTypes.ownedTupleIsFree (.ref e) >>= _) _ _ { heap := h3.push { cls := .type "tuple", data := .seq #[.int i tk, x] }, gens := g, drawn := d, toks := tk + 1, os := os }
  rw [q4, sz]
  refine wpAny_bind ?_
  unfold Builtin.SmallTypes.ownedTupleIsFree
  refine wpAny_bind (wpAny_field e4 rfl (x := .none) rfl (wpAny_pure ?_))
  simp only [if_true]
  refine wpAny_bind (wpAny_rule (wpAny_bind (wpAny_field e4 rfl (x := old) rfl ?_)))
  refine wpAny_bind (wpAny_setField_rec e4 (by simp) fun h5 e5 b5 => ?_)
  have e5' : IsEnum h5 e it (i + 1) x := e5
  have b5' : Heap.SameBut e h4 h5 := b5
  show wpAny _ _ (Builtin.SmallTypes.ownedTupleHandOut (.ref e) (.ref hp.objs.size) >>= _) _ _ _
  refine wpAny_bind ?_
  unfold Builtin.SmallTypes.ownedTupleHandOut
  refine wpAny_bind (wpAny_setField_rec e5' (by simp) fun h6 e6 b6 => ?_)
  have e6' : IsEnumOut h6 e it (i + 1) x hp.objs.size := e6
  have b6' : Heap.SameBut e h5 h6 := b6
  refine wpAny_setField_rec e6' (by simp) fun h7 e7 b7 => ?_
  have e7' : IsEnumOut h7 e it (i + 1) x hp.objs.size := e7
  have b7' : Heap.SameBut e h6 h7 := b7
  have up : ∀ b o, b ≠ e → h4.get? b = some o → h7.get? b = some o := fun b o hb q => b7'.extBut b o hb (b6'.extBut b o hb (b5'.extBut b o hb q))
  refine wpAny_bind (wpAny_letGo (wpAny_pure ⟨_, rfl, hq h7 e7' (up _ _ (Nat.ne_of_gt lt) t4) ?_ fun b o hb q => up b o hb (k4 b o hb q)⟩))
  show h7.objs.size = hp.objs.size + 1
  rw [b7'.1, b6'.1, b5'.1, z4]
/-- .. as the loop asks it -/
theorem enum_item_any {e it : Addr} {i : Int} {old : Value} {Q : Option Value → Shared → Prop} (he : IsEnum s.heap e it i old)
    (hn : wpAny (model prog w) A.in1 (nextOf (.ref it)) (fun x s1 => IsEnum s1.heap e it i old ∧
      ∀ h', IsEnumOut h' e it (i + 1) x s1.heap.objs.size → h'.get? s1.heap.objs.size = some { cls := .type "tuple", data := .seq #[.int i s1.toks, x] } → h'.objs.size = s1.heap.objs.size + 1 →
        (∀ b o, b ≠ e → s1.heap.get? b = some o → h'.get? b = some o) → Q (some (.ref s1.heap.objs.size)) { s1 with heap := h', toks := s1.toks + 1 }) (fun _ _ => False) s) :
    wpAny (model prog w) A (pyNext (.ref e)) Q E s := by
  have hT : s.TypeIs (.ref e) "enumerate" := ⟨_, he, rfl⟩
  unfold pyNext
  refine wpAny_bind (wpAny_attempt (wpAny_callSpecial?_slot (name := Str.ofString "__next__") hT F.slot_enumerate_next
    (wpAny_call_entry F.slot_enumerate_next hT F.entry_enumerate_next ?_ (F.args_enumerate_next_1 _))))
  refine wpAny_mono (enum_next_any (Q := fun v s' => wpAny (model prog w) A (match (Except.ok (some v) : Except Value (Option Value)) with | .ok (some v) => pure (some v) | .ok none => do let t ← typeNameOf (.ref e); raiseError "TypeError" s!"'{t}' object is not an iterator" | .error x => do if ← isInstance x (.type "StopIteration") then pure none else throw x) Q E s') he
    (wpAny_mono hn (fun x s1 h => ⟨h.1, fun h' a b c d => wpAny_pure (h.2 h' a b c d)⟩) fun _ _ z => z.elim)) (fun fin s' h => ?_) fun _ _ z => z
  obtain ⟨v, rfl, q⟩ := h
  exact ⟨v, rfl, q⟩
/-- the inner iterator is through -/
theorem enum_done_any {e it : Addr} {i : Int} {old : Value} {Q : Option Value → Shared → Prop} (he : IsEnum s.heap e it i old)
    (hn : wpAny (model prog w) A.in1 (nextOf (.ref it)) (fun _ _ => False) (fun x s1 => (∃ a o, x = .ref a ∧ s1.heap.get? a = some o ∧ o.cls = .type "StopIteration") ∧ Q none s1) s) :
    wpAny (model prog w) A (pyNext (.ref e)) Q E s := by
  have hT : s.TypeIs (.ref e) "enumerate" := ⟨_, he, rfl⟩
  unfold pyNext
  refine wpAny_bind (wpAny_attempt (wpAny_callSpecial?_slot (name := Str.ofString "__next__") hT F.slot_enumerate_next
    (wpAny_call_entry F.slot_enumerate_next hT F.entry_enumerate_next ?_ (F.args_enumerate_next_1 _))))
  show wpAny _ _ (field (.ref e) 2 >>= _) _ _ _
  refine wpAny_bind (wpAny_field he rfl (x := .ref it) rfl ?_)
  refine wpAny_bind (wpAny_mono hn (fun _ _ z => z.elim) fun x s1 hx => ?_)
  obtain ⟨⟨a, o, rfl, ho, hc⟩, q⟩ := hx
  exact wpAny_bind (wpAny_isInstance (T := "StopIteration") (b := true) ⟨o, ho, hc⟩ isSubtype_stop (wpAny_pure q))
end

/-! ### enumerate(v), one argument -/
/-- iter(v) gives it, leaving the heap f h -/
structure Gets (v it : Value) (f : Heap → Heap) (pre : Shared → Prop) : Prop where
  iter : ∀ (prog : Program) (w : World) (A : Around) (E : Value → Shared → Prop) (s : Shared) (Q : Value → Shared → Prop), pre s → Q it { s with heap := f s.heap } → wpAny (model prog w) A (pyIter v) Q E s
def enumObj (it : Value) : Obj := { cls := .type "enumerate", data := .fields #[.none, .bool false, it, rawInt 0, .none, .none] }
set_option maxHeartbeats 1000000 in
theorem meets_enum1 {v it : Value} {f : Heap → Heap} {pre : Shared → Prop} (B : Gets v it f pre) :
    Meets (Builtin.«enumerate.__new__» ⟨[.type "enumerate", v], []⟩) (fun _ R s => pre s ∧
      R (.ok (.ret (.ref (f s.heap).objs.size))) { s with heap := (f s.heap).push (enumObj it) }) :=
  .of_wp fun prog w A R s h => by
    obtain ⟨hp, g, d, tk, os⟩ := s
    obtain ⟨h1, h⟩ := h
    have hsub := sub_enumerate
    have q1 : ∀ {A' : Around} {E : Value → Shared → Prop} {Q : Value → Shared → Prop}, Q it ⟨f hp, g, d, tk, os⟩ → wpAny (model prog w) A' (pyIter v) Q E ⟨hp, g, d, tk, os⟩ :=
      fun q => B.iter prog w _ _ ⟨hp, g, d, tk, os⟩ _ h1 q
    wp_walk using q1
    refine wpAny_stack_any fun st => wpAny_pure ?_
    split
    · rename_i c _ _ _ _ _
      cases (c == Value.type "enumerate")
      all_goals (wp_walk using q1; exact ⟨_, rfl, h⟩)
    · wp_walk using q1
      exact ⟨_, rfl, h⟩
section
variable {prog : Program} {w : World} {A : Around} {E : Value → Shared → Prop} {s : Shared}
theorem call_enum1 {v it : Value} {f : Heap → Heap} {pre : Shared → Prop} {Q : Value → Shared → Prop} (B : Gets v it f pre) (h1 : pre s)
    (h : Q (.ref (f s.heap).objs.size) { s with heap := (f s.heap).push (enumObj it) }) : wpAny (model prog w) A (call (.type "enumerate") [v]) Q E s := by
  refine callType_new F.called_enumerate (by decide) (F.typeCall_enumerate_1 _) (F.newCall_enumerate_1 _) (fun obj => F.args_object_init_2 obj _) F.entry_enumerate_new
    (meets_enum1 B) ⟨h1, ?_⟩
  exact ⟨⟨_, Heap.get?_push_size (f s.heap) (o := enumObj it) rfl, rfl⟩, h⟩
end
theorem gets_list (l : Addr) (items : Array Value) (n : Nat) : Gets (.ref l) (.ref n) (fun h => h.push { cls := .type "list_iterator", data := .fields #[.ref l, .int 0 0] }) (fun s => s.heap.objs.size = n ∧ s.heap.IsList l items) where
  iter := fun prog w A E s Q hp h => by
    obtain ⟨e, hl⟩ := hp
    subst e
    exact wpAny_pyIter_list hl h
theorem gets_tuple (l : Addr) (items : Array Value) (n : Nat) : Gets (.ref l) (.ref n) (fun h => h.push { cls := .type "tuple_iterator", data := .fields #[.ref l, .int 0 0] }) (fun s => s.heap.objs.size = n ∧ s.heap.IsTuple l items) where
  iter := fun prog w A E s Q hp h => by
    obtain ⟨e, hl⟩ := hp
    subst e
    exact wpAny_pyIter_tuple hl h

/-! ### a list or a tuple -/
def SqB (tp : Bool) (K : PySem.W.Frag) (H : Hp) (a : Addr) (xs : List V) : Prop := match tp with
  | true => SqT K H a xs
  | false => SqL K H a xs
def IterB (tp : Bool) (h : Heap) (it a : Addr) (i : Nat) : Prop := match tp with
  | true => h.IsTupleIter it a i
  | false => h.IsListIter it a i
theorem same_seqB {tp : Bool} {K : PySem.W.Frag} {H H' : Hp} {a : Addr} {xs : List V} (e : Same H H') (h : SqB tp K H a xs) : SqB tp K H' a xs := by
  cases tp with
  | false => exact e.seq h
  | true =>
    rcases h with (h | ⟨o, h⟩) | h
    · exact .inl (.inl (e _ _ h))
    · exact .inl (.inr ⟨o, e _ _ h⟩)
    · exact .inr h
theorem iterB_obj {tp : Bool} {h : Heap} {it a : Addr} {i : Nat} (x : IterB tp h it a i) : ∃ o, h.get? it = some o ∧ ∀ v, o.data ≠ .cell v := by
  cases tp with
  | false => obtain ⟨o, e, _, d⟩ := x; exact ⟨o, e, fun v z => by rw [d] at z; cases z⟩
  | true => obtain ⟨o, e, _, d⟩ := x; exact ⟨o, e, fun v z => by rw [d] at z; cases z⟩
theorem iterB_keep {tp : Bool} {h h' : Heap} {it a : Addr} {i : Nat} (x : IterB tp h it a i) (k : ∀ o, h.get? it = some o → h'.get? it = some o) : IterB tp h' it a i := by
  cases tp with
  | false => obtain ⟨o, e, r⟩ := x; exact ⟨o, k o e, r⟩
  | true => obtain ⟨o, e, r⟩ := x; exact ⟨o, k o e, r⟩
section
variable {X : Cx} {pins : List (Addr × Obj)} {σ : L2.St} {H : Hp} {s : Shared} {a : Addr} {xs : List V} {tp : Bool}
/-- its items, as they stand -/
def ItemsB (tp : Bool) (h : Heap) (a : Addr) (its : Array Value) : Prop := match tp with
  | true => h.IsTuple a its
  | false => h.IsList a its
theorem inv_seqB (I : Inv X pins σ H s) (h : SqB tp X.K H a xs) : ∃ its : List Value, Vals xs its ∧ ItemsB tp s.heap a its.toArray ∧ xs.length ≤ sizeLine := by
  cases tp with
  | false =>
    obtain ⟨its, r, p, z⟩ := I.list h
    exact ⟨its, r, p.isList, z⟩
  | true =>
    obtain ⟨its, r, p, z⟩ := I.tuple h
    exact ⟨its, r, p, z⟩
theorem nextB_item {prog : Program} {w : World} {A : Around} {E : Value → Shared → Prop} {it : Addr} {i : Nat} {items : Array Value} {x : Value} {Q : Value → Shared → Prop} (hit : IterB tp s.heap it a i) (hl : ItemsB tp s.heap a items) (hx : items[i]? = some x)
    (hQ : ∀ h', IterB tp h' it a (i + 1) → Heap.SameBut it s.heap h' → Q x { s with heap := h' }) : wpAny (model prog w) A (nextOf (.ref it)) Q E s := by
  cases tp with
  | false => exact wpAny_nextOf_list_item hit hl hx hQ
  | true => exact wpAny_nextOf_tuple_item hit hl hx hQ
theorem nextB_end {prog : Program} {w : World} {A : Around} {E : Value → Shared → Prop} {it : Addr} {i : Nat} {items : Array Value} {Q : Value → Shared → Prop} (hh : A.handled = none) (hit : IterB tp s.heap it a i) (hl : ItemsB tp s.heap a items) (hx : items[i]? = none)
    (hE : ∀ h' e, Heap.ExtBut it s.heap h' → (∃ o, h'.get? e = some o ∧ o.cls = .type "StopIteration") → E (.ref e) { s with heap := h' }) : wpAny (model prog w) A (nextOf (.ref it)) Q E s := by
  cases tp with
  | false => exact wpAny_nextOf_list_end hh hit hl hx hE
  | true => exact wpAny_nextOf_tuple_end hh hit hl hx hE
end
/-- enumerate over the list or tuple at a, of the items xs -/
def ItE (tp : Bool) (K : PySem.W.Frag) (a : Addr) (xs : List V) : It where
  go := fun i H => SqB tp K H a xs ∧ i < xs.length
  yld := fun i H v H' => ∃ T x, v = .ref T ∧ H T = none ∧ H' = upd H T (.tup [.int (i : Nat), x]) ∧ xs[i]? = some x
  stop := fun i H => SqB tp K H a xs ∧ xs.length ≤ i
theorem turn_enumB {P : Program} {w : World} {K : PySem.W.Frag} {elts : List Expr} {kk : Nat} {tpos : Pos} (tp : Bool) (a e it : Addr) (xs : List V) :
    Turn P w K (.Tuple elts kk tpos) (ItE tp K a xs) [e, it] e (fun i h => (∃ old, IsEnum h e it ((i : Nat) : Int) old) ∧ IterB tp h it a i ∧ e ≠ it) where
  mem := by simp
  obj := fun i h st b hb => by
    obtain ⟨⟨old, he⟩, hi, _⟩ := st
    rcases (show b = e ∨ b = it by simpa using hb) with z | z
    · rw [z]; exact ⟨_, he, fun v q => nomatch q⟩
    · rw [z]; exact iterB_obj hi
  keep := fun i h h' st k => by
    obtain ⟨⟨old, he⟩, hi, hne⟩ := st
    exact ⟨⟨old, k e (by simp) _ he⟩, iterB_keep hi (k it (by simp)), hne⟩
  item := by
    intro X hP hw hK hc i pins s σ H E I hf st hg
    subst hP hw hK
    obtain ⟨⟨old, he⟩, hit, hne⟩ := st
    obtain ⟨hq, hlt⟩ := hg
    obtain ⟨its, rv, p, hz⟩ := inv_seqB I hq
    obtain ⟨x, hx⟩ : ∃ x, xs[i]? = some x := ⟨xs[i], List.getElem?_eq_getElem hlt⟩
    obtain ⟨u, hu, ru⟩ := rv.get hx
    have hel : e < s.heap.objs.size := Heap.lt_size he
    have hil : it < s.heap.objs.size := by obtain ⟨_, q, _⟩ := iterB_obj hit; exact Heap.lt_size q
    refine enum_item_any he (nextB_item hit p (x := u) (by simpa using hu) fun h1 hit1 b1 => ⟨(b1.2 e hne).trans he, fun h' ho hT hsz hk => ?_⟩)
    have b1' : Heap.SameBut it s.heap h1 := b1
    have sz1 : h1.objs.size = s.heap.objs.size := b1'.1
    have ho' : IsEnumOut h' e it ((i : Int) + 1) u h1.objs.size := ho
    refine ⟨_, rfl, wpAny_letOwnedTupleGo_enum (s := { s with heap := h', toks := s.toks + 1 }) ho' fun h'' he' sb => ?_⟩
    have hT2 : h''.get? h1.objs.size = some { cls := .type "tuple", data := .seq #[.int i s.toks, u] } := (sb.2 _ (by show h1.objs.size ≠ e; rw [sz1]; exact Nat.ne_of_gt hel)).trans hT
    have new : ObjOk X.prog X.w (upd H h1.objs.size (.tup [.int (i : Nat), x])) h'' h1.objs.size (.tup [.int (i : Nat), x]) :=
      ⟨by show 2 ≤ sizeLine; decide, [.int i s.toks, u], .cons ⟨_, rfl⟩ (.cons ru .nil), ⟨_, hT2, rfl, _, rfl⟩⟩
    have up : ∀ b ob, b ∉ [e, it] → s.heap.get? b = some ob → h''.get? b = some ob := fun b ob hb q => by
      have n1 : b ≠ e := fun z => hb (by simp [z])
      have n2 : b ≠ it := fun z => hb (by simp [z])
      exact (sb.2 b n1).trans (hk b ob n1 ((b1.2 b n2).trans q))
    have I1 : Inv X pins σ (upd H h1.objs.size (.tup [.int (i : Nat), x])) { s with heap := h'', toks := s.toks + 1 } :=
      I.turnedNew (ch := [e, it]) up hf (by rw [sz1]; exact Nat.le_refl _) new
    refine ⟨.ref h1.objs.size, _, I1, rfl, ⟨_, x, rfl, I.hok.fresh (by rw [sz1]; exact Nat.le_refl _), rfl, hx⟩, ⟨⟨u, ?_⟩, iterB_keep hit1 fun o q => (sb.2 it (Ne.symm hne)).trans (hk it o (Ne.symm hne) q), hne⟩, fun b hb => ?_⟩
    · have e1 : ((i + 1 : Nat) : Int) = (i : Int) + 1 := by omega
      rw [e1]; exact he'
    · have hb' : b < s.heap.objs.size := by
        rcases (show b = e ∨ b = it by simpa using hb) with z | z
        · rw [z]; exact hel
        · rw [z]; exact hil
      rw [upd_ne (by rw [sz1]; exact Nat.ne_of_lt hb')]
      exact (hf b hb).1
  done := by
    intro X hP hw hK hc i pins s σ H E I hf st hg
    subst hP hw hK
    obtain ⟨⟨old, he⟩, hit, hne⟩ := st
    obtain ⟨hq, hle⟩ := hg
    obtain ⟨its, rv, p, hz⟩ := inv_seqB I hq
    obtain ⟨f0, f1, f2, f3, f4, f5⟩ := hf it (by simp)
    have hl := rv.length
    refine enum_done_any he (nextB_end (by exact I.ok.hd hc) hit p (by simp; omega) fun h' x eb ⟨o, ho, hco⟩ => ⟨⟨x, o, rfl, ho, hco⟩, rfl, I.turned (t' := s.toks) (fun b o hb q => eb b o hb q) f0 f1 f3 f4 f5⟩)
  self := fun A i s Q E st h => let ⟨⟨_, he⟩, _⟩ := st; wpAny_pyIter_enum he h
def iEnumB (K : PySem.W.Frag) (ta : TA) : TI := fun σ H R => ta σ H fun vs H1 => ∃ (a : Addr) (xs : List V) (tp : Bool), vs = [.ref a] ∧ SqB tp K H1 a xs ∧ R (ItE tp K a xs) H1
theorem pi_enumB {X : Cx} {e : Expr} {ta : TA} {p pos tpos : Pos} {elts : List Expr} {kk : Nat} (hg : Gl X "enumerate") (hm : X.mg "enumerate" = none) (ha : PA X [e] ta) (hs : starEach [e] X.env = [(false, eval e X.env)] := by rfl) :
    PI X (.Tuple elts kk tpos) (.Call (.Name "enumerate" p) [e] [] pos) (iEnumB X.K ta) := by
  refine ⟨fun pins s σ H R I h => ?_⟩
  refine Call_ (ld_blt I hg hm boot_enumerate (PyProof.Rows.callWith_type1 (thn (ha.run pos pins s σ H _ I h) fun us s1 ⟨vs, H1, I1, r1, q1⟩ => ?_) hs rfl))
  obtain ⟨a, xs, tp, ex, hq, q⟩ := q1
  subst ex
  cases r1 with
  | cons r rr =>
    cases rr
    cases r
    obtain ⟨its, rv, p', hz⟩ := inv_seqB I1 hq
    have n1 := I1.hok.fresh (Nat.le_refl s1.heap.objs.size)
    have n2 := I1.hok.fresh (Nat.le_succ s1.heap.objs.size)
    have fin : ∀ (o1 : Obj), o1.isFreed = false → IterB tp ((s1.heap.push o1).push (enumObj (.ref s1.heap.objs.size))) s1.heap.objs.size a 0 →
        wpAny (model X.prog X.w) X.A (pyIter (.ref (s1.heap.push o1).objs.size)) (PIE X pins σ (.Tuple elts kk tpos) R) X.xe { s1 with heap := (s1.heap.push o1).push (enumObj (.ref s1.heap.objs.size)) } := fun o1 hf hit => by
      have z : (s1.heap.push o1).objs.size = s1.heap.objs.size + 1 := Heap.size_push ..
      have he : IsEnum ((s1.heap.push o1).push (enumObj (.ref s1.heap.objs.size))) (s1.heap.objs.size + 1) s1.heap.objs.size ((0 : Nat) : Int) .none := by
        have y := Heap.get?_push_size (s1.heap.push o1) (o := enumObj (.ref s1.heap.objs.size)) rfl
        rw [z] at y
        exact y
      rw [z]
      refine wpAny_pyIter_enum he ?_
      refine ⟨s1.heap.objs.size + 1, [s1.heap.objs.size + 1, s1.heap.objs.size], _, _, H1, rfl, I1.kept (t' := s1.toks) fun b o y => Heap.get?_push_of_some _ (Heap.get?_push_of_some _ y),
        turn_enumB tp a (s1.heap.objs.size + 1) s1.heap.objs.size xs, ⟨⟨.none, he⟩, hit, Nat.succ_ne_self _⟩, fun b hb => ?_, q⟩
      rcases (show b = s1.heap.objs.size + 1 ∨ b = s1.heap.objs.size by simpa using hb) with y | y
      · rw [y]; exact I1.fpOk (Nat.le_succ _) n2
      · rw [y]; exact I1.fpOk (Nat.le_refl _) n1
    cases tp with
    | false =>
      refine call_enum1 (gets_list a its.toArray s1.heap.objs.size) ⟨rfl, p'⟩ (fin _ rfl ⟨_, Heap.get?_push_of_some _ (Heap.get?_push_size _ rfl), rfl, rfl⟩)
    | true =>
      refine call_enum1 (gets_tuple a its.toArray s1.heap.objs.size) ⟨rfl, p'⟩ (fin _ rfl ⟨_, Heap.get?_push_of_some _ (Heap.get?_push_size _ rfl), rfl, rfl⟩)
/-- a for over it, where the list stays -/
theorem for_enumB {tp : Bool} {K : PySem.W.Frag} {a : Addr} {xs : List V} {g : TG} {tb : TS} {D : Ends} {σ : L2.St} {H : Hp} (Pv : Nat → L2.St → Hp → Prop) (h0 : Pv 0 σ H) (hl : ∀ i σ H, i ≤ xs.length → Pv i σ H → SqB tp K H a xs)
    (hs : ∀ i x σ H T, xs[i]? = some x → Pv i σ H → H T = none → g (.ref T) σ (upd H T (.tup [.int (i : Nat), x])) fun σ2 H2 => tb { D with nx := Pv (i + 1), ct := Pv (i + 1), bk := D.nx } σ2 H2) (hd : ∀ σ H, Pv xs.length σ H → D.nx σ H) :
    ∃ W : Nat → Nat → L2.St → Hp → Prop, (∃ m, W 0 m σ H) ∧ ∀ i m σ H, W i m σ H →
      ((ItE tp K a xs).stop i H ∧ D.nx σ H) ∨ ((ItE tp K a xs).go i H ∧ ∃ N : L2.St → Hp → Prop, (∀ σ' H', N σ' H' → ∃ m', m' < m ∧ W (i + 1) m' σ' H') ∧ ∀ x H', (ItE tp K a xs).yld i H x H' → g x σ H' fun σ2 H2 => tb { D with nx := N, ct := N, bk := D.nx } σ2 H2) := by
  refine ⟨fun i m σ H => m = xs.length - i ∧ i ≤ xs.length ∧ Pv i σ H, ⟨xs.length, by simp, Nat.zero_le _, h0⟩, ?_⟩
  rintro i m σ H ⟨rfl, hi, p⟩
  have q := hl i σ H hi p
  rcases Nat.lt_or_ge i xs.length with hlt | hge
  · refine .inr ⟨⟨q, hlt⟩, Pv (i + 1), fun σ' H' p' => ⟨xs.length - (i + 1), by omega, rfl, hlt, p'⟩, fun x H' y => ?_⟩
    obtain ⟨T, x', rfl, hT, rfl, hx⟩ := y
    exact hs i x' σ H T hx p hT
  · have e : i = xs.length := by omega
    subst e
    exact .inl ⟨⟨q, Nat.le_refl _⟩, hd σ H p⟩
/-- a comprehension over it -/
theorem lc_enumB {tp : Bool} {K : PySem.W.Frag} {a : Addr} {xs : List V} {g : TG} {tt : TT} {te : TE} {vs : List Nat} {σ : L2.St} {H1 : Hp} {D : Addr} {Qd : Hp → Prop} (Pv : Nat → Hp → Prop) (h0 : Pv 0 (upd H1 D (.lst []))) (hl : ∀ i H, i ≤ xs.length → Pv i H → SqB tp K H a xs)
    (hs : ∀ i x H T, xs[i]? = some x → Pv i H → H T = none → g (.ref T) (wipe σ vs) (upd H T (.tup [.int (i : Nat), x])) fun σ2 H2 => wipe σ2 vs = wipe σ vs ∧ tt σ2 H2 fun b H3 =>
      if b = true then te σ2 H3 fun y H4 => ∃ acc, H4 D = some (.lst acc) ∧ acc.length < sizeLine ∧ Pv (i + 1) (upd H4 D (.lst (acc ++ [y]))) else Pv (i + 1) H3) (hd : ∀ H, Pv xs.length H → Qd H) :
    ∃ W : Nat → Nat → Hp → Prop, (∃ m, W 0 m (upd H1 D (.lst []))) ∧ ∀ i m H, W i m H →
      ((ItE tp K a xs).stop i H ∧ Qd H) ∨ ((ItE tp K a xs).go i H ∧ ∃ Nx : Hp → Prop, (∀ H', Nx H' → ∃ m', m' < m ∧ W (i + 1) m' H') ∧ ∀ x H', (ItE tp K a xs).yld i H x H' → g x (wipe σ vs) H' fun σ2 H2 => wipe σ2 vs = wipe σ vs ∧ tt σ2 H2 fun b H3 =>
        if b = true then te σ2 H3 fun y H4 => ∃ acc, H4 D = some (.lst acc) ∧ acc.length < sizeLine ∧ Nx (upd H4 D (.lst (acc ++ [y]))) else Nx H3) := by
  refine ⟨fun i m H => m = xs.length - i ∧ i ≤ xs.length ∧ Pv i H, ⟨xs.length, by simp, Nat.zero_le _, h0⟩, ?_⟩
  rintro i m H ⟨rfl, hi, p⟩
  have q := hl i H hi p
  rcases Nat.lt_or_ge i xs.length with hlt | hge
  · refine .inr ⟨⟨q, hlt⟩, Pv (i + 1), fun H' p' => ⟨xs.length - (i + 1), by omega, rfl, hlt, p'⟩, fun x H' y => ?_⟩
    obtain ⟨T, x', rfl, hT, rfl, hx⟩ := y
    exact hs i x' H T hx p hT
  · have e : i = xs.length := by omega
    subst e
    exact .inl ⟨⟨q, Nat.le_refl _⟩, hd H p⟩
end K82
set_option Elab.async false
set_option linter.all false
set_option maxRecDepth 100000
set_option maxHeartbeats 1000000
/-! Own part 1: what sleeps stays asleep. A run that is known for every array of generators leaves alone the ones that sleep: it is first run where each sleeper is put in a stuck state (to wake it is no run at all), and then carried over. -/
namespace K82G
open PySem PyProof.Rows
open Sem (wp)

def asleep : GenState → Bool
  | .suspended .. => true
  | _ => false
/-- the same to look at, but it cannot be woken -/
def stuck : GenState → GenState
  | .suspended _ l c p fs cl => .suspended (fun _ => .unsupported "stuck") l c p fs cl
  | y => y
theorem stuck_seen (y : GenState) : (stuck y).seen = y.seen := by cases y <;> rfl
theorem stuck_bare (y : GenState) : (stuck y).bare = y.bare := by cases y <;> rfl

theorem split_cons_ret {k h g l c p kp} {fs : List Frame} (e : splitAtGen (.ret k h g l c p kp :: fs) = none) : splitAtGen fs = none := by
  have e' : (splitAtGen fs).map _ = none := e
  cases q : splitAtGen fs with
  | none => rfl
  | some z => rw [q] at e'; cases e'
theorem split_ret {k h g l c p kp} {fs : List Frame} (e : splitAtGen fs = none) : splitAtGen (.ret k h g l c p kp :: fs) = none := by
  show (splitAtGen fs).map _ = none
  rw [e]; rfl
theorem split_append : ∀ {as bs : List Frame}, splitAtGen as = none → splitAtGen bs = none → splitAtGen (as ++ bs) = none
  | [], _, _, h => h
  | .gen .. :: _, _, h, _ => by cases h
  | .ret .. :: as, bs, h, h' => split_ret (split_append (as := as) (split_cons_ret h) h')

/-- nothing runs on from there -/
theorem no_run {M : Model} {Γ : Ctx} {p : Pos} {w : String} {fs : List Frame} {s s' : Shared} {e : End} (h : Runs M Γ p (.unsupported w) fs s e s') : False := by
  generalize ht : (Sem.unsupported w : Sem PySem.Fin) = t at h
  induction h <;> first
    | (cases ht; done)
    | (rename_i ih _; exact ih ht)
    | (rename_i ih; exact ih ht)
    | (rename_i ih _ _; exact ih ht)
    | (rename_i ih _ _ _; exact ih ht)

section Defs
variable (G : Array GenState)
/-- what really lies at i -/
def pick (i : Nat) (y : GenState) : GenState := match G[i]? with
  | some x => if asleep x = true then x else y
  | none => y
def mix (S : Array GenState) : Array GenState := S.mapIdx fun i y => pick G i y
def un (s : Shared) : Shared := { s with gens := mix G s.gens }
/-- the sleepers of G are held -/
def held (i : Nat) : Bool := match G[i]? with
  | some x => asleep x
  | none => false
structure Good (S : Array GenState) : Prop where
  size : G.size ≤ S.size
  at_ : ∀ (i : Nat) (x : GenState), G[i]? = some x → asleep x = true → S[i]? = some (stuck x)
  clean : ∀ (i : Nat) (k : Resume → Sem PySem.Fin) (l : List Value) (c : Code) (p : Pos) (fs : List Frame) (cl : Bool), held G i = false → S[i]? = some (.suspended k l c p fs cl) → splitAtGen fs = none
end Defs

section
variable {G : Array GenState} {S : Array GenState} {s : Shared} {g : Nat} {y : GenState}
theorem pick_free (h : held G g = false) (y : GenState) : pick G g y = y := by
  unfold held at h
  unfold pick
  cases q : G[g]? with
  | none => rfl
  | some x =>
    rw [q] at h
    dsimp only at h ⊢
    rw [if_neg (by rw [h]; exact Bool.false_ne_true)]
theorem pick_held {x : GenState} (h : G[g]? = some x) (hx : asleep x = true) (y : GenState) : pick G g y = x := by
  unfold pick
  rw [h]
  dsimp only
  rw [if_pos hx]
theorem held_at {x : GenState} (h : G[g]? = some x) (hx : asleep x = true) : held G g = true := by
  unfold held
  rw [h]
  exact hx
theorem held_of (h : held G g = true) : ∃ x, G[g]? = some x ∧ asleep x = true := by
  unfold held at h
  cases q : G[g]? with
  | none => rw [q] at h; cases h
  | some x => rw [q] at h; exact ⟨x, rfl, h⟩
theorem mix_at (i : Nat) : (mix G S)[i]? = (S[i]?).map (pick G i) := by
  unfold mix
  rw [Array.getElem?_mapIdx]
theorem mix_size : (mix G S).size = S.size := by unfold mix; simp
theorem held_lt (h : held G g = true) : g < G.size := by
  obtain ⟨x, e, _⟩ := held_of h
  exact (Array.getElem?_eq_some_iff.mp e).1
theorem mix_push (hs : G.size ≤ S.size) (y : GenState) : mix G (S.push y) = (mix G S).push y := by
  apply Array.ext_getElem?
  intro i
  rw [mix_at, Array.getElem?_push, Array.getElem?_push, mix_size]
  by_cases hi : i = S.size
  · rw [if_pos hi, if_pos hi]
    have hf : held G i = false := by
      cases q : held G i with
      | false => rfl
      | true => exact absurd (held_lt q) (by omega)
    show some (pick G i y) = some y
    rw [pick_free hf]
  · rw [if_neg hi, if_neg hi, mix_at]
theorem mix_set (hf : held G g = false) (y : GenState) : mix G (S.setIfInBounds g y) = (mix G S).setIfInBounds g y := by
  apply Array.ext_getElem?
  intro i
  rw [mix_at, Array.getElem?_setIfInBounds, Array.getElem?_setIfInBounds, mix_size]
  by_cases hi : g = i
  · subst hi
    rw [if_pos rfl, if_pos rfl]
    by_cases hl : g < S.size
    · rw [if_pos hl]
      show some (pick G g y) = some y
      rw [pick_free hf]
    · rw [if_neg hl]
      rfl
  · rw [if_neg hi, if_neg hi, mix_at]
theorem un_setGen (hf : held G g = false) (y : GenState) : un G (s.setGen g y) = (un G s).setGen g y := by
  show ({ s with gens := mix G (s.gens.setIfInBounds g y) } : Shared) = { s with gens := (mix G s.gens).setIfInBounds g y }
  rw [mix_set hf]
theorem Good.set (h : Good G S) (hf : held G g = false) (hy : ∀ k l c p fs cl, y = .suspended k l c p fs cl → splitAtGen fs = none) : Good G (S.setIfInBounds g y) where
  size := by simp only [Array.size_setIfInBounds]; exact h.size
  at_ := fun i x e hx => by
    have hi : g ≠ i := fun z => by
      rw [← z] at e
      rw [held_at e hx] at hf
      cases hf
    rw [Array.getElem?_setIfInBounds, if_neg hi]
    exact h.at_ i x e hx
  clean := fun i k l c p fs cl hh e => by
    rw [Array.getElem?_setIfInBounds] at e
    by_cases hi : g = i
    · rw [if_pos hi] at e
      split at e
      · exact hy k l c p fs cl (Option.some.inj e)
      · cases e
    · rw [if_neg hi] at e
      exact h.clean i k l c p fs cl hh e
theorem Good.setG (h : Good G s.gens) (hf : held G g = false) (hy : ∀ k l c p fs cl, y = .suspended k l c p fs cl → splitAtGen fs = none) : Good G (s.setGen g y).gens := Good.set h hf hy
theorem Good.push (h : Good G S) (c : Code) : Good G (S.push (.fresh c)) where
  size := by rw [Array.size_push]; exact Nat.le_succ_of_le h.size
  at_ := fun i x e hx => by
    rw [Array.getElem?_push, if_neg (by have := held_lt (held_at e hx); have := h.size; omega)]
    exact h.at_ i x e hx
  clean := fun i k l c' p fs cl hh e => by
    rw [Array.getElem?_push] at e
    split at e
    · cases e
    · exact h.clean i k l c' p fs cl hh e
/-- one that is there and free -/
theorem un_free (hf : held G g = false) (e : s.gens[g]? = some y) : (un G s).gens[g]? = some y := by
  show (mix G s.gens)[g]? = _
  rw [mix_at, e]
  show some (pick G g y) = _
  rw [pick_free hf]
/-- what can be woken is free -/
theorem free_of (h : Good G S) (e : S[g]? = some y) (hy : asleep y = false) : held G g = false := by
  cases q : held G g with
  | false => rfl
  | true =>
    obtain ⟨x, e1, hx⟩ := held_of q
    have e2 := h.at_ g x e1 hx
    rw [e] at e2
    have e3 := Option.some.inj e2
    subst e3
    cases x with
    | suspended k l c p fs cl => exact absurd (show true = false from hy) (by decide)
    | _ => cases hx
theorem un_seen (h : Good G s.gens) (e : s.gens[g]? = some y) : ∃ z, (un G s).gens[g]? = some z ∧ z.seen = y.seen := by
  cases q : held G g with
  | false => exact ⟨y, un_free q e, rfl⟩
  | true =>
    obtain ⟨x, e1, hx⟩ := held_of q
    have e2 := h.at_ g x e1 hx
    rw [e] at e2
    have e3 := Option.some.inj e2
    refine ⟨x, ?_, ?_⟩
    · show (mix G s.gens)[g]? = _
      rw [mix_at, e]
      show some (pick G g y) = _
      rw [pick_held e1 hx]
    · rw [e3, stuck_seen]
end

/-- how a run ends: what it hands out stands over no generator of its own -/
def cleanEnd : End → Prop
  | .ret _ => True
  | .susp _ _ _ _ _ _ fs => splitAtGen fs = none
theorem clean_gen {e : End} (h : cleanEnd e) : ∀ k l c p fs cl, e.genState = .suspended k l c p fs cl → splitAtGen fs = none := by
  intro k l c p fs cl q
  cases e with
  | ret r => cases q
  | susp v g l' k' c' p' fs' =>
    cases q
    exact h

theorem sim {G : Array GenState} {M : Model} {Γ : Ctx} {p : Pos} {t : Sem PySem.Fin} {fs : List Frame} {s s' : Shared} {e : End} (h : Runs M Γ p t fs s e s') :
    splitAtGen fs = none → Good G s.gens → Runs M Γ p t fs (un G s) e (un G s') ∧ Good G s'.gens ∧ cleanEnd e := by
  induction h with
  | done => exact fun _ g => ⟨.done, g, trivial⟩
  | raise => exact fun _ g => ⟨.raise, g, trivial⟩
  | again hq _ ih => exact fun n g => let ⟨a, b, c⟩ := ih n g; ⟨.again hq a, b, c⟩
  | rule _ ih => exact fun n g => let ⟨a, b, c⟩ := ih n g; ⟨.rule a, b, c⟩
  | «at» _ ih => exact fun n g => let ⟨a, b, c⟩ := ih n g; ⟨.at a, b, c⟩
  | load hl _ ih => exact fun n g => let ⟨a, b, c⟩ := ih n g; ⟨.load hl a, b, c⟩
  | update hl _ ih => exact fun n g => let ⟨a, b, c⟩ := ih n g; ⟨.update hl a, b, c⟩
  | loadIfAlive _ ih => exact fun n g => let ⟨a, b, c⟩ := ih n g; ⟨.loadIfAlive a, b, c⟩
  | point _ ih => exact fun n g => let ⟨a, b, c⟩ := ih n g; ⟨.point a, b, c⟩
  | alloc _ ih => exact fun n g => let ⟨a, b, c⟩ := ih n g; ⟨.alloc a, b, c⟩
  | fresh _ ih => exact fun n g => let ⟨a, b, c⟩ := ih n g; ⟨.fresh a, b, c⟩
  | ask _ ih => exact fun n g => let ⟨a, b, c⟩ := ih n g; ⟨.ask a, b, c⟩
  | choose hn _ ih => exact fun n g => let ⟨a, b, c⟩ := ih n g; ⟨.choose hn a, b, c⟩
  | os _ ih => exact fun n g => let ⟨a, b, c⟩ := ih n g; ⟨.os a, b, c⟩
  | handled _ ih => exact fun n g => let ⟨a, b, c⟩ := ih n g; ⟨.handled a, b, c⟩
  | genState hg _ ih =>
    exact fun n g => by
      obtain ⟨a, b, c⟩ := ih n g
      obtain ⟨z, e1, e2⟩ := un_seen g hg
      exact ⟨.genState e1 (by rw [e2]; exact a), b, c⟩
  | stack _ ih => exact fun n g => let ⟨a, b, c⟩ := ih n g; ⟨.stack a, b, c⟩
  | thread _ ih => exact fun n g => let ⟨a, b, c⟩ := ih n g; ⟨.thread a, b, c⟩
  | newGen _ ih =>
    rename_i s0 e0 s2 c0 _
    exact fun n g => by
      obtain ⟨a, b, c⟩ := ih n (Good.push g _)
      refine ⟨.newGen ?_, b, c⟩
      have e1 : (un G s0).gens.size = s0.gens.size := mix_size
      have e2 : { un G s0 with gens := (un G s0).gens.push (.fresh c0) } = un G { s0 with gens := s0.gens.push (.fresh c0) } := by
        show ({ s0 with gens := (mix G s0.gens).push (.fresh c0) } : Shared) = { s0 with gens := mix G (s0.gens.push (.fresh c0)) }
        rw [mix_push g.size]
      rw [e1, e2]
      exact a
  | call _ _ ih1 ih2 =>
    exact fun n g => by
      obtain ⟨a, b, _⟩ := ih1 rfl g
      obtain ⟨a2, b2, c2⟩ := ih2 n b
      exact ⟨.call a a2, b2, c2⟩
  | callSusp _ ih =>
    exact fun n g => by
      obtain ⟨a, b, c⟩ := ih rfl g
      exact ⟨.callSusp a, b, split_append c (split_ret rfl)⟩
  | yield => exact fun _ g => ⟨.yield, g, rfl⟩
  | resumeFresh hg _ hq _ ih1 ih2 =>
    exact fun n g => by
      have hf := free_of g hg rfl
      obtain ⟨a, b, c⟩ := ih1 rfl (Good.setG g hf fun _ _ _ _ _ _ z => by cases z)
      obtain ⟨a2, b2, c2⟩ := ih2 n (Good.setG b hf (clean_gen c))
      rw [un_setGen hf] at a a2
      exact ⟨.resumeFresh (un_free hf hg) a hq a2, b2, c2⟩
  | @resumeSuspended _ _ gi _ _ _ _ _ _ _ _ _ _ _ _ _ _ hg h1 hq _ ih1 ih2 =>
    exact fun n g => by
      cases hf : held G gi with
      | true =>
        obtain ⟨x, e1, hx⟩ := held_of hf
        have e2 := g.at_ _ x e1 hx
        rw [hg] at e2
        cases x with
        | suspended k l c p fs cl =>
          have e3 := Option.some.inj e2
          injection e3 with e4
          subst e4
          exact (no_run h1).elim
        | _ => cases hx
      | false =>
        obtain ⟨a, b, c⟩ := ih1 (g.clean _ _ _ _ _ _ _ hf hg) (Good.setG g hf fun _ _ _ _ _ _ z => by cases z)
        obtain ⟨a2, b2, c2⟩ := ih2 n (Good.setG b hf (clean_gen c))
        rw [un_setGen hf] at a a2
        exact ⟨.resumeSuspended (un_free hf hg) a hq a2, b2, c2⟩
  | resumeJustStarted hg hv _ ih =>
    exact fun n g => by
      obtain ⟨a, b, c⟩ := ih n g
      exact ⟨.resumeJustStarted (un_free (free_of g hg rfl) hg) hv a, b, c⟩
  | resumeThrowFresh hg _ ih =>
    exact fun n g => by
      have hf := free_of g hg rfl
      obtain ⟨a, b, c⟩ := ih n (Good.setG g hf fun _ _ _ _ _ _ z => by cases z)
      rw [un_setGen hf] at a
      exact ⟨.resumeThrowFresh (un_free hf hg) a, b, c⟩
  | resumeRunning hg _ ih =>
    exact fun n g => by
      obtain ⟨a, b, c⟩ := ih n g
      exact ⟨.resumeRunning (un_free (free_of g hg rfl) hg) a, b, c⟩
  | resumeFinished hg _ ih =>
    exact fun n g => by
      obtain ⟨a, b, c⟩ := ih n g
      exact ⟨.resumeFinished (un_free (free_of g hg rfl) hg) a, b, c⟩
  | segRet _ _ ih1 ih2 =>
    exact fun n g => by
      obtain ⟨a, b, _⟩ := ih1 rfl g
      obtain ⟨a2, b2, c2⟩ := ih2 (split_cons_ret n) b
      exact ⟨.segRet a a2, b2, c2⟩
  | segGen _ _ _ _ => exact fun n _ => by cases n
  | segSuspOut hn _ ih =>
    exact fun n g => by
      obtain ⟨a, b, c⟩ := ih rfl g
      exact ⟨.segSuspOut hn a, b, split_append c n⟩
  | segSuspGen hn _ _ _ _ _ => exact fun n _ => by rw [n] at hn; cases hn

theorem sim_wakes {G : Array GenState} {M : Model} {Γ : Ctx} {p : Pos} {g : Nat} {r : Resume} {s s' : Shared} {res : GenResult} (hw : Wakes M Γ p g r s res s') (hG : Good G s.gens) : Wakes M Γ p g r (un G s) res (un G s') ∧ Good G s'.gens := by
  have z := (Sem.runs_resume_iff M Γ (l := []) (k := fun _ => (.pure (.done .next) : Sem PySem.Fin)) (e := .ret (.ok .next)) (s' := s')).mpr ⟨res, s', hw, .done⟩
  cases hg : s.gens[g]? with
  | none =>
    unfold Wakes at hw
    rw [hg] at hw
    exact hw.elim
  | some y =>
    unfold Wakes at hw
    rw [hg] at hw
    cases y with
    | fresh c =>
      have hf := free_of hG hg rfl
      unfold Wakes
      rw [un_free hf hg]
      cases r with
      | throw x =>
        obtain ⟨rfl, rfl⟩ := hw
        exact ⟨⟨rfl, un_setGen hf _⟩, Good.setG hG hf fun _ _ _ _ _ _ z => by cases z⟩
      | send v =>
        cases v with
        | none =>
          obtain ⟨e₁, s₁, hr, hq, rfl, rfl⟩ := hw
          obtain ⟨a, b, c⟩ := sim (G := G) hr rfl (Good.setG hG hf fun _ _ _ _ _ _ z => by cases z)
          rw [un_setGen hf] at a
          exact ⟨⟨e₁, un G s₁, a, hq, rfl, un_setGen hf _⟩, Good.setG b hf (clean_gen c)⟩
        | _ =>
          obtain ⟨rfl, rfl⟩ := hw
          exact ⟨⟨rfl, rfl⟩, hG⟩
    | suspended k l c p' fs cl =>
      obtain ⟨e₁, s₁, hr, hq, rfl, rfl⟩ := hw
      cases hf : held G g with
      | true =>
        obtain ⟨x, e1, hx⟩ := held_of hf
        have e2 := hG.at_ _ x e1 hx
        rw [hg] at e2
        cases x with
        | suspended k l c p fs cl =>
          have e3 := Option.some.inj e2
          injection e3 with e4
          subst e4
          exact (no_run hr).elim
        | _ => cases hx
      | false =>
        unfold Wakes
        rw [un_free hf hg]
        obtain ⟨a, b, c⟩ := sim (G := G) hr (hG.clean _ _ _ _ _ _ _ hf hg) (Good.setG hG hf fun _ _ _ _ _ _ z => by cases z)
        rw [un_setGen hf] at a
        exact ⟨⟨e₁, un G s₁, a, hq, rfl, un_setGen hf _⟩, Good.setG b hf (clean_gen c)⟩
    | running =>
      obtain ⟨rfl, rfl⟩ := hw
      unfold Wakes
      rw [un_free (free_of hG hg rfl) hg]
      exact ⟨⟨rfl, rfl⟩, hG⟩
    | finished =>
      obtain ⟨rfl, rfl⟩ := hw
      unfold Wakes
      rw [un_free (free_of hG hg rfl) hg]
      exact ⟨⟨rfl, rfl⟩, hG⟩

theorem wp_sim {G : Array GenState} {α : Type} (M : Model) (Γ : Ctx) (t : Sem α) : ∀ (Q : α → Pos → Shared → Prop) (E : Value → Pos → Shared → Prop) (p : Pos) (s : Shared), Good G s.gens → wp M Γ t Q E p s →
    wp M Γ t (fun a p' s' => ∃ s1, s' = un G s1 ∧ Good G s1.gens ∧ Q a p' s1) (fun e p' s' => ∃ s1, s' = un G s1 ∧ Good G s1.gens ∧ E e p' s1) p (un G s) := by
  induction t with
  | pure a => exact fun Q E p s g h => ⟨s, rfl, g, h⟩
  | raise e => exact fun Q E p s g h => ⟨s, rfl, g, h⟩
  | unsupported _ => exact fun Q E p s g h => h
  | finish _ => exact fun Q E p s g h => h
  | rule _ k ih => exact fun Q E p s g h => ih () Q E p s g h
  | «at» p' k ih => exact fun Q E p s g h => ih () Q E p' s g h
  | load a _ k ih => exact fun Q E p s g ⟨o, ho, h⟩ => ⟨o, ho, ih o Q E p s g h⟩
  | update a _ f k ih => exact fun Q E p s g ⟨h1, h2⟩ => ⟨h1, ih () Q E p { s with heap := s.heap.update a f } g h2⟩
  | loadIfAlive a k ih => exact fun Q E p s g h => ih _ Q E p s g h
  | point _ k ih => exact fun Q E p s g h => ih () Q E p s g h
  | register _ _ => exact fun Q E p s g h => h
  | alloc o k ih => exact fun Q E p s g h => ih _ Q E p { s with heap := s.heap.push o } g h
  | fresh k ih => exact fun Q E p s g h => ih _ Q E p { s with toks := s.toks + 1 } g h
  | ask k ih => exact fun Q E p s g h => ih _ Q E p s g h
  | choose src m k ih => exact fun Q E p s g ⟨h1, h2⟩ => ⟨h1, ih _ Q E p { s with drawn := s.drawn.bump src } g h2⟩
  | os q _ k ih => exact fun Q E p s g h => ih _ Q E p { s with os := (Os.step s.os q).1 } g h
  | call c hd _ _ k ih =>
    exact fun Q E p s g ⟨r, s', hr, h⟩ => by
      obtain ⟨a, b, _⟩ := sim (G := G) hr rfl g
      exact ⟨r, un G s', a, ih r Q E p s' b h⟩
  | handled own k ih => exact fun Q E p s g h => ih _ Q E p s g h
  | genState i k ih =>
    exact fun Q E p s g ⟨st, hs, h⟩ => by
      obtain ⟨z, e1, e2⟩ := un_seen g hs
      exact ⟨z, e1, by rw [e2]; exact ih _ Q E p s g h⟩
  | newGen c k ih =>
    exact fun Q E p s g h => by
      have q := ih _ Q E p { s with gens := s.gens.push (.fresh c) } (Good.push g c) h
      show wp M Γ (k (mix G s.gens).size) _ _ p { s with gens := (mix G s.gens).push (.fresh c) }
      rw [mix_size, ← mix_push g.size]
      exact q
  | resume i r _ k ih =>
    exact fun Q E p s g ⟨res, s', hw, h⟩ => by
      obtain ⟨a, b⟩ := sim_wakes hw g
      exact ⟨res, un G s', a, ih res Q E p s' b h⟩
  | yield _ _ _ _ => exact fun Q E p s g h => h
  | stack k ih => exact fun Q E p s g h => ih _ Q E p s g h
  | fork _ _ => exact fun Q E p s g h => h
  | thread k ih => exact fun Q E p s g h => ih _ Q E p s g h
  | await _ _ _ _ _ => exact fun Q E p s g h => h

/-- the sleepers put in the stuck state -/
def lull (s : Shared) : Shared := { s with gens := s.gens.map stuck }
theorem lull_good (s : Shared) : Good s.gens (lull s).gens where
  size := by simp [lull]
  at_ := fun i x e _ => by simp [lull, e]
  clean := fun i k l c p fs cl hh e => by
    have e' : (s.gens.map stuck)[i]? = some (.suspended k l c p fs cl) := e
    rw [Array.getElem?_map] at e'
    cases q : s.gens[i]? with
    | none => rw [q] at e'; cases e'
    | some x =>
      rw [q] at e'
      have hx : asleep x = false := by
        unfold held at hh
        rw [q] at hh
        exact hh
      have e2 : stuck x = .suspended k l c p fs cl := Option.some.inj e'
      cases x with
      | suspended k l c p fs cl => cases hx
      | fresh c => exact absurd e2 (by intro z; cases z)
      | running => exact absurd e2 (by intro z; cases z)
      | finished => exact absurd e2 (by intro z; cases z)
theorem un_lull (s : Shared) : un s.gens (lull s) = s := by
  have e : mix s.gens (s.gens.map stuck) = s.gens := by
    apply Array.ext_getElem?
    intro i
    rw [mix_at, Array.getElem?_map]
    cases q : s.gens[i]? with
    | none => rfl
    | some x =>
      show some (pick s.gens i (stuck x)) = some x
      cases hx : asleep x with
      | true => rw [pick_held q hx]
      | false =>
        rw [pick_free (show held s.gens i = false from by unfold held; rw [q]; exact hx)]
        cases x <;> first | (cases hx; done) | rfl
  show ({ s with gens := mix s.gens (s.gens.map stuck) } : Shared) = s
  rw [e]
theorem lull_bare {s : Shared} (h : AllBare s.gens) : AllBare (lull s).gens := fun y hy => by
  obtain ⟨i, hi, e⟩ := Array.mem_iff_getElem.mp hy
  have q : (s.gens.map stuck)[i]? = some y := by
    show (lull s).gens[i]? = some y
    rw [Array.getElem?_eq_getElem hi, e]
  rw [Array.getElem?_map] at q
  cases q2 : s.gens[i]? with
  | none => rw [q2] at q; cases q
  | some x =>
    rw [q2] at q
    have q3 := Option.some.inj q
    rw [← q3, stuck_bare]
    exact h x (Array.mem_of_getElem? q2)
theorem un_bare {s0 s : Shared} (h0 : AllBare s0.gens) (h : AllBare s.gens) : AllBare (un s0.gens s).gens := fun y hy => by
  obtain ⟨i, hi, e⟩ := Array.mem_iff_getElem.mp hy
  have q : (mix s0.gens s.gens)[i]? = some y := by
    show (un s0.gens s).gens[i]? = some y
    rw [Array.getElem?_eq_getElem hi, e]
  rw [mix_at] at q
  cases q2 : s.gens[i]? with
  | none => rw [q2] at q; cases q
  | some z =>
    rw [q2] at q
    have q3 : pick s0.gens i z = y := Option.some.inj q
    cases hh : held s0.gens i with
    | true =>
      obtain ⟨x, e1, hx⟩ := held_of hh
      rw [pick_held e1 hx] at q3
      rw [← q3]
      exact h0 x (Array.mem_of_getElem? e1)
    | false =>
      rw [pick_free hh] at q3
      rw [← q3]
      exact h z (Array.mem_of_getElem? q2)
/-- a sleeper as it was -/
theorem un_kept {s0 s : Shared} {i : Nat} {x : GenState} (h : Good s0.gens s.gens) (e : s0.gens[i]? = some x) (hx : asleep x = true) : (un s0.gens s).gens[i]? = some x := by
  show (mix s0.gens s.gens)[i]? = some x
  rw [mix_at, h.at_ i x e hx]
  show some (pick s0.gens i (stuck x)) = some x
  rw [pick_held e hx]
/-- THE RULE: what is known of the lulled state holds here, and the sleepers sleep on -/
theorem wpAny_asleep {α : Type} {M : Model} {A : Around} {s : Shared} {t : Sem α} {Q : α → Shared → Prop} {E : Value → Shared → Prop} (h : wpAny M A t Q E (lull s)) :
    wpAny M A t (fun a s' => ∃ s1, s' = un s.gens s1 ∧ (∀ (i : Nat) (x : GenState), s.gens[i]? = some x → asleep x = true → s'.gens[i]? = some x) ∧ (AllBare s.gens → AllBare s1.gens → AllBare s'.gens) ∧ Good s.gens s1.gens ∧ Q a s1)
      (fun e s' => ∃ s1, s' = un s.gens s1 ∧ (∀ (i : Nat) (x : GenState), s.gens[i]? = some x → asleep x = true → s'.gens[i]? = some x) ∧ (AllBare s.gens → AllBare s1.gens → AllBare s'.gens) ∧ Good s.gens s1.gens ∧ E e s1) s := fun Γ p hΓ => by
  have q := wp_sim (G := s.gens) M Γ t _ _ p (lull s) (lull_good s) (h Γ p hΓ)
  rw [un_lull] at q
  refine Sem.wp_mono M Γ t (fun a _ s' ⟨s1, e, g, hq⟩ => ⟨s1, e, fun i x hi hx => ?_, fun b0 b1 => ?_, g, hq⟩) (fun a _ s' ⟨s1, e, g, hq⟩ => ⟨s1, e, fun i x hi hx => ?_, fun b0 b1 => ?_, g, hq⟩) p s q
  · rw [e]; exact un_kept g hi hx
  · rw [e]; exact un_bare b0 b1
  · rw [e]; exact un_kept g hi hx
  · rw [e]; exact un_bare b0 b1
end K82G
set_option Elab.async false
set_option linter.all false
set_option maxRecDepth 100000
set_option maxHeartbeats 4000000
/-! Own part: the generator triples, a turn at a time; a for over enumerate of it. -/
namespace K82
open PySem PySem.Spec PyProof.Rows L2 GenW
open Builtin.SmallTypes (nextOf)

/-! ### the first L cells of a heap -/
def cutH (h : Heap) (L : Nat) : Heap := { h with objs := h.objs.extract 0 L }
section
variable {h : Heap} {L b : Nat} {o : Obj}
theorem cutH_size (hl : L ≤ h.objs.size) : (cutH h L).objs.size = L := by
  show (h.objs.extract 0 L).size = L
  rw [Array.size_extract]
  omega
theorem cutH_in (hb : b < L) : (cutH h L).get? b = h.get? b := by
  have e : (h.objs.extract 0 L)[b]? = h.objs[b]? := by
    rw [Array.getElem?_extract]
    by_cases hs : b < h.objs.size
    · rw [if_pos (by omega), Nat.zero_add]
    · rw [if_neg (by omega)]
      exact (Array.getElem?_eq_none (by omega)).symm
  show (match (h.objs.extract 0 L)[b]? with | some ⟨_, _, .freed, _⟩ => none | o => o) = (match h.objs[b]? with | some ⟨_, _, .freed, _⟩ => none | o => o)
  rw [e]
theorem cutH_of (e : (cutH h L).get? b = some o) : b < L ∧ h.get? b = some o := by
  by_cases hb : b < L
  · exact ⟨hb, (cutH_in hb).symm.trans e⟩
  · have hs : b < (cutH h L).objs.size := Heap.lt_size e
    have : (cutH h L).objs.size ≤ L := by
      show (h.objs.extract 0 L).size ≤ L
      rw [Array.size_extract]
      omega
    omega
end

/-! ### a for within a generator: its statement, its turns -/
section
variable {prog : Program} {w : World} {A : Around} {R : GenEnd} {Y : Protocol} {n : Nat} {s₀ s : Shared} {c : Code} {fs : List Frame} {env : Env}
  {K : Flow → Sem PySem.Fin} {J : Value → Sem PySem.Fin} {gd : Bool → Bool} {lv : List Value → List Value}
/-- what a loop's own call does with what comes back -/
def cameOn (env : Env) (K : Flow → Sem PySem.Fin) (J : Value → Sem PySem.Fin) (gd : Bool → Bool) (lv : List Value → List Value) (r : Result) : Sem PySem.Fin :=
  ((match r with | .ok f => (.pure f : Sem Flow) | .error e => .raise e).onRaise fun (x : Value) => do
    if (← field x 1) == Value.none then unsupported "frame.own-activation:exception-without-traceback"
    setFlight x env.frame).wrap K J gd lv
theorem seg_forStmt {tg iter : Expr} {body : List Stmt} {pos : Pos} (hs : ∀ x, foldedSetIterable iter env x = pure x)
    (h : wpAny (model prog w) (A.over c fs) (eval iter env) (fun x s1 => wpAny (model prog w) (A.over c fs) (pyIter x) (fun it s2 =>
      ∀ p, Seg (model prog w) A R Y n s₀ (.forLoop tg it body [] env) ((model prog w).den (.forLoop tg it body [] env)) (.ret (cameOn env K J gd lv) none (gd false) (lv []) c p [] :: fs) s2) (fun _ _ => False) s1) (fun _ _ => False) s) :
    Seg (model prog w) A R Y n s₀ c ((exec (.For tg iter body [] pos) env).wrap K J gd lv) fs s := by
  rw [exec_For]
  refine seg_bind_wrap (wpAny_standAt ?_)
  refine seg_bind_wrap (wpAny_mono h (fun x s1 h1 => ?_) fun _ _ z => z.elim)
  rw [hs x]
  refine seg_bind_wrap (wpAny_pure ?_)
  refine seg_bind_wrap (wpAny_standAt ?_)
  refine seg_bind_wrap (wpAny_holding (wpAny_mono h1 (fun it s2 h2 => ?_) fun _ _ z => z.elim))
  exact seg_call h2
theorem seg_forTurn {tg : Expr} {it : Value} {body : List Stmt}
    (h : wpAny (model prog w) (A.over (.forLoop tg it body [] env) fs) (pyNext it) (fun r s1 => match r with
      | none => Seg (model prog w) A R Y n s₀ (.block [] env) (.pure (.done .next)) fs s1
      | some v => wpAny (model prog w) (A.over (.forLoop tg it body [] env) fs) (letOwnedTupleGo tg it v) (fun _ s2 =>
          wpAny (model prog w) (A.over (.forLoop tg it body [] env) fs) (assign tg env v) (fun _ s3 =>
            Seg (model prog w) A R Y n s₀ (.forLoop tg it body [] env) ((execs body env).wrap (fun f => match f with
              | .next | .cont => .pure (.again (.forLoop tg it body [] env))
              | .brk => .pure (.done .next)
              | .ret v => .pure (.done (.ret v))) (fun e => (do noteFrame e env; theTreesLotGoes e : Sem Unit).wrap (fun _ => .raise e) .raise id id) id id) fs s3) (fun _ _ => False) s2) (fun _ _ => False) s1) (fun _ _ => False) s) :
    Seg (model prog w) A R Y n s₀ (.forLoop tg it body [] env) ((model prog w).den (.forLoop tg it body [] env)) fs s := by
  show Seg _ A R Y n s₀ _ ((forTurn tg it body [] env).onRaise (fun x => do noteFrame x env; theTreesLotGoes x)) fs s
  unfold forTurn
  rw [Sem.onRaise_eq_wrap]
  refine seg_bind_wrap (wpAny_standAt ?_)
  refine seg_bind_wrap (wpAny_onRaise (wpAny_mono h (fun r s1 h1 => ?_) fun _ _ z => z.elim))
  cases r with
  | none =>
    refine seg_again rfl ?_
    show Seg _ A R Y n s₀ _ (do return .done (← (execs [] env).onRaise (fun x => do noteFrame x env; theTreesLotGoes x))) fs s1
    exact h1
  | some v =>
    refine seg_bind_wrap (wpAny_mono h1 (fun _ s2 h2 => ?_) fun _ _ z => z.elim)
    refine seg_bind_wrap (wpAny_mono h2 (fun _ s3 h3 => ?_) fun _ _ z => z.elim)
    rw [Sem.bind_eq_wrap', Sem.wrap_wrap]
    rw [Sem.wrap_congr (execs body env) _ _ (K' := fun f => match f with
              | .next | .cont => .pure (.again (.forLoop tg it body [] env))
              | .brk => .pure (.done .next)
              | .ret v => .pure (.done (.ret v))) (H' := (fun e => (do noteFrame e env; theTreesLotGoes e : Sem Unit).wrap (fun _ => .raise e) .raise id id))
        (fun f => by cases f <;> rfl)
        (fun e => by first | exact Sem.bind_eq_wrap _ _ | (show (do noteFrame e env; theTreesLotGoes e : Sem Unit).bind (fun _ => .raise e) = _; rw [Sem.bind_eq_wrap]))]
    exact h3
end

/-! ### the generator's frame, seen anew at each turn -/
abbrev tEnv (f : Addr) (cd : Value) (L : Addr) : Env := envOfC "triples" (defScope (topS 26)) L f cd
abbrev NT : List Str := ["corners", "index", "corner"]
theorem sc26 : GScope NT ["corners"] (defScope (topS 26)) := ⟨rfl, rfl, rfl, by decide +kernel, rfl, by decide +kernel, by decide +kernel⟩
theorem tcells (f : Addr) (cd : Value) (L : Addr) : (tEnv f cd L).cells = [] := rfl
/-- all that the turns never change -/
structure Gx where
  P : Program
  w : World
  K : PySem.W.Frag
  mg : Str → Option Value
  base : Heap
  f : Addr
  cd : Value
  /-- the frame's own cell -/
  L : Addr
  A : Around
  outer : List Env
  /-- the corners: where, tuple or list, what -/
  c : Addr
  tp : Bool
  xs : List V
  /-- the enumerate that it will make, its iterator -/
  e : Addr
  ii : Addr
def Gx.U (G : Gx) : HO := match G.tp with
  | true => .tup G.xs
  | false => .lst G.xs
/-- what stands still: every object but the frame, its iterators, the callers' frames, the module's -/
def Gx.hs (G : Gx) (fp : List Addr) (h : Heap) : Hp := fun b => if b ∈ G.L :: fp ∨ b ∈ frs G.outer ∨ (G.base.get? b).isSome = true then none else (h.get? b).map fun o => .frz o (if b = G.c then G.U else .own 0)
structure Gx.Ok (G : Gx) : Prop where
  hd : G.A.handled = none
  fr : G.A.frames = some G.outer
  mod : Mod G.K G.mg G.base
  bsz : G.base.objs.size ≤ G.L
  frL : ∀ b ∈ frs G.outer, b < G.L
  cL : G.c < G.L
  cB : G.base.get? G.c = none
  cF : G.c ∉ frs G.outer
/-- what is asked of a state in which the frame goes on -/
structure Gx.At (G : Gx) (fp : List Addr) (m : Str → Option Value) (s : Shared) : Prop where
  bs : ∀ b o, G.base.get? b = some o → s.heap.get? b = some o
  funs : s.heap.FunFrames G.base G.outer
  bare : AllBare s.gens
  ns : s.heap.Ns G.L m
  cor : ∀ H : Hp, ObjOk G.P G.w H s.heap G.c G.U
  fpL : ∀ b ∈ fp, G.L < b
def xg (G : Gx) (fp : List Addr) (s : Shared) : Cx where
  prog := G.P
  w := G.w
  K := G.K
  mg := G.mg
  base := G.base
  A := G.A.deeper (tEnv G.f G.cd G.L)
  N := NT
  s_0 := { s with heap := cutH s.heap G.L }
  H_0 := fun b => if b < G.L then G.hs fp s.heap b else none
  env := tEnv G.f G.cd G.L
  outer := G.outer
  stack := tEnv G.f G.cd G.L :: G.outer
  ex := []
  fn := fun _ => true
  calm := true
  pn := []
  xe := fun _ _ => False
section
variable {G : Gx} {fp : List Addr} {m : Str → Option Value} {s : Shared} {b : Addr} {o : Obj} {h : Heap}
theorem hs_none (hb : b ∈ G.L :: fp ∨ b ∈ frs G.outer ∨ (G.base.get? b).isSome = true) : G.hs fp h b = none := by unfold Gx.hs; rw [if_pos hb]
theorem hs_some (hb : ¬ (b ∈ G.L :: fp ∨ b ∈ frs G.outer ∨ (G.base.get? b).isSome = true)) (e : h.get? b = some o) : G.hs fp h b = some (.frz o (if b = G.c then G.U else .own 0)) := by
  unfold Gx.hs
  rw [if_neg hb, e]
  rfl
theorem hs_of {u : HO} (e : G.hs fp h b = some u) : ∃ o, h.get? b = some o ∧ u = .frz o (if b = G.c then G.U else .own 0) ∧ ¬ (b ∈ G.L :: fp ∨ b ∈ frs G.outer ∨ (G.base.get? b).isSome = true) := by
  unfold Gx.hs at e
  split at e
  · cases e
  · rename_i hb
    cases q : h.get? b with
    | none => rw [q] at e; cases e
    | some o =>
      rw [q] at e
      exact ⟨o, rfl, (Option.some.inj e).symm, hb⟩
theorem Gx.At.hok (a : G.At fp m s) : HOk G.P G.w (G.hs fp s.heap) s.heap := fun b u e => by
  obtain ⟨o, q, rfl, _⟩ := hs_of e
  refine ⟨q, ?_⟩
  by_cases hc : b = G.c
  · rw [if_pos hc, hc]
    exact a.cor _
  · rw [if_neg hc]
    exact ⟨o, q⟩
theorem Gx.c_free (O : G.Ok) (a : G.At fp m s) : ¬ (G.c ∈ G.L :: fp ∨ G.c ∈ frs G.outer ∨ (G.base.get? G.c).isSome = true) := by
  rintro (z | z | z)
  · rcases List.mem_cons.mp z with y | y
    · have h2 := O.cL
      rw [y] at h2
      exact Nat.lt_irrefl _ h2
    · exact Nat.lt_irrefl _ (Nat.lt_trans (a.fpL _ y) O.cL)
  · exact O.cF z
  · rw [O.cB] at z; cases z
/-- the corners, for the frame's own rules -/
theorem Gx.seq (O : G.Ok) (a : G.At fp m s) {H : Hp} (hH : ∀ u, G.hs fp s.heap G.c = some u → H G.c = some u) : SqB G.tp G.K H G.c G.xs := by
  obtain ⟨o, q⟩ : ∃ o, s.heap.get? G.c = some o := by
    have y := (a.cor (fun _ => none)).lt
    have z := a.cor (fun _ => none)
    unfold Gx.U at z
    cases ht : G.tp with
    | true => rw [ht] at z; obtain ⟨_, _, _, o, e, _⟩ := z; exact ⟨o, e⟩
    | false => rw [ht] at z; obtain ⟨_, _, _, _, e⟩ := z; exact ⟨_, e⟩
  have e := hH _ (hs_some (Gx.c_free O a) q)
  rw [if_pos rfl] at e
  unfold Gx.U at e
  cases ht : G.tp with
  | true => rw [ht] at e; exact .inl (.inr ⟨o, e⟩)
  | false => rw [ht] at e; exact .inl (.inr ⟨o, e⟩)
theorem xg_ok (O : G.Ok) (a : G.At fp m s) : (xg G fp s).Ok where
  mod := O.mod
  kind := rfl
  glob := rfl
  blt := rfl
  above := by
    show (cutH s.heap G.L).objs.size ≤ G.L
    rw [cutH_size (Nat.le_of_lt a.ns.lt)]
    exact Nat.le_refl _
  inj := fun x y c e _ => by
    have e' : (tEnv G.f G.cd G.L).cells.lookup x = some c := e
    rw [tcells] at e'; cases e'
  has := fun x hx => by
    have hx : (defScope (topS 26)).names.lookup x = some .cell ∨ (defScope (topS 26)).names.lookup x = some .free := hx
    have no : ∀ y ∈ (defScope (topS 26)).names, y.2 ≠ .cell ∧ y.2 ≠ .free := by decide +kernel
    rcases hx with z | z
    · exact absurd rfl (no _ (PySem.mem_of_lookup z)).1
    · exact absurd rfl (no _ (PySem.mem_of_lookup z)).2
  cab := fun x c _ e => by
    have e' : (tEnv G.f G.cd G.L).cells.lookup x = some c := e
    rw [tcells] at e'; cases e'
  hd := fun _ => O.hd
  frames := Around.frames_deeper O.fr
  stk := .inr ⟨rfl, rfl⟩
  exf := fun b z => absurd (show b ∈ ([] : List Addr) from z) (by simp)
  bs := fun b o e => by
    have lt : b < G.L := Nat.lt_of_lt_of_le (Heap.lt_size e) O.bsz
    refine ⟨(cutH_in lt).trans (a.bs b o e), ?_⟩
    show (if b < G.L then G.hs fp s.heap b else none) = none
    rw [if_pos lt]
    exact hs_none (.inr (.inr (by rw [show G.base.get? b = some o from e]; rfl)))
  bsz := by
    show G.base.objs.size ≤ (cutH s.heap G.L).objs.size
    rw [cutH_size (Nat.le_of_lt a.ns.lt)]
    exact O.bsz
  noex := fun b _ _ z => absurd (show b ∈ ([] : List Addr) from z) (by simp)
  exfs := fun b z => absurd (show b ∈ ([] : List Addr) from z) (by simp)
  funs := by
    have all : ∀ (l : List Env), (∀ b ∈ frs l, b < G.L) → s.heap.FunFrames G.base l → (cutH s.heap G.L).FunFrames G.base l := by
      intro l
      induction l with
      | nil => exact fun _ _ => trivial
      | cons e r ih =>
        rintro hl ⟨hk, ⟨Le, ob, hf, hn, ho, hd⟩, hr⟩
        have hLe : Le < G.L := hl Le (by unfold frs; rw [List.filterMap_cons, hf]; exact List.mem_cons_self)
        exact ⟨hk, ⟨Le, ob, hf, hn, (cutH_in hLe).trans ho, hd⟩, ih (fun b hb => hl b (by unfold frs; rw [List.filterMap_cons, hf]; exact List.mem_cons_of_mem _ hb)) hr⟩
    exact all G.outer O.frL a.funs
  frf := fun b hb => by
    show (if b < G.L then G.hs fp s.heap b else none) = none
    split
    · exact hs_none (.inr (.inl hb))
    · rfl
theorem xg_inv (O : G.Ok) (a : G.At fp m s) {σ : L2.St} (hl : σ.length = 3) (loc : ∀ (i : Nat) (x : Str) (v : V), NT[i]? = some x → σ[i]? = some (some v) → ∃ u, RelV v u ∧ m x = some u) :
    Inv (xg G fp s) [] σ (G.hs fp s.heap) s where
  ok := xg_ok O a
  os := rfl
  bare := a.bare
  base := {
    keep := fun b o e _ _ _ => (cutH_of e).2
    slot := fun b o e _ _ _ => ⟨o.slots, (cutH_of e).2⟩
    free := fun b o e n _ => by
      have n' : (if b < G.L then G.hs fp s.heap b else none) = none := n
      rw [if_pos (cutH_of e).1] at n'
      exact n'
    there := fun b o e _ => ⟨o, (cutH_of e).2⟩
    tups := fun b xs e => by
      have e' : (if b < G.L then G.hs fp s.heap b else none) = some (.tup xs) := e
      split at e'
      · exact e'
      · cases e'
    frzs := fun b o u e => by
      have e' : (if b < G.L then G.hs fp s.heap b else none) = some (.frz o u) := e
      split at e'
      · exact e'
      · cases e'
    tbls := fun b ps e => by
      have e' : (if b < G.L then G.hs fp s.heap b else none) = some (.tbl ps) := e
      split at e'
      · exact ⟨#[], by rw [e']; simp⟩
      · cases e' }
  loc := ⟨m, a.ns, fun i x v h1 h2 h3 => by
    obtain ⟨u, r, e⟩ := loc i x v h1 h2
    refine ⟨u, r, .inl ⟨?_, e⟩⟩
    have hx : x = "corners" ∨ x = "index" ∨ x = "corner" := by
      match i, h1 with
      | 0, h1 => exact .inl (Option.some.inj h1).symm
      | 1, h1 => exact .inr (.inl (Option.some.inj h1).symm)
      | 2, h1 => exact .inr (.inr (Option.some.inj h1).symm)
    rcases hx with rfl | rfl | rfl <;> rfl⟩
  cell := fun x c e => by
    have e' : (tEnv G.f G.cd G.L).cells.lookup x = some c := e
    rw [tcells] at e'; cases e'
  free := hs_none (.inl (List.mem_cons_self ..))
  freeC := fun x c e => by
    have e' : (tEnv G.f G.cd G.L).cells.lookup x = some c := e
    rw [tcells] at e'; cases e'
  pin := fun p hp => absurd (show p ∈ ([] : List (Addr × Obj)) from hp) (by simp)
  hok := a.hok
  len := hl
end

/-! ### by a list's or a tuple's place -/
def rIxB (K : PySem.W.Frag) : R2 := fun x y H Q => ∃ (p : Addr) (xs : List V) (i : Int) (v : V) (tp : Bool), x = .ref p ∧ y = .int i ∧ SqB tp K H p xs ∧ atI xs i = some v ∧ Q v H
theorem ixB {X : Cx} : IxR X (rIxB X.K) := by
  intro value slice pins s σ H x y v u Q I rx ry h hs
  obtain ⟨p, xs, i, z, tp, e1, e2, hq, hz, q⟩ := h
  cases tp with
  | false => exact ix_list value slice pins s σ H x y v u Q I rx ry ⟨p, xs, i, z, e1, e2, hq, hz, q⟩ hs
  | true => exact ix_tup value slice pins s σ H x y v u Q I rx ry ⟨p, xs, i, z, e1, e2, hq, hz, q⟩ hs
def rLenB (K : PySem.W.Frag) : List V → Hp → VK → Prop := fun vs H Q => ∃ (p : Addr) (xs : List V) (tp : Bool), vs = [.ref p] ∧ SqB tp K H p xs ∧ Q (.int xs.length) H
theorem call_lenB {X : Cx} : CallR X (.builtin "len") (rLenB X.K) := by
  intro pins s σ H vs us Q I r h
  obtain ⟨p, xs, tp, e, hq, q⟩ := h
  cases tp with
  | false => exact call_len_seq pins s σ H vs us Q I r ⟨p, xs, e, .inl hq, q⟩
  | true => exact call_len_seq pins s σ H vs us Q I r ⟨p, xs, e, .inr hq, q⟩
/-- a place and its two neighbours, around -/
def tripV (xs : List V) (j : Nat) : List V := [xs.getD ((j + xs.length - 1) % xs.length) .non, xs.getD j .non, xs.getD ((j + 1) % xs.length) .non]
theorem getD_some {xs : List V} {i : Nat} (h : i < xs.length) : xs[i]? = some (xs.getD i .non) := by
  rw [List.getD_eq_getElem?_getD, List.getElem?_eq_getElem h]
  rfl
theorem atI_prev {xs : List V} {j : Nat} (h : j < xs.length) : atI xs ((j : Int) - 1) = some (xs.getD ((j + xs.length - 1) % xs.length) .non) := by
  have hl : (j + xs.length - 1) % xs.length < xs.length := Nat.mod_lt _ (by omega)
  rw [← getD_some hl]
  unfold atI ixN
  by_cases h0 : 1 ≤ j
  · rw [if_pos (by omega), if_pos (by omega)]
    have e1 : ((j : Int) - 1).toNat = j - 1 := by omega
    have e2 : (j + xs.length - 1) % xs.length = j - 1 := by
      have : j + xs.length - 1 = (j - 1) + xs.length := by omega
      rw [this, Nat.add_mod_right, Nat.mod_eq_of_lt (by omega)]
    rw [e1, e2]
    rfl
  · have hj : j = 0 := by omega
    subst hj
    rw [if_neg (by omega), if_pos (by omega)]
    have e1 : (((0 : Nat) : Int) - 1 + (xs.length : Int)).toNat = xs.length - 1 := by omega
    have e2 : (0 + xs.length - 1) % xs.length = xs.length - 1 := by rw [Nat.zero_add, Nat.mod_eq_of_lt (by omega)]
    rw [e1, e2]
    rfl
theorem atI_next {xs : List V} {j : Nat} (h : j < xs.length) : atI xs (((j : Int) + 1) % (xs.length : Int)) = some (xs.getD ((j + 1) % xs.length) .non) := by
  have hl : (j + 1) % xs.length < xs.length := Nat.mod_lt _ (by omega)
  have e : ((j : Int) + 1) % (xs.length : Int) = (((j + 1) % xs.length : Nat) : Int) := by
    first
      | (rw [Int.natCast_mod, Int.natCast_add]; rfl)
      | (rw [Int.natCast_emod, Int.natCast_add]; rfl)
  rw [e]
  exact atI_nat (getD_some hl)

/-! ### what a turn leaves -/
structure Rel (G : Gx) (fp : List Addr) (s s1 : Shared) : Prop where
  os : s1.os = s.os
  keep : ∀ b o, s.heap.get? b = some o → b ∉ G.L :: fp → b ∉ frs G.outer → s1.heap.get? b = some o
  slot : ∀ b o, s.heap.get? b = some o → b ∈ frs G.outer → ∃ sl, s1.heap.get? b = some { o with slots := sl }
  there : ∀ b o, s.heap.get? b = some o → b ∉ G.L :: fp → ∃ o', s1.heap.get? b = some o'
theorem Rel.refl (G : Gx) (fp : List Addr) (s : Shared) : Rel G fp s s := ⟨rfl, fun _ _ e _ _ => e, fun _ o e _ => ⟨o.slots, e⟩, fun _ o e _ => ⟨o, e⟩⟩
theorem Rel.trans {G : Gx} {fp : List Addr} {s s1 s2 : Shared} (a : Rel G fp s s1) (b : Rel G fp s1 s2) : Rel G fp s s2 where
  os := b.os.trans a.os
  keep := fun c o e h1 h2 => b.keep c o (a.keep c o e h1 h2) h1 h2
  slot := fun c o e h => by
    obtain ⟨sl, q⟩ := a.slot c o e h
    obtain ⟨sl', q'⟩ := b.slot c _ q h
    exact ⟨sl', q'⟩
  there := fun c o e h => by
    obtain ⟨o', q⟩ := a.there c o e h
    exact b.there c o' q h
theorem rel_of {G : Gx} {fp : List Addr} {m : Str → Option Value} {s s1 : Shared} {pins : List (Addr × Obj)} {σ : L2.St} {H1 : Hp} (O : G.Ok) (a : G.At fp m s) (I : Inv (xg G fp s) pins σ H1 s1) (same : Same (G.hs fp s.heap) H1) : Rel G fp s s1 where
  os := I.os
  keep := fun b o e h1 h2 => by
    cases hb : G.base.get? b with
    | some ob =>
      have q := a.bs b ob hb
      rw [e] at q
      rw [q]
      exact I.bk b ob hb
    | none =>
      have hf : ¬ (b ∈ G.L :: fp ∨ b ∈ frs G.outer ∨ (G.base.get? b).isSome = true) := by
        rintro (z | z | z)
        · exact h1 z
        · exact h2 z
        · rw [hb] at z; cases z
      exact (I.hok b _ (same b _ (hs_some hf e))).1
  slot := fun b o e h => by
    have lt := O.frL b h
    exact I.base.slot b o ((cutH_in lt).trans e) (by show (if b < G.L then G.hs fp s.heap b else none) = none; rw [if_pos lt]; exact hs_none (.inr (.inl h))) h (by intro z; cases z)
  there := fun b o e h1 => by
    by_cases h2 : b ∈ frs G.outer
    · have lt := O.frL b h2
      obtain ⟨sl, q⟩ := I.base.slot b o ((cutH_in lt).trans e) (by show (if b < G.L then G.hs fp s.heap b else none) = none; rw [if_pos lt]; exact hs_none (.inr (.inl h2))) h2 (by intro z; cases z)
      exact ⟨_, q⟩
    · cases hb : G.base.get? b with
      | some ob => exact ⟨_, I.bk b ob hb⟩
      | none =>
        have hf : ¬ (b ∈ G.L :: fp ∨ b ∈ frs G.outer ∨ (G.base.get? b).isSome = true) := by
          rintro (z | z | z)
          · exact h1 z
          · exact h2 z
          · rw [hb] at z; cases z
        exact ⟨_, (I.hok b _ (same b _ (hs_some hf e))).1⟩

/-! ### the generator's turns -/
structure Nxt (G : Gx) (e ii : Addr) (j : Nat) (s : Shared) : Prop where
  ex : ∃ m, G.At [e, ii] m s ∧ m "corners" = some (.ref G.c)
  en : ∃ old, IsEnum s.heap e ii ((j : Nat) : Int) old
  it : IterB G.tp s.heap ii G.c j
  ne : e ≠ ii
/-- handed out -/
structure Out (G : Gx) (e ii : Addr) (j : Nat) (s₀ : Shared) (v : Value) (s1 : Shared) : Prop where
  rel : Rel G [e, ii] s₀ s1
  nxt : Nxt G e ii (j + 1) s1
  val : ∃ (T : Addr) (its : List Value), v = .ref T ∧ s₀.heap.get? T = none ∧ IsTup s1.heap T its.toArray ∧ Vals (tripV G.xs j) its
  lim : s1.heap.NoLimit
def Yt (G : Gx) : Protocol := fun n s₀ v s1 kap => ∃ (j : Nat), j + n + 1 = G.xs.length ∧ Out G G.e G.ii j s₀ v s1 ∧ ∀ s2, Nxt G G.e G.ii (j + 1) s2 → kap (.send .none) s2
def Ft (G : Gx) : Nat → Shared → Shared → Prop := fun n s₀ s1 => n = 0 ∧ AllBare s1.gens ∧ G.L < G.e ∧ G.L < G.ii ∧ Rel G [G.e, G.ii] s₀ s1
def Rt (G : Gx) : GenEnd := fun n s₀ r s1 => ((r = .ok (.ret .none) ∨ r = .ok .next) ∧ Ft G n s₀ s1) ∨ ∃ x : Value, r = .error x ∧ False
section
variable {G : Gx} {e ii : Addr} {s : Shared} {m : Str → Option Value}
theorem xg_fp (O : G.Ok) (a : G.At [e, ii] m s) : ∀ b ∈ [e, ii], FpOk (xg G [e, ii] s) [] (G.hs [e, ii] s.heap) b := fun b hb => by
  have hL := a.fpL b hb
  refine ⟨hs_none (.inl (List.mem_cons_of_mem _ hb)), Nat.ne_of_gt hL, fun z => ?_, .inr ?_, fun x c z => ?_, fun p hp => absurd (show p ∈ ([] : List (Addr × Obj)) from hp) (by simp)⟩
  · exact Nat.lt_irrefl _ (Nat.lt_trans hL (O.frL b z))
  · show (cutH s.heap G.L).objs.size ≤ b
    rw [cutH_size (Nat.le_of_lt a.ns.lt)]
    exact Nat.le_of_lt hL
  · have z' : (tEnv G.f G.cd G.L).cells.lookup x = some c := z
    rw [tcells] at z'; cases z'
end
/-- the target's and the expression's readings -/
abbrev gT (K : PySem.W.Frag) : TG := gTup K 2 (gCons (gName 1) (gCons (gName 2) gNil))
abbrev tT (K : PySem.W.Frag) : TE := tTup (tCons (tOp (rIxB K) (tVar 0) (tOp (rI0 fun i j => .int (i - j)) (tVar 1) (tC (.int 1)))) (tCons (tVar 2) (tCons (tOp (rIxB K) (tVar 0) (tOp (rI (fun _ j => 0 < j) fun i j => .int (i % j))
  (tOp (rI0 fun i j => .int (i + j)) (tVar 1) (tC (.int 1))) (tCB (rLenB K) (tCons (tVar 0) tNil)))) tNil)))
section
variable {G : Gx} {elts : List Expr} {kk : Nat} {tpos : Pos} {te : Expr} {yp pp : Pos} {fs : List Frame}
theorem tri_turns (O : G.Ok) (e ii : Addr) (eE : e = G.e) (eI : ii = G.ii) (hg : ∀ s : Shared, PG (xg G [e, ii] s) (.Tuple elts kk tpos) (gT G.K)) (he : ∀ s : Shared, PE (xg G [e, ii] s) te (tT G.K))
    (hov : G.A.over (.forLoop (.Tuple elts kk tpos) (.ref e) [.Expr (.Yield (some te) yp) pp] [] (tEnv G.f G.cd G.L)) fs = G.A.deeper (tEnv G.f G.cd G.L)) (hsp : splitAtGen fs = none) (hgd : fs.any Frame.guarded = false)
    (hend : ∀ s₀ s1, Ft G 0 s₀ s1 → Seg (model G.P G.w) G.A (Rt G) (Yt G) 0 s₀ (.block [] (tEnv G.f G.cd G.L)) (.pure (.done .next)) fs s1) :
    ∀ (n j : Nat) (s₀ s : Shared), j + n = G.xs.length → Nxt G e ii j s → Rel G [e, ii] s₀ s →
      Seg (model G.P G.w) G.A (Rt G) (Yt G) n s₀ (.forLoop (.Tuple elts kk tpos) (.ref e) [.Expr (.Yield (some te) yp) pp] [] (tEnv G.f G.cd G.L))
        ((model G.P G.w).den (.forLoop (.Tuple elts kk tpos) (.ref e) [.Expr (.Yield (some te) yp) pp] [] (tEnv G.f G.cd G.L))) fs s := by
  subst eE eI
  intro n
  induction n with
  | zero =>
    intro j s₀ s hj x rel
    obtain ⟨m, a, hm⟩ := x.ex
    obtain ⟨old, hen⟩ := x.en
    refine seg_forTurn ?_
    rw [hov]
    have I : Inv (xg G [G.e, G.ii] s) [] [some (.ref G.c), none, none] (G.hs [G.e, G.ii] s.heap) s := xg_inv O a rfl (fun i y v h1 h2 => by
      match i, h1, h2 with
      | 0, h1, h2 => cases h1; cases h2; exact ⟨_, rfl, hm⟩
      | 1, h1, h2 => cases h2
      | 2, h1, h2 => cases h2)
    refine wpAny_mono ((turn_enumB (P := G.P) (w := G.w) (K := G.K) (elts := elts) (kk := kk) (tpos := tpos) G.tp G.c G.e G.ii G.xs).done (xg G [G.e, G.ii] s) rfl rfl rfl rfl j [] s _ _ (fun _ _ => False) I (xg_fp O a) ⟨⟨old, hen⟩, x.it, x.ne⟩
      ⟨Gx.seq O a fun u z => z, by omega⟩) (fun r s1 hr => ?_) fun _ _ z => z
    obtain ⟨rfl, I1⟩ := hr
    exact hend s₀ s1 ⟨rfl, I1.bare, a.fpL G.e (by simp), a.fpL G.ii (by simp), rel.trans (rel_of O a I1 (Same.refl _))⟩
  | succ n ih =>
    intro j s₀ s hj x rel
    obtain ⟨m, a, hm⟩ := x.ex
    obtain ⟨old, hen⟩ := x.en
    have hjl : j < G.xs.length := by omega
    have TB := turn_enumB (P := G.P) (w := G.w) (K := G.K) (elts := elts) (kk := kk) (tpos := tpos) G.tp G.c G.e G.ii G.xs
    refine seg_forTurn ?_
    rw [hov]
    have I : Inv (xg G [G.e, G.ii] s) [] [some (.ref G.c), none, none] (G.hs [G.e, G.ii] s.heap) s := xg_inv O a rfl (fun i y v h1 h2 => by
      match i, h1, h2 with
      | 0, h1, h2 => cases h1; cases h2; exact ⟨_, rfl, hm⟩
      | 1, h1, h2 => cases h2
      | 2, h1, h2 => cases h2)
    refine wpAny_mono (TB.item (xg G [G.e, G.ii] s) rfl rfl rfl rfl j [] s _ _ (fun _ _ => False) I (xg_fp O a) ⟨⟨old, hen⟩, x.it, x.ne⟩
      ⟨Gx.seq O a fun u z => z, hjl⟩) (fun r s1 hr => ?_) fun _ _ z => z
    obtain ⟨u, rfl, h1⟩ := hr
    refine wpAny_mono h1 (fun _ s2 h2 => ?_) fun _ _ z => z
    obtain ⟨v, H2, I2, rv, ⟨T, x', rfl, hT, rfl, hx'⟩, st2, fr2⟩ := h2
    have fp2 : ∀ b ∈ [G.e, G.ii], FpOk (xg G [G.e, G.ii] s) [] (upd (G.hs [G.e, G.ii] s.heap) T (.tup [.int (j : Nat), x'])) b := fun b hb => ⟨fr2 b hb, (xg_fp O a b hb).2⟩
    have I2' := I2.pinned fp2 (TB.obj _ _ st2)
    have same2 : Same (G.hs [G.e, G.ii] s.heap) (upd (G.hs [G.e, G.ii] s.heap) T (.tup [.int (j : Nat), x'])) := sNew hT _
    refine wpAny_mono ((hg s).run _ s2 _ _ (.ref T) u (fun σ3 H3 => σ3 = [some (.ref G.c), some (.int (j : Nat)), some x'] ∧ H3 = upd (G.hs [G.e, G.ii] s.heap) T (.tup [.int (j : Nat), x'])) I2' rv
      ⟨T, [.int (j : Nat), x'], rfl, SqT.of upd_same, rfl, _, _, rfl, _, _, rfl, rfl, rfl, rfl⟩) (fun _ s3 h3 => ?_) fun _ _ z => z
    obtain ⟨σ3, H3, I3, rfl, rfl⟩ := h3
    refine seg_execs_cons (seg_Expr_Yield hsp rfl hgd ?_)
    rw [hov]
    have sq3 : SqB G.tp G.K (upd (G.hs [G.e, G.ii] s.heap) T (.tup [.int (j : Nat), x'])) G.c G.xs := Gx.seq O a fun u z => same2 _ _ z
    refine wpAny_mono ((he s).run _ s3 _ _ (fun w4 H4 => ∃ T2, w4 = .ref T2 ∧ upd (G.hs [G.e, G.ii] s.heap) T (.tup [.int (j : Nat), x']) T2 = none ∧ H4 = upd (upd (G.hs [G.e, G.ii] s.heap) T (.tup [.int (j : Nat), x'])) T2 (.tup (tripV G.xs j))) I3 ?_)
      (fun v s4 h4 => ?_) fun _ _ z => z.elim
    · refine ⟨_, rfl, _, rfl, _, _, rfl, rfl, G.c, G.xs, _, _, G.tp, rfl, rfl, sq3, atI_prev hjl, ?_⟩
      refine ⟨_, rfl, ?_⟩
      refine ⟨_, rfl, _, rfl, _, _, rfl, rfl, _, rfl, G.c, G.xs, G.tp, rfl, sq3, _, _, rfl, rfl, (by show (0 : Int) < (G.xs.length : Int); omega), G.c, G.xs, _, _, G.tp, rfl, rfl, sq3, atI_next hjl, ?_⟩
      refine ⟨by show 3 ≤ sizeLine; decide, fun p hp => ⟨p, rfl, hp, ?_⟩⟩
      have ex : x' = G.xs.getD j .non := by
        rw [getD_some hjl] at hx'
        exact (Option.some.inj hx').symm
      rw [ex]
      rfl
    · obtain ⟨v4, H4, I4, r4, T2, rfl, hT2, rfl⟩ := h4
      obtain rfl : v = Value.ref T2 := r4
      intro kap hk
      have same4 : Same (G.hs [G.e, G.ii] s.heap) (upd (upd (G.hs [G.e, G.ii] s.heap) T (.tup [.int (j : Nat), x'])) T2 (.tup (tripV G.xs j))) := sPut same2 (same2.free hT2)
      have e4 : upd (upd (G.hs [G.e, G.ii] s.heap) T (.tup [.int (j : Nat), x'])) T2 (.tup (tripV G.xs j)) T2 = some (.tup (tripV G.xs j)) := upd_same
      have r4 := rel_of O a I4 same4
      have nfp : T2 ∉ G.L :: [G.e, G.ii] := fun z => by
        rcases List.mem_cons.mp z with y | y
        · have q := I4.free
          rw [show (xg G [G.e, G.ii] s).env.locals = T2 from y.symm, e4] at q
          cases q
        · obtain ⟨o, q, _⟩ := TB.obj _ _ st2 T2 y
          have q2 := (I4.pin (T2, o) (List.mem_append_right _ (List.mem_append_right _ (mem_pinsAt y q)))).2.1
          rw [show (upd (upd (G.hs [G.e, G.ii] s.heap) T (.tup [.int (j : Nat), x'])) T2 (.tup (tripV G.xs j))) (T2, o).1 = _ from e4] at q2
          cases q2
      have new2 : s.heap.get? T2 = none := by
        cases q : s.heap.get? T2 with
        | none => rfl
        | some o =>
          by_cases hf : T2 ∈ G.L :: [G.e, G.ii] ∨ T2 ∈ frs G.outer ∨ (G.base.get? T2).isSome = true
          · rcases hf with z | z | z
            · exact absurd z nfp
            · have y := I4.stkFree T2 (by show T2 ∈ frs (tEnv G.f G.cd G.L :: G.outer); exact List.mem_cons_of_mem _ z)
              rw [e4] at y
              cases y
            · obtain ⟨ob, y⟩ := Option.isSome_iff_exists.mp z
              have y2 := (I4.bs T2 ob y).2
              rw [e4] at y2
              cases y2
          · have y := same2 _ _ (hs_some hf q)
            rw [hT2] at y
            cases y
      have N4 : Nxt G G.e G.ii (j + 1) s4 := by
        obtain ⟨m4, hn4, hl4⟩ := I4.loc
        obtain ⟨u4, ru4, look⟩ := hl4 0 "corners" (.ref G.c) rfl rfl (.inl rfl)
        obtain rfl : u4 = Value.ref G.c := ru4
        have hm4 : m4 "corners" = some (.ref G.c) := by
          rcases look with ⟨_, z⟩ | ⟨z, _⟩
          · exact z
          · rcases z with z | z <;> cases z
        have kp := TB.keep _ s2.heap s4.heap st2 fun b hb o y => (I4.pin (b, o) (List.mem_append_right _ (List.mem_append_right _ (mem_pinsAt hb y)))).1
        refine ⟨⟨m4, ⟨I4.bk, I4.funs, I4.bare, hn4, fun H => ?_, a.fpL⟩, hm4⟩, kp.1, kp.2.1, kp.2.2⟩
        obtain ⟨o, q⟩ : ∃ o, s.heap.get? G.c = some o := (objOk_get (a.cor fun _ => none))
        have y := same4 _ _ (hs_some (Gx.c_free O a) q)
        rw [if_pos rfl] at y
        have z := (I4.hok G.c _ y).2
        unfold Gx.U at z ⊢
        cases ht : G.tp with
        | true => rw [ht] at z; exact z
        | false => rw [ht] at z; exact z
      refine ⟨j, by omega, ⟨rel.trans r4, N4, ?_, I4.nolimit⟩, fun s5 n5 => hk .none s5 ?_⟩
      · obtain ⟨_, its, rv4, it4⟩ := (show ObjOk G.P G.w _ s4.heap T2 (.tup (tripV G.xs j)) from I4.hok T2 _ e4)
        refine ⟨T2, its, rfl, ?_, it4, rv4⟩
        cases q : s₀.heap.get? T2 with
        | none => rfl
        | some o =>
          obtain ⟨o', y⟩ := rel.there T2 o q nfp
          rw [new2] at y
          cases y
      · refine seg_execs_nil (seg_again rfl ?_)
        exact ih (j + 1) s5 s5 (by omega) n5 (Rel.refl _ _ _)
end
end K82
set_option Elab.async false
set_option linter.all false
set_option maxRecDepth 100000
set_option maxHeartbeats 4000000
namespace K82
open PySem PySem.Spec PyProof.Rows L2 GenW K82G
open Builtin.SmallTypes (nextOf)

/-! ### a generator is woken -/
/-- what a sleeping generator promises at its next waking -/
def kapOf (M : Model) (A : Around) (R : GenEnd) (Y : Protocol) : Nat → GenState → Resume → Shared → Prop
  | 0, _, _, _ => False
  | m + 1, gs, r, s => gs.Goes M A R Y m r s
theorem resume_asleep {M : Model} {A : Around} {R : GenEnd} {Y : Protocol} {n : Nat} {E : Value → Shared → Prop} {s : Shared} {g : Nat} {gs : GenState} {r : Resume} {l : List Value} {α : Type} {k : GenResult → Sem α} {Q : α → Shared → Prop}
    (hg : s.gens[g]? = some gs) (hgo : gs.Goes M A R Y n r (s.setGen g .running))
    (hR : ∀ x s₁, R n (s.setGen g .running) x s₁ → wpAny M A (k (End.ret x).result) Q E (s₁.setGen g .finished))
    (hY : ∀ v s₁ gs', s.gens.size ≤ s₁.gens.size → gs'.bare = true → asleep gs' = true → Y (n - 1) (s.setGen g .running) v s₁ (kapOf M A R Y n gs') → wpAny M A (k (.yielded v)) Q E (s₁.setGen g gs')) :
    wpAny M A (.resume g r l k) Q E s := by
  intro Γ p hΓ
  rw [Sem.wp_resume]
  have quiet : ∀ e₁ s₁, SegEnd R Y n (Seg.next M A R Y n) (s.setGen g .running) e₁ s₁ → e₁.quiet = true := fun e₁ s₁ he => by
    cases e₁ with
    | ret x => rfl
    | susp v g₀ l₀ k₀ c₀ p₀ fs₀ => exact he.1
  have key : ∃ e₁ s₁, Wakes M Γ p g r s e₁.result (s₁.setGen g e₁.genState) ∧ SegEnd R Y n (Seg.next M A R Y n) (s.setGen g .running) e₁ s₁ := by
    cases gs with
    | fresh c =>
      obtain ⟨rfl, hs⟩ := hgo
      obtain ⟨e₁, s₁, hr, he⟩ := seg_iff.mp hs (Γ.wake c p) p rfl (hΓ.wake c p)
      refine ⟨e₁, s₁, ?_, he⟩
      unfold Wakes
      rw [hg]
      exact ⟨e₁, s₁, hr, quiet e₁ s₁ he, rfl, rfl⟩
    | suspended k₀ l₀ c₀ p₀ fs₀ cl =>
      obtain ⟨e₁, s₁, hr, he⟩ := seg_iff.mp hgo (Γ.wake c₀ p) p₀ rfl (hΓ.wake c₀ p)
      refine ⟨e₁, s₁, ?_, he⟩
      unfold Wakes
      rw [hg]
      exact ⟨e₁, s₁, hr, quiet e₁ s₁ he, rfl, rfl⟩
    | running => exact hgo.elim
    | finished => exact hgo.elim
  obtain ⟨e₁, s₁, hw, he⟩ := key
  refine ⟨_, _, hw, ?_⟩
  cases e₁ with
  | ret x => exact hR x s₁ he Γ p hΓ
  | susp v g₀ l₀ k₀ c₀ p₀ fs₀ =>
    refine hY v s₁ _ (by have q := wakes_gsz hw; rw [setGen_size] at q; exact q) (End.bare_of_quiet he.1) rfl ?_ Γ p hΓ
    cases n with
    | zero => exact he.2
    | succ m => exact he.2

section
variable {P : Program} {w : World} {A : Around} {E : Value → Shared → Prop} {s : Shared}
/-- what enumerate's next asks of a generator that raises nothing -/
theorem nextOf_gen {a : Addr} {g n : Nat} {gs : GenState} {Fe : Nat → Shared → Shared → Prop} {Y : Protocol} {Q : Value → Shared → Prop} (hh : A.handled = none) (hl : s.heap.NoLimit) (hroom : A.depth < recursionLimit) (hg : s.heap.IsGen a g)
    (hgs : s.gens[g]? = some gs) (hgo : gs.Goes (model P w) A.in1 (fun n s₀ r s₁ => ((r = .ok (.ret .none) ∨ r = .ok .next) ∧ Fe n s₀ s₁) ∨ ∃ e : Value, r = .error e ∧ False) Y n (.send .none) (s.setGen g .running))
    (hY : ∀ v s₁ gs', s.gens.size ≤ s₁.gens.size → gs'.bare = true → asleep gs' = true → Y (n - 1) (s.setGen g .running) v s₁ (kapOf (model P w) A.in1 (fun n s₀ r s₁ => ((r = .ok (.ret .none) ∨ r = .ok .next) ∧ Fe n s₀ s₁) ∨ ∃ e : Value, r = .error e ∧ False) Y n gs') → Q v (s₁.setGen g gs'))
    (hP : ∀ s₁, Fe n (s.setGen g .running) s₁ → ∀ (h' : Heap) (x : Addr) (o : Obj), (∀ b ob, s₁.heap.get? b = some ob → h'.get? b = some ob) → h'.get? x = some o → o.cls = .type "StopIteration" → E (.ref x) { s₁.setGen g .finished with heap := h' }) :
    wpAny (model P w) A (nextOf (.ref a)) Q E s := by
  unfold nextOf
  refine wpAny_bind (wpAny_callSpecial?_slot (name := Str.ofString "__next__") hg.typeIs slot_gen_next
    (wpAny_call_entry slot_gen_next hg.typeIs entry_gen_next ?_ (args_gen_next _)))
  show wpAny _ A.in1 (Builtin.Generator.genWake (.ref a) (.send .none)) _ _ s
  unfold Builtin.Generator.genWake
  refine wpAny_bind (wpAny_holding (wpAny_genNumber hg (wpAny_bind (wpAny_genState hgs ?_))))
  cases gs with
  | running => exact hgo.elim
  | finished => exact hgo.elim
  | _ =>
    refine wpAny_bind (wpAny_roomToWake hl hroom ?_)
    show wpAny _ A.in1 (.resume g (.send .none) [] _) _ _ s
    refine resume_asleep hgs hgo (fun x s₁ hx => ?_) (fun v s₁ gs' hsz hb hz hv => wpAny_pure ⟨v, rfl, wpAny_pure (hY v s₁ gs' hsz hb hz hv)⟩)
    rcases hx with ⟨hr, hp⟩ | ⟨e, _, z⟩
    · have hres : End.result (.ret x) = .returned .none := by rcases hr with hr | hr <;> rw [hr] <;> rfl
      first | rw [hres] | simp only [hres]
      show wpAny _ A.in1 (newExc (.type "StopIteration") [] >>= _) _ _ _
      refine wpAny_bind ?_
      simp only [newExc, newTuple]
      refine wpAny_bind (wpAny_newObj_type ?_ (by size_fits))
      refine wpAny_bind (m := firstArgMember _ _) (wpAny_of_eq (a := Value.none) (by first | rfl | (simp only [firstArgMember]; rfl)) ?_)
      refine wpAny_newObj_type ?_ (by size_fits)
      simp only [raiseNew]
      refine wpAny_bind (wpAny_bind (wpAny_handled ?_))
      first | rw [show A.in1.handled = none from hh] | rw [hh]
      refine wpAny_throw ?_
      exact hP s₁ hp _ _ _ (fun b o hb => Heap.get?_push_of_some _ (Heap.get?_push_of_some _ hb)) (Heap.get?_push_size _ rfl) rfl
    · exact z.elim
end

/-! ### enumerate(corners), made -/
theorem enum_made {X : Cx} {e : Expr} {p pos : Pos} (hg : Gl X "enumerate") (hm : X.mg "enumerate" = none) (hs : starEach [e] X.env = [(false, eval e X.env)])
    (pins : List (Addr × Obj)) (s : Shared) (σ : L2.St) (H : Hp) (a : Addr) (xs : List V) (tp : Bool) (Q : Value → Shared → Prop) (I : Inv X pins σ H s)
    (hraw : ∀ (Q' : Value → Shared → Prop), Q' (.ref a) s → wpAny (model X.prog X.w) X.A (eval e X.env) Q' X.xe s) (hq : SqB tp X.K H a xs)
    (hQ : ∀ s2, Inv X pins σ H s2 → IsEnum s2.heap (s.heap.objs.size + 1) s.heap.objs.size ((0 : Nat) : Int) .none → IterB tp s2.heap s.heap.objs.size a 0 → Q (.ref (s.heap.objs.size + 1)) s2) :
    wpAny (model X.prog X.w) X.A (eval (.Call (.Name "enumerate" p) [e] [] pos) X.env) (fun v s1 => wpAny (model X.prog X.w) X.A (pyIter v) Q X.xe s1) X.xe s := by
  suffices key : wpAny (model X.prog X.w) X.A (call (.type "enumerate") [.ref a]) (fun v s1 => wpAny (model X.prog X.w) X.A (pyIter v) Q X.xe s1) X.xe s by
    refine Call_ (ld_blt I hg hm boot_enumerate (PyProof.Rows.callWith_type1 (e := e) (rest := []) ?_ hs rfl))
    rw [hs]
    exact Calls.spliced_cons (hraw _ (Calls.spliced_nil key))
  obtain ⟨its, rv, p', hz⟩ := inv_seqB I hq
  have fin : ∀ (o1 : Obj), o1.isFreed = false → IterB tp ((s.heap.push o1).push (enumObj (.ref s.heap.objs.size))) s.heap.objs.size a 0 →
      wpAny (model X.prog X.w) X.A (pyIter (.ref (s.heap.push o1).objs.size)) Q X.xe { s with heap := (s.heap.push o1).push (enumObj (.ref s.heap.objs.size)) } := fun o1 hf hit => by
    have z : (s.heap.push o1).objs.size = s.heap.objs.size + 1 := Heap.size_push ..
    have he : IsEnum ((s.heap.push o1).push (enumObj (.ref s.heap.objs.size))) (s.heap.objs.size + 1) s.heap.objs.size ((0 : Nat) : Int) .none := by
      have y := Heap.get?_push_size (s.heap.push o1) (o := enumObj (.ref s.heap.objs.size)) rfl
      rw [z] at y
      exact y
    rw [z]
    exact wpAny_pyIter_enum he (hQ _ (I.kept (t' := s.toks) fun b o y => Heap.get?_push_of_some _ (Heap.get?_push_of_some _ y)) he hit)
  cases tp with
  | false => exact call_enum1 (gets_list a its.toArray s.heap.objs.size) ⟨rfl, p'⟩ (fin _ rfl ⟨_, Heap.get?_push_of_some _ (Heap.get?_push_size _ rfl), rfl, rfl⟩)
  | true => exact call_enum1 (gets_tuple a its.toArray s.heap.objs.size) ⟨rfl, p'⟩ (fin _ rfl ⟨_, Heap.get?_push_of_some _ (Heap.get?_push_size _ rfl), rfl, rfl⟩)

/-! ### the first waking -/
theorem Rel.widen {G : Gx} {fp : List Addr} {s s1 : Shared} (r : Rel G [] s s1) : Rel G fp s s1 where
  os := r.os
  keep := fun b o e h1 h2 => r.keep b o e (fun z => h1 (by rw [(show b = G.L by simpa using z)]; exact List.mem_cons_self ..)) h2
  slot := r.slot
  there := fun b o e h1 => r.there b o e (fun z => h1 (by rw [(show b = G.L by simpa using z)]; exact List.mem_cons_self ..))
structure New (G : Gx) (s : Shared) : Prop where
  ex : ∃ m, G.At [] m s ∧ m "corners" = some (.ref G.c)
section
variable {G : Gx} {k : Nat}
theorem tri_first (O : G.Ok) (Fr : Free G.mg) (s : Shared) (x : New G s) (hE : G.e = s.heap.objs.size + 1) (hI : G.ii = s.heap.objs.size) :
    Seg (model G.P G.w) G.A (Rt G) (Yt G) G.xs.length s (.func (defBody (topS 26)) (tEnv G.f G.cd G.L)) ((model G.P G.w).den (.func (defBody (topS 26)) (tEnv G.f G.cd G.L))) [] s := by
  obtain ⟨m, a, hm⟩ := x.ex
  refine seg_func ?_
  refine seg_execs_cons (seg_forStmt (fun _ => rfl) ?_)
  rw [over_func]
  have I : Inv (xg G [] s) [] [some (.ref G.c), none, none] (G.hs [] s.heap) s := xg_inv O a rfl (fun i y v h1 h2 => by
    match i, h1, h2 with
    | 0, h1, h2 => cases h1; cases h2; exact ⟨_, rfl, hm⟩
    | 1, h1, h2 => cases h2
    | 2, h1, h2 => cases h2)
  refine enum_made (X := xg G [] s) (by rfl) Fr.enumerate (by rfl) [] s _ _ G.c G.xs G.tp _ I (fun Q' q => wpAny_Name (wpAny_loadName_local rfl rfl a.ns hm q) (by decide)) (Gx.seq O a fun u z => z) ?_
  intro s2 I2 he hit p
  rw [← hE, ← hI] at he
  rw [← hI] at hit
  rw [← hE]
  have lt1 : G.L < s.heap.objs.size := I.lt
  have rel2 : Rel G [] s s2 := rel_of O a I2 (Same.refl _)
  have N2 : Nxt G G.e G.ii 0 s2 := by
    obtain ⟨m4, hn4, hl4⟩ := I2.loc
    obtain ⟨u4, ru4, look⟩ := hl4 0 "corners" (.ref G.c) rfl rfl (.inl rfl)
    obtain rfl : u4 = Value.ref G.c := ru4
    have hm4 : m4 "corners" = some (.ref G.c) := by
      rcases look with ⟨_, z⟩ | ⟨z, _⟩
      · exact z
      · rcases z with z | z <;> cases z
    refine ⟨⟨m4, ⟨I2.bk, I2.funs, I2.bare, hn4, fun H => ?_, fun b hb => ?_⟩, hm4⟩, ⟨_, he⟩, hit, by rw [hE, hI]; exact Nat.succ_ne_self _⟩
    · obtain ⟨o, q⟩ : ∃ o, s.heap.get? G.c = some o := (objOk_get (a.cor fun _ => none))
      have z := (I2.hok G.c _ (hs_some (Gx.c_free O a) q)).2
      rw [if_pos rfl] at z
      unfold Gx.U at z ⊢
      cases ht : G.tp with
      | true => rw [ht] at z; exact z
      | false => rw [ht] at z; exact z
    · rcases (show b = G.e ∨ b = G.ii by simpa using hb) with z | z
      · rw [z, hE]; exact Nat.lt_succ_of_lt lt1
      · rw [z, hI]; exact lt1
  refine tri_turns O G.e G.ii rfl rfl (fun s => pg_tup rfl (pgs_cons (pg_name (i := 1) sc26.nd rfl (Or.inl rfl)) (pgs_cons (pg_name (i := 2) sc26.nd rfl (Or.inl rfl)) pgs_nil)))
    (fun s => pe_tup (pa_cons (pe_ix ixB (pv 0) (pe_op op_sub (pv 1) pe_int) (fun _ _ => rfl)) (pa_cons (pv 2) (pa_cons (pe_ix ixB (pv 0) (pe_op op_mod (pe_op op_add (pv 1) pe_int)
      (pe_callB call_lenB (by rfl) Fr.len (by decide +kernel) (pa_cons (pv 0) pa_nil))) (fun _ _ => rfl)) pa_nil))))
    (by rw [over_loop rfl rfl, over_func]) rfl rfl (fun s₀ s1 f => seg_leaf (.ok .next) (seg_end (.ok (.ret .none)) (.inl ⟨.inl rfl, f⟩))) G.xs.length 0 s s2 (by omega) N2 rel2.widen
end
end K82
set_option Elab.async false
set_option linter.all false
set_option maxRecDepth 100000
set_option maxHeartbeats 4000000
/-! Own part: whoever loops over enumerate(triples(corners)). -/
namespace K82
open PySem PySem.Spec PyProof.Rows L2 GenW K82G
open Builtin.SmallTypes (nextOf)

abbrev gxOf (X : Cx) (f : Addr) (cd : Value) (L c : Addr) (tp : Bool) (xs : List V) (e ii : Addr) : Gx :=
  { P := X.prog, w := X.w, K := X.K, mg := X.mg, base := X.base, f := f, cd := cd, L := L, A := X.A.in1.in1, outer := X.stack, c := c, tp := tp, xs := xs, e := e, ii := ii }
def boxU (tp : Bool) (xs : List V) : HO := match tp with
  | true => .tup xs
  | false => .lst xs
/-- what never changes -/
structure Stc (X : Cx) (L c a en : Addr) : Prop where
  bsz : X.base.objs.size ≤ L
  frL : ∀ b ∈ frs X.stack, b < L
  cL : c < L
  La : L ≠ a
  Le : L ≠ en
  ae : a ≠ en
structure Tn (X : Cx) (f : Addr) (cd : Value) (L c : Addr) (tp : Bool) (xs : List V) (a : Addr) (g : Nat) (en : Addr) (i : Nat) (fp : List Addr) (s : Shared) : Prop where
  isg : s.heap.IsGen a g
  enm : ∃ old, IsEnum s.heap en a ((i : Nat) : Int) old
  fr : ∃ m, s.heap.Ns L m ∧ m "corners" = some (.ref c)
  st : ∃ gs, s.gens[g]? = some gs ∧ (i = 0 ∨ asleep gs = true) ∧ ((i = 0 ∧ fp = [a, en, L] ∧ gs = .fresh (.func (defBody (topS 26)) (tEnv f cd L))) ∨
    ∃ e ii, fp = [a, en, L, e, ii] ∧ L < e ∧ L < ii ∧ e ≠ ii ∧ e ∉ [a, en] ∧ ii ∉ [a, en] ∧ i ≤ xs.length ∧ (∃ old, IsEnum s.heap e ii ((i : Nat) : Int) old) ∧ IterB tp s.heap ii c i ∧
      ∀ s2, Nxt (gxOf X f cd L c tp xs e ii) e ii i s2 → gs.Goes (model X.prog X.w) X.A.in1.in1 (Rt (gxOf X f cd L c tp xs e ii)) (Yt (gxOf X f cd L c tp xs e ii)) (xs.length - i) (.send .none) s2)
section
variable {X : Cx} {f : Addr} {cd : Value} {L c : Addr} {tp : Bool} {xs : List V} {a : Addr} {g : Nat} {en : Addr} {i : Nat} {fp : List Addr} {s s' : Shared} {pins : List (Addr × Obj)} {σ : L2.St} {H : Hp}
theorem Tn.mem (t : Tn X f cd L c tp xs a g en i fp s) : a ∈ fp ∧ en ∈ fp ∧ L ∈ fp := by
  obtain ⟨gs, _, _, ⟨_, e, _⟩ | ⟨_, _, e, _⟩⟩ := t.st <;> rw [e] <;> simp
theorem ns_obj {h : Heap} {m : Str → Option Value} (n : h.Ns L m) : ∃ o, h.get? L = some o ∧ ∀ v, o.data ≠ .cell v := by
  obtain ⟨o, es, ep, ho, hd, _⟩ := n
  exact ⟨o, ho, fun v z => by rw [hd] at z; cases z⟩
theorem ns_kept {h h' : Heap} {m : Str → Option Value} (n : h.Ns L m) (k : ∀ o, h.get? L = some o → h'.get? L = some o) : h'.Ns L m := by
  obtain ⟨o, es, ep, ho, r⟩ := n
  exact ⟨o, es, ep, k o ho, r⟩
theorem gen_kept {h h' : Heap} (n : h.IsGen a g) (k : ∀ o, h.get? a = some o → h'.get? a = some o) : h'.IsGen a g := by
  obtain ⟨o, x, y, ho, r⟩ := n
  exact ⟨o, x, y, k o ho, r⟩
theorem Tn.obj (t : Tn X f cd L c tp xs a g en i fp s) : ∀ b ∈ fp, ∃ o, s.heap.get? b = some o ∧ ∀ v, o.data ≠ .cell v := by
  obtain ⟨o1, n1, q1, ho1, hc1, hd1, hs1⟩ := t.isg
  obtain ⟨old, he⟩ := t.enm
  obtain ⟨m, hn, _⟩ := t.fr
  have A3 : ∀ b ∈ [a, en, L], ∃ o, s.heap.get? b = some o ∧ ∀ v, o.data ≠ .cell v := fun b hb => by
    rcases (show b = a ∨ b = en ∨ b = L by simpa using hb) with z | z | z
    · rw [z]; exact ⟨o1, ho1, fun v y => by rw [hd1] at y; cases y⟩
    · rw [z]; exact ⟨_, he, fun v y => nomatch y⟩
    · rw [z]; exact ns_obj hn
  obtain ⟨gs, _, _, ⟨_, e, _⟩ | ⟨e2, ii, e, _, _, _, _, _, _, ⟨old2, he2⟩, hi2, _⟩⟩ := t.st
  · rw [e]; exact A3
  · rw [e]
    intro b hb
    rcases (show b ∈ [a, en, L] ∨ b = e2 ∨ b = ii by simpa [or_assoc] using hb) with z | z | z
    · exact A3 b z
    · rw [z]; exact ⟨_, he2, fun v y => nomatch y⟩
    · rw [z]; exact iterB_obj hi2
theorem Tn.keep (t : Tn X f cd L c tp xs a g en i fp s) (h0 : i ≠ 0) (k : ∀ b ∈ fp, ∀ o, s.heap.get? b = some o → s'.heap.get? b = some o) (kg : ∀ x, s.gens[g]? = some x → asleep x = true → s'.gens[g]? = some x) : Tn X f cd L c tp xs a g en i fp s' := by
  obtain ⟨m1, m2, m3⟩ := t.mem
  refine ⟨gen_kept t.isg (k a m1), let ⟨old, he⟩ := t.enm; ⟨old, k en m2 _ he⟩, let ⟨m, hn, q⟩ := t.fr; ⟨m, ns_kept hn (k L m3), q⟩, ?_⟩
  obtain ⟨gs, hg, hs, ⟨z, e, q⟩ | ⟨e2, ii, e, l1, l2, ne, n1, n2, hi, ⟨old2, he2⟩, hi2, q⟩⟩ := t.st
  · exact ⟨gs, kg gs hg (hs.resolve_left h0), hs, .inl ⟨z, e, q⟩⟩
  · exact ⟨gs, kg gs hg (hs.resolve_left h0), hs, .inr ⟨e2, ii, e, l1, l2, ne, n1, n2, hi, ⟨old2, k e2 (by rw [e]; simp) _ he2⟩, iterB_keep hi2 (k ii (by rw [e]; simp)), q⟩⟩
theorem set_bare {g : Nat} (h : AllBare s.gens) {x : GenState} (hx : x.bare = true) : AllBare (s.setGen g x).gens := fun y hy => by
  have hy : y ∈ s.gens.setIfInBounds g x := hy
  obtain ⟨i, hi, e⟩ := Array.mem_iff_getElem.mp hy
  have q : (s.gens.setIfInBounds g x)[i]? = some y := by rw [Array.getElem?_eq_getElem hi, e]
  rw [Array.getElem?_setIfInBounds] at q
  split at q
  · split at q
    · rw [← Option.some.inj q]; exact hx
    · cases q
  · exact h _ (Array.mem_of_getElem? q)
theorem box_any {P : Program} {w : World} {h : Heap} (x : ObjOk P w H h c (boxU tp xs)) (H' : Hp) : ObjOk P w H' h c (boxU tp xs) := by
  unfold boxU at *
  cases tp with
  | true => exact x
  | false => exact x
theorem gx_ok (S : Stc X L c a en) (hcalm : X.calm = true) (I : Inv X pins σ H s) (hc : H c = some (boxU tp xs)) (e ii : Addr) : (gxOf X f cd L c tp xs e ii).Ok where
  hd := I.ok.hd hcalm
  fr := I.ok.frames
  mod := I.ok.mod
  bsz := S.bsz
  frL := S.frL
  cL := S.cL
  cB := by
    refine Option.eq_none_iff_forall_ne_some.mpr fun o q => ?_
    have y := (I.bs c o q).2
    rw [hc] at y
    cases y
  cF := fun z => by
    have y := I.stkFree c z
    rw [hc] at y
    cases y
theorem gx_at (I : Inv X pins σ H s) (hc : H c = some (boxU tp xs)) {m : Str → Option Value} (hn : s.heap.Ns L m) (e ii : Addr) (fq : List Addr) (hfq : ∀ b ∈ fq, L < b) : (gxOf X f cd L c tp xs e ii).At fq m (s.setGen g .running) where
  bs := I.bk
  funs := I.stack
  bare := set_bare I.bare rfl
  ns := hn
  cor := fun H' => box_any (I.hok c _ hc) H'
  fpL := hfq
/-- it can be woken -/
theorem Tn.goes (S : Stc X L c a en) (Fr : Free X.mg) (hcalm : X.calm = true) (I : Inv X pins σ H s) (hc : H c = some (boxU tp xs)) (t : Tn X f cd L c tp xs a g en i fp s) (hf : ∀ b ∈ fp, FpOk X pins H b) :
    ∃ e ii gs, s.gens[g]? = some gs ∧ (i = 0 ∨ asleep gs = true) ∧ gs.Goes (model X.prog X.w) X.A.in1.in1 (Rt (gxOf X f cd L c tp xs e ii)) (Yt (gxOf X f cd L c tp xs e ii)) (xs.length - i) (.send .none) (s.setGen g .running) ∧
      L < e ∧ L < ii ∧ e ≠ ii ∧ ∀ b ∈ [e, ii], FpOk X pins H b ∧ b ∉ [a, en] := by
  obtain ⟨m, hn, hm⟩ := t.fr
  obtain ⟨gs, hg, hs, ⟨z, e, q⟩ | ⟨e2, ii, e, l1, l2, ne, n1, n2, hi, ⟨old2, he2⟩, hi2, q⟩⟩ := t.st
  · subst z
    refine ⟨s.heap.objs.size + 1, s.heap.objs.size, gs, hg, hs, ?_, Nat.lt_succ_of_lt hn.lt, hn.lt, Nat.succ_ne_self _, fun b hb => ?_⟩
    · rw [q]
      refine ⟨rfl, ?_⟩
      exact tri_first (gx_ok S hcalm I hc _ _) Fr (s.setGen g .running) ⟨⟨m, gx_at I hc hn _ _ [] (by simp), hm⟩⟩ rfl rfl
    · have hb2 : s.heap.objs.size ≤ b := by
        rcases (show b = s.heap.objs.size + 1 ∨ b = s.heap.objs.size by simpa using hb) with z | z <;> rw [z]
        · exact Nat.le_succ _
        · exact Nat.le_refl _
      refine ⟨I.fpOk hb2 (I.hok.fresh hb2), fun z => ?_⟩
      obtain ⟨o, ho, _⟩ := t.obj b (by
        rw [e]
        rcases (show b = a ∨ b = en by simpa using z) with y | y <;> simp [y])
      exact Nat.lt_irrefl _ (Nat.lt_of_lt_of_le (Heap.lt_size ho) hb2)
  · refine ⟨e2, ii, gs, hg, hs, q _ ⟨⟨m, gx_at I hc hn e2 ii [e2, ii] (fun b hb => ?_), hm⟩, ⟨old2, he2⟩, hi2, ne⟩, l1, l2, ne, fun b hb => ?_⟩
    · rcases (show b = e2 ∨ b = ii by simpa using hb) with z | z <;> rw [z]
      · exact l1
      · exact l2
    · rcases (show b = e2 ∨ b = ii by simpa using hb) with z | z <;> rw [z]
      · exact ⟨hf e2 (by rw [e]; simp), n1⟩
      · exact ⟨hf ii (by rw [e]; simp), n2⟩

/-- behind a turn of the generator: the consumer's own state -/
theorem un_rel (S : Stc X L c a en) (I : Inv X pins σ H s) (hf : ∀ b ∈ [a, en, L], FpOk X pins H b) {e ii : Addr} (hq : ∀ b ∈ [e, ii], FpOk X pins H b) {s1 : Shared} {h' : Heap} (rel : Rel (gxOf X f cd L c tp xs e ii) [e, ii] s s1) {H' : Hp}
    (k : ∀ b o, b ≠ en → s1.heap.get? b = some o → h'.get? b = some o) (hn : ∀ b o, s.heap.get? b = some o → H b = none → b ∉ [en, L, e, ii] → H' b = none) (hs : ∀ b o, H b = some o → H' b = some o)
    (en' : ∃ o, h'.get? en = some o) : Un (frs X.stack) [en, L, e, ii] H H' s.heap h' where
  keep := fun b o q n hb hx => k b o (fun z => hx (by rw [z]; simp)) (rel.keep b o q (fun z => hx (by simp at z ⊢; exact .inr z)) hb)
  slot := fun b o q n hb hx => by
    obtain ⟨sl, y⟩ := rel.slot b o q hb
    exact ⟨sl, k b _ (fun z => hx (by rw [z]; simp)) y⟩
  free := fun b o q n hx => hn b o q n hx
  there := fun b o q hx => by
    obtain ⟨o', y⟩ := rel.there b o q (fun z => hx (by simp at z ⊢; exact .inr z))
    exact ⟨o', k b _ (fun z => hx (by rw [z]; simp)) y⟩
  tups := fun b xs e => hs b _ e
  frzs := fun b o u e => hs b _ e
  tbls := fun b ps e => ⟨#[], by rw [hs b _ e]; simp⟩
theorem hok_rel (S : Stc X L c a en) (I : Inv X pins σ H s) (hf : ∀ b ∈ [a, en, L], FpOk X pins H b) {e ii : Addr} (hq : ∀ b ∈ [e, ii], FpOk X pins H b) {s1 : Shared} {h' : Heap} (rel : Rel (gxOf X f cd L c tp xs e ii) [e, ii] s s1) {H' : Hp}
    (k : ∀ b o, b ≠ en → s1.heap.get? b = some o → h'.get? b = some o) (hs : ∀ b o, H b = some o → H' b = some o) {b : Addr} {u : HO} (eq : H b = some u) : ObjOk X.prog X.w H' h' b u := by
  refine (I.hok b u eq).stay (fun c' v hc q => ?_) (fun c' q => hs _ _ q) fun c' xs q => hs _ _ q
  have live : H c' ≠ none := by
    rcases hc with z | z
    · rw [z, eq]; intro y; cases y
    · rw [z]; intro y; cases y
  have no : ∀ x, H x = none → c' ≠ x := fun x hx z => live (by rw [z]; exact hx)
  refine k c' v (no en (hf en (by simp)).1) (rel.keep c' v q (fun z => ?_) fun z => live (I.stkFree c' z))
  rcases (show c' = L ∨ c' = e ∨ c' = ii by simpa using z) with y | y | y
  · exact no L (hf L (by simp)).1 y
  · exact no e (hq e (by simp)).1 y
  · exact no ii (hq ii (by simp)).1 y
theorem sub3 (t : Tn X f cd L c tp xs a g en i fp s) (hf : ∀ b ∈ fp, FpOk X pins H b) : ∀ b ∈ [a, en, L], FpOk X pins H b := fun b hb => by
  obtain ⟨m1, m2, m3⟩ := t.mem
  rcases (show b = a ∨ b = en ∨ b = L by simpa using hb) with z | z | z <;> rw [z]
  · exact hf _ m1
  · exact hf _ m2
  · exact hf _ m3
theorem tri_item {elts : List Expr} {kk : Nat} {tpos : Pos} (S : Stc X L c a en) (Fr : Free X.mg) (hcalm : X.calm = true) (hroom : X.A.depth < recursionLimit) (I : Inv X pins σ H s) (hc : H c = some (boxU tp xs)) (t : Tn X f cd L c tp xs a g en i fp s) (hf : ∀ b ∈ fp, FpOk X pins H b) (hi : i < xs.length) :
    wpAny (model X.prog X.w) X.A (pyNext (.ref en)) (fun r s1 => ∃ T1 T2 : Addr, r = some (.ref T1) ∧ wpAny (model X.prog X.w) X.A (letOwnedTupleGo (.Tuple elts kk tpos) (.ref en) (.ref T1)) (fun _ s2 => H T1 = none ∧ H T2 = none ∧ T1 ≠ T2 ∧
      Inv X pins σ (upd (upd H T2 (.tup (tripV xs i))) T1 (.tup [.int (i : Nat), .ref T2])) s2 ∧ ∃ fp', Tn X f cd L c tp xs a g en (i + 1) fp' s2 ∧ ∀ b ∈ fp', FpOk X pins (upd (upd H T2 (.tup (tripV xs i))) T1 (.tup [.int (i : Nat), .ref T2])) b) X.xe s1) X.xe s := by
  obtain ⟨e, ii, gs, hg, hs, go, l1, l2, ne, hq⟩ := t.goes S Fr hcalm I hc hf
  have hf3 := sub3 t hf
  obtain ⟨old, hen⟩ := t.enm
  obtain ⟨n, hn⟩ : ∃ n, xs.length - i = n + 1 := ⟨xs.length - i - 1, by omega⟩
  rw [hn] at go
  refine enum_item_any hen ?_
  refine nextOf_gen (Fe := Ft (gxOf X f cd L c tp xs e ii)) (I.ok.hd hcalm) I.nolimit hroom t.isg hg go (fun v s1 gs' hgz hb hz hv => ?_) (fun s1 hx => absurd hx.1 (Nat.succ_ne_zero n))
  obtain ⟨j, hj, out, hk⟩ := hv
  obtain rfl : j = i := by
    have hj' : j + n + 1 = xs.length := hj
    omega
  have relS := out.rel
  have rel : Rel (gxOf X f cd L c tp xs e ii) [e, ii] s s1 := ⟨relS.os, relS.keep, relS.slot, relS.there⟩
  have nx := out.nxt
  obtain ⟨T2, its, rfl, new2, tup2, val2⟩ := out.val
  have new2 : s.heap.get? T2 = none := new2
  have nap : a ∉ L :: [e, ii] ∧ en ∉ L :: [e, ii] := by
    have h1 := (hq e (by simp)).2
    have h2 := (hq ii (by simp)).2
    simp at h1 h2
    refine ⟨fun z => ?_, fun z => ?_⟩
    · rcases (show a = L ∨ a = e ∨ a = ii by simpa using z) with y | y | y
      · exact S.La y.symm
      · exact h1.1 y.symm
      · exact h2.1 y.symm
    · rcases (show en = L ∨ en = e ∨ en = ii by simpa using z) with y | y | y
      · exact S.Le y.symm
      · exact h1.2 y.symm
      · exact h2.2 y.symm
  have nstk : ∀ b o, s.heap.get? b = some o → b ∈ [a, en] → b ∉ frs X.stack := fun b o q hb z => by
    obtain ⟨n1, n2⟩ := hf3 b (by rcases (show b = a ∨ b = en by simpa using hb) with y | y <;> simp [y])
    rcases List.mem_cons.mp (I.stkSub b z) with y | y
    · exact n2.1 y
    · exact n2.2.1 y
  have hen1 : IsEnum s1.heap en a ((j : Nat) : Int) old := rel.keep en _ hen nap.2 (nstk en _ hen (by simp))
  refine ⟨hen1, fun h' ho hT hsz hk' => ?_⟩
  have hT : h'.get? s1.heap.objs.size = some { cls := .type "tuple", data := .seq #[.int (j : Nat) s1.toks, .ref T2] } := hT
  have hk' : ∀ b o, b ≠ en → s1.heap.get? b = some o → h'.get? b = some o := hk'
  refine ⟨_, T2, rfl, wpAny_letOwnedTupleGo_enum ho fun h'' he' sb => ?_⟩
  have sb : Heap.SameBut en h' h'' := sb
  have lt2 : T2 < s1.heap.objs.size := by
    obtain ⟨o, q, _⟩ := tup2
    exact Heap.lt_size q
  have lte : en < s1.heap.objs.size := Heap.lt_size hen1
  have k2 : ∀ b o, b ≠ en → s1.heap.get? b = some o → h''.get? b = some o := fun b o hb q => (sb.2 b hb).trans (hk' b o hb q)
  have old1 : ∀ b o, s.heap.get? b = some o → b < s1.heap.objs.size ∧ b ≠ T2 := fun b o q => by
    refine ⟨?_, fun z => by rw [z, new2] at q; cases q⟩
    by_cases hb : b ∈ L :: [e, ii]
    · obtain ⟨m', a', _⟩ := nx.ex
      rcases (show b = L ∨ b = e ∨ b = ii by simpa using hb) with y | y | y <;> rw [y]
      · exact a'.ns.lt
      · obtain ⟨_, z⟩ := nx.en
        exact Heap.lt_size z
      · obtain ⟨_, z, _⟩ := iterB_obj nx.it
        exact Heap.lt_size z
    · obtain ⟨o', y⟩ := rel.there b o q hb
      exact Heap.lt_size y
  have oldH : ∀ b u, H b = some u → b < s1.heap.objs.size ∧ b ≠ T2 := fun b u q => by
    obtain ⟨o, y⟩ := objOk_get (I.hok b u q)
    exact old1 b o y
  have n1 : H s1.heap.objs.size = none := by
    refine Option.eq_none_iff_forall_ne_some.mpr fun u q => ?_
    exact Nat.lt_irrefl _ (oldH _ u q).1
  have n2 : H T2 = none := by
    refine Option.eq_none_iff_forall_ne_some.mpr fun u q => ?_
    exact (oldH _ u q).2 rfl
  have n12 : s1.heap.objs.size ≠ T2 := Nat.ne_of_gt lt2
  have hH : ∀ b o, H b = some o → upd (upd H T2 (.tup (tripV xs j))) s1.heap.objs.size (.tup [.int (j : Nat), .ref T2]) b = some o := fun b o q => by
    rw [upd_ne (Nat.ne_of_lt (oldH b o q).1), upd_ne (oldH b o q).2]
    exact q
  have T2en : T2 ≠ en := fun z => by rw [z, hen] at new2; cases new2
  have fpn : ∀ b, b ∈ [a, en, L] ∨ b ∈ [e, ii] → upd (upd H T2 (.tup (tripV xs j))) s1.heap.objs.size (.tup [.int (j : Nat), .ref T2]) b = none ∧ FpOk X pins H b := fun b hb => by
    have fo : FpOk X pins H b := by
      rcases hb with z | z
      · exact hf3 b z
      · exact (hq b z).1
    have lt : b < s1.heap.objs.size := by
      obtain ⟨m', a', _⟩ := nx.ex
      rcases hb with z | z
      · rcases (show b = a ∨ b = en ∨ b = L by simpa using z) with y | y | y <;> rw [y]
        · obtain ⟨o, _, _, q, _⟩ := t.isg
          exact (old1 a o q).1
        · exact lte
        · exact a'.ns.lt
      · rcases (show b = e ∨ b = ii by simpa using z) with y | y <;> rw [y]
        · obtain ⟨_, z⟩ := nx.en
          exact Heap.lt_size z
        · obtain ⟨_, z, _⟩ := iterB_obj nx.it
          exact Heap.lt_size z
    have b2 : b ≠ T2 := fun z => by
      obtain ⟨o, q, hc1, hd1⟩ := tup2
      obtain ⟨m', a', _⟩ := nx.ex
      rcases hb with y | y
      · rcases (show b = a ∨ b = en ∨ b = L by simpa using y) with y | y | y
        · obtain ⟨o, _, _, q, _⟩ := t.isg
          exact (old1 a o q).2 (y ▸ z)
        · exact T2en (z ▸ y)
        · obtain ⟨m0, hn0, _⟩ := t.fr
          obtain ⟨o, q, _⟩ := ns_obj hn0
          exact (old1 L o q).2 (y ▸ z)
      · rcases (show b = e ∨ b = ii by simpa using y) with y | y
        · obtain ⟨_, q2⟩ := nx.en
          rw [← y, z] at q2
          have q2' := q.symm.trans q2
          cases q2'
          exact absurd (Value.type.inj hc1) (by decide)
        · have q2 := nx.it
          rw [← y, z] at q2
          unfold IterB at q2
          cases tp with
          | true => obtain ⟨o2, y1, y2, _⟩ := q2; rw [q] at y1; cases y1; rw [hc1] at y2; exact absurd (Value.type.inj y2) (by decide)
          | false => obtain ⟨o2, y1, y2, _⟩ := q2; rw [q] at y1; cases y1; rw [hc1] at y2; exact absurd (Value.type.inj y2) (by decide)
    refine ⟨?_, fo⟩
    rw [upd_ne (Nat.ne_of_lt lt), upd_ne b2]
    exact fo.1
  have rv2 : ObjOk X.prog X.w (upd (upd H T2 (.tup (tripV xs j))) s1.heap.objs.size (.tup [.int (j : Nat), .ref T2])) h'' T2 (.tup (tripV xs j)) := by
    refine ⟨by show 3 ≤ sizeLine; decide, its, val2, ?_⟩
    obtain ⟨o, q, r⟩ := tup2
    exact ⟨o, k2 T2 o T2en q, r⟩
  have rv1 : ObjOk X.prog X.w (upd (upd H T2 (.tup (tripV xs j))) s1.heap.objs.size (.tup [.int (j : Nat), .ref T2])) h'' s1.heap.objs.size (.tup [.int (j : Nat), .ref T2]) :=
    ⟨by show 2 ≤ sizeLine; decide, [.int (j : Nat) s1.toks, .ref T2], .cons ⟨_, rfl⟩ (.cons rfl .nil), ⟨_, (sb.2 _ (Nat.ne_of_gt lte)).trans hT, rfl, _, rfl⟩⟩
  have I2 : Inv X pins σ (upd (upd H T2 (.tup (tripV xs j))) s1.heap.objs.size (.tup [.int (j : Nat), .ref T2])) { s1.setGen g gs' with heap := h'', toks := s1.toks + 1 } := by
    refine I.call' (ch := [en, L, e, ii]) (rel.os.trans rfl) (un_rel S I hf3 (fun b hb => (hq b hb).1) rel k2 (fun b o q n hb => ?_) hH ⟨_, he'⟩) (fun b u q => ?_) (set_bare (s := s1) ?_ hb) fun b hb => ?_
    · rw [upd_ne (Nat.ne_of_lt (old1 b o q).1), upd_ne (old1 b o q).2]
      exact n
    · by_cases b1 : b = s1.heap.objs.size
      · rw [b1, upd_same] at q
        cases q
        rw [b1]
        exact rv1
      · by_cases b2 : b = T2
        · rw [b2, upd_ne (Ne.symm n12), upd_same] at q
          cases q
          rw [b2]
          exact rv2
        · rw [upd_ne b1, upd_ne b2] at q
          exact hok_rel S I hf3 (fun b hb => (hq b hb).1) rel k2 hH q
    · obtain ⟨m', a', _⟩ := nx.ex
      exact a'.bare
    · have fo : FpOk X pins H b := by
        rcases (show b = en ∨ b = L ∨ b = e ∨ b = ii by simpa using hb) with y | y | y | y <;> rw [y]
        · exact hf3 en (by simp)
        · exact hf3 L (by simp)
        · exact (hq e (by simp)).1
        · exact (hq ii (by simp)).1
      exact ⟨fo.2.2.2.1, fo.2.1, fo.2.2.2.2.1, fo.2.2.2.2.2⟩
  refine ⟨n1, n2, n12, I2, [a, en, L, e, ii], ⟨?_, ⟨.ref T2, ?_⟩, ?_, gs', ?_, .inr hz, .inr ⟨e, ii, rfl, l1, l2, ne, (hq e (by simp)).2, (hq ii (by simp)).2, by omega, ?_, ?_, fun s2 hs2 => ?_⟩⟩, fun b hb => ?_⟩
  · obtain ⟨o, x1, x2, q, r⟩ := t.isg
    exact ⟨o, x1, x2, k2 a o S.ae (rel.keep a o q nap.1 (nstk a o q (by simp))), r⟩
  · have e1 : ((j + 1 : Nat) : Int) = (j : Int) + 1 := by omega
    rw [e1]; exact he'
  · obtain ⟨m', a', hm'⟩ := nx.ex
    exact ⟨m', ns_kept a'.ns fun o q => k2 L o S.Le q, hm'⟩
  · show (s1.gens.setIfInBounds g gs')[g]? = some gs'
    have lt : g < s.gens.size := (Array.getElem?_eq_some_iff.mp hg).1
    exact Array.getElem?_setIfInBounds_self_of_lt (Nat.lt_of_lt_of_le lt hgz)
  · obtain ⟨o2, z⟩ := nx.en
    exact ⟨o2, k2 e _ (fun y => (hq e (by simp)).2 (by rw [y]; simp)) z⟩
  · exact iterB_keep nx.it fun o q => k2 ii o (fun y => (hq ii (by simp)).2 (by rw [y]; simp)) q
  · have y := hk s2 hs2
    show gs'.Goes _ _ _ _ (xs.length - (j + 1)) _ _
    rw [show xs.length - (j + 1) = n by omega]
    exact y
  · have z := fpn b (List.mem_append.mp (show b ∈ [a, en, L] ++ [e, ii] from hb))
    exact ⟨z.1, z.2.2⟩
end
end K82
set_option Elab.async false
set_option linter.all false
set_option maxRecDepth 100000
set_option maxHeartbeats 400000
/-! Own part: for … in enumerate(triples(corners)). -/
namespace K82
open PySem PySem.Spec PyProof.Rows L2 GenW K82G
open Builtin.SmallTypes (nextOf)
section
variable {X : Cx} {f : Addr} {cd : Value} {L c : Addr} {tp : Bool} {xs : List V} {a : Addr} {g : Nat} {en : Addr} {i : Nat} {fp : List Addr} {s s' : Shared} {pins : List (Addr × Obj)} {σ : L2.St} {H : Hp}
theorem tri_done (S : Stc X L c a en) (Fr : Free X.mg) (hcalm : X.calm = true) (hroom : X.A.depth < recursionLimit) (I : Inv X pins σ H s) (hc : H c = some (boxU tp xs)) (t : Tn X f cd L c tp xs a g en xs.length fp s) (hf : ∀ b ∈ fp, FpOk X pins H b) :
    wpAny (model X.prog X.w) X.A (pyNext (.ref en)) (fun r s1 => r = none ∧ Inv X pins σ H s1) X.xe s := by
  obtain ⟨e, ii, gs, hg, hs, go, l1, l2, ne, hq⟩ := t.goes S Fr hcalm I hc hf
  have hf3 := sub3 t hf
  obtain ⟨old, hen⟩ := t.enm
  rw [Nat.sub_self] at go
  refine enum_done_any hen ?_
  refine nextOf_gen (Fe := Ft (gxOf X f cd L c tp xs e ii)) (I.ok.hd hcalm) I.nolimit hroom t.isg hg go (fun v s1 gs' hgz hb hz hv => ?_) (fun s1 hx h' x o up hx' hxc => ?_)
  · obtain ⟨j, hj, out, hk⟩ := hv
    exact hk s1 out.nxt
  · obtain ⟨_, bare1, _, _, relS⟩ := hx
    have rel : Rel (gxOf X f cd L c tp xs e ii) [e, ii] s s1 := ⟨relS.os, relS.keep, relS.slot, relS.there⟩
    refine ⟨⟨x, o, rfl, hx', hxc⟩, rfl, ?_⟩
    refine I.call' (ch := [en, L, e, ii]) (rel.os.trans rfl) (un_rel S I hf3 (fun b hb => (hq b hb).1) rel (fun b o _ q => up b o q) (fun b o q n _ => n) (fun _ _ q => q) ?_) (fun b u q => hok_rel S I hf3 (fun b hb => (hq b hb).1) rel (fun b o _ q => up b o q) (fun _ _ q => q) q) (set_bare (s := s1) bare1 rfl) fun b hb => ?_
    · have nap : en ∉ L :: [e, ii] := by
        have h1 := (hq e (by simp)).2
        have h2 := (hq ii (by simp)).2
        simp at h1 h2
        intro z
        rcases (show en = L ∨ en = e ∨ en = ii by simpa using z) with y | y | y
        · exact S.Le y.symm
        · exact h1.2 y.symm
        · exact h2.2 y.symm
      obtain ⟨o', y⟩ := rel.there en _ hen nap
      exact ⟨o', up _ _ y⟩
    · have fo : FpOk X pins H b := by
        rcases (show b = en ∨ b = L ∨ b = e ∨ b = ii by simpa using hb) with y | y | y | y <;> rw [y]
        · exact hf3 en (by simp)
        · exact hf3 L (by simp)
        · exact (hq e (by simp)).1
        · exact (hq ii (by simp)).1
      exact ⟨fo.2.2.2.1, fo.2.1, fo.2.2.2.2.1, fo.2.2.2.2.2⟩

/-! ### the generator is made, and enumerate of it -/
theorem gets_gen (a : Addr) (g : Nat) : Gets (.ref a) (.ref a) id (fun s => s.heap.IsGen a g) where
  iter := fun prog w A E s Q hp h => wpAny_pyIter_gen hp h
structure GenBorn (X : Cx) (f : Addr) (cd : Value) (c L a : Addr) (g : Nat) (n : Nat) (s : Shared) : Prop where
  isg : s.heap.IsGen a g
  fr : ∃ m, s.heap.Ns L m ∧ m "corners" = some (.ref c)
  gen : s.gens[g]? = some (.fresh (.func (defBody (topS 26)) (tEnv f cd L)))
  nL : n ≤ L
  La : L < a
theorem gen_made {e : Expr} {te : TE} {p pos : Pos} {fd : FuncData} (F : FunD X.K "triples" "triples" (defArgs (topS 26)) (defBody (topS 26)) (defScope (topS 26)) [] [] f fd) (hmg : X.mg "triples" = some (.ref f)) (hg : Gl X "triples") (hroom : Room 1 X.A) (he : PE X e te)
    (hst : starEach [e] X.env = [(false, eval e X.env)]) (I : Inv X pins σ H s) {Q : Addr → Hp → Prop} (h : te σ H fun v H1 => ∃ c, [v] = [V.ref c] ∧ Q c H1) :
    wpAny (model X.prog X.w) X.A (eval (.Call (.Name "triples" p) [e] [] pos) X.env) (fun u s1 => ∃ (c L a : Addr) (g : Nat) (cd : Value) (H1 : Hp) (s0 : Shared), u = .ref a ∧ Inv X pins σ H1 s0 ∧ Inv X pins σ H1 s1 ∧ GenBorn X f cd c L a g s0.heap.objs.size s1 ∧ Q c H1) X.xe s := by
  refine wpAny_Call_Name_kw (ld_glob I hg hmg ?_)
  refine PySem.W.callWith_K (h₀ := X.base) I.ok.mod.kin F.kp (thn ((pa_cons he pa_nil hst).run pos pins s σ H (fun vs H1 => ∃ c, vs = [.ref c] ∧ Q c H1) I ?_) fun us s1 ⟨vs, H1, I1, r, q⟩ => ⟨I1.kIn, ?_⟩) hst rfl
  · exact h
  obtain ⟨c, rfl, q⟩ := q
  obtain rfl : us = [.ref c] := by
    cases r with
    | cons r rr =>
      cases rr
      have r' : _ = Value.ref c := r
      rw [r']
  have hb : Binds X.K fd ["corners"] [] := F.bindsN fun _ _ _ _ _ _ us hl => match us, hl with | [_], _ => rfl
  have hb2 := hb s1 [.ref c] I1.kIn rfl
  obtain ⟨oc, od, dV, kV, doc, pm, an, cdv, ct, osl, rfl, lk, hcd, _, _⟩ := F.ex
  refine wpAny_call ?_
  refine codeAny_call_generator hroom.depth (I1.kIn _ _ lk) rfl sc26.co sc26.gen rfl (PySem.W.codeRec_of I1.kIn hcd) (hb2 _ _ _ _ ?_)
  refine wpAny_newFunctionEnv_cells sc26.kind (fun y hy => ?_) fun env hev s2 x => ?_
  · have y1 : y = (("corners" : Str), Value.ref c) := by simpa using hy
    rw [y1]
    exact .inl rfl
  subst hev
  have lim2 : s2.heap.NoLimit := I1.nolimit.keeps x.toInCall.keep
  refine ⟨lim2, ?_⟩
  obtain ⟨h2, tk, es2, hk2⟩ := x.done
  have kp2 : ∀ b o, s1.heap.get? b = some o → s2.heap.get? b = some o := x.toInCall.keep
  have I2 : ∀ (go : Obj) (tk2 : Nat), Inv X pins σ H1 { s2 with gens := s2.gens.push (.fresh (.func (defBody (topS 26)) (tEnv f cdv s1.heap.objs.size))), toks := tk2, heap := s2.heap.push go } := fun go tk2 => by
    refine I1.call' (ch := []) (by rw [es2]) (Un.kept fun b o y => Heap.get?_push_of_some _ (kp2 b o y)) (I1.hok.kept fun b o y => Heap.get?_push_of_some _ (kp2 b o y)) ?_ fun b z => by simp at z
    exact AllBare.push (by rw [es2]; exact I1.bare) rfl
  refine ⟨c, s1.heap.objs.size, s2.heap.objs.size, s2.gens.size, cdv, H1, s1, rfl, I1, I2 _ _, ⟨⟨_, _, _, Heap.get?_push_size _ rfl, rfl, rfl, rfl⟩, ?_, Array.getElem?_push_size .., Nat.le_refl _, x.toInCall.ns.lt⟩, q⟩
  refine ⟨_, ns_kept x.toInCall.ns fun o y => Heap.get?_push_of_some _ y, ?_⟩
  exact bindL_get (i := 0) (P := ["corners"]) (vs := [.ref c]) (by decide) rfl rfl rfl

/-! ### the loop -/
/-- what leaves the code may leave it where some sleep, too -/
def Lulls (X : Cx) : Prop := ∀ (G : Array GenState) (u : Value) (s' : Shared), Good G s'.gens → (∀ x ∈ G, x.bare = true) → X.xe u s' → X.xe u (un G s')
theorem un_bareG {G : Array GenState} {s : Shared} (h0 : ∀ x ∈ G, x.bare = true) (h : AllBare s.gens) : AllBare (un G s).gens := un_bare (s0 := { s with gens := G }) h0 h
theorem invGens {s' : Shared} (I : Inv X pins σ H s) (h : s'.heap = s.heap) (ho : s'.os = s.os) (hb : AllBare s'.gens) : Inv X pins σ H s' := by
  obtain ⟨h1, g1, d1, t1, o1⟩ := s'
  cases h
  cases ho
  exact ⟨I.ok, I.os, hb, I.base, I.loc, I.cell, I.free, I.freeC, I.pin, I.hok, I.len⟩
def tForTri (te : TE) (g : TG) (tb : TS) : TS := fun D σ H => te σ H fun v H1 => ∃ c, [v] = [V.ref c] ∧ ∃ (tp : Bool) (xs : List V) (Pv : Nat → L2.St → Hp → Prop), Pv 0 σ H1 ∧ (∀ i σ H, i ≤ xs.length → Pv i σ H → H c = some (boxU tp xs)) ∧
  (∀ i σ H T1 T2, i < xs.length → Pv i σ H → H T1 = none → H T2 = none → T1 ≠ T2 → g (.ref T1) σ (upd (upd H T2 (.tup (tripV xs i))) T1 (.tup [.int (i : Nat), .ref T2])) fun σ2 H2 => tb { D with nx := Pv (i + 1), ct := Pv (i + 1), bk := D.nx } σ2 H2) ∧
  (∀ σ H, Pv xs.length σ H → D.nx σ H)
theorem ps_forTri {e : Expr} {te : TE} {p1 p2 pos1 pos2 pos tpos : Pos} {elts : List Expr} {kk : Nat} {body : List Stmt} {tg : TG} {tb : TS} (hp : PassesOwn (model X.prog X.w) X.A X.env X.xe) (hcalm : X.calm = true) (hl : Lulls X) (Fr : Free X.mg) (D : Df X.K X.mg "triples" 26) (hroom : Room 1 X.A)
    (hge : Gl X "enumerate") (hgt : Gl X "triples") (he : PE X e te) (hst : starEach [e] X.env = [(false, eval e X.env)]) (hst2 : starEach [.Call (.Name "triples" p2) [e] [] pos2] X.env = [(false, eval (.Call (.Name "triples" p2) [e] [] pos2) X.env)])
    (hg : PG X (.Tuple elts kk tpos) tg) (hb : PSs X body tb) (hs : ∀ x, foldedSetIterable (.Call (.Name "enumerate" p1) [.Call (.Name "triples" p2) [e] [] pos2] [] pos1) X.env x = pure x) :
    PS X (.For (.Tuple elts kk tpos) (.Call (.Name "enumerate" p1) [.Call (.Name "triples" p2) [e] [] pos2] [] pos1) body [] pos) (tForTri te tg tb) := by
  refine ⟨fun pins s σ H D' I h => ?_⟩
  obtain ⟨f, fd, F, hmg⟩ := D
  have key : wpAny (model X.prog X.w) X.A (eval (.Call (.Name "enumerate" p1) [.Call (.Name "triples" p2) [e] [] pos2] [] pos1) X.env) (fun v s1 => wpAny (model X.prog X.w) X.A (pyIter v) (fun itv s2 =>
      ∃ (c L a en : Addr) (g : Nat) (cd : Value) (H1 : Hp), itv = .ref en ∧ Stc X L c a en ∧ Inv X pins σ H1 s2 ∧ (∀ b ∈ [a, en, L], FpOk X pins H1 b) ∧ (∀ tp xs, Tn X f cd L c tp xs a g en 0 [a, en, L] s2) ∧ (∃ (tp : Bool) (xs : List V) (Pv : Nat → L2.St → Hp → Prop), Pv 0 σ H1 ∧ (∀ i σ H, i ≤ xs.length → Pv i σ H → H c = some (boxU tp xs)) ∧
  (∀ i σ H T1 T2, i < xs.length → Pv i σ H → H T1 = none → H T2 = none → T1 ≠ T2 → tg (.ref T1) σ (upd (upd H T2 (.tup (tripV xs i))) T1 (.tup [.int (i : Nat), .ref T2])) fun σ2 H2 => tb { D' with nx := Pv (i + 1), ct := Pv (i + 1), bk := D'.nx } σ2 H2) ∧
  (∀ σ H, Pv xs.length σ H → D'.nx σ H))) X.xe s1) X.xe s := by
    refine Call_ (ld_blt I hge Fr.enumerate boot_enumerate (PyProof.Rows.callWith_type1 (e := .Call (.Name "triples" p2) [e] [] pos2) (rest := []) ?_ hst2 rfl))
    rw [hst2]
    refine Calls.spliced_cons (thn (gen_made F hmg hgt hroom he hst I (Q := fun c H1 => ∃ (tp : Bool) (xs : List V) (Pv : Nat → L2.St → Hp → Prop), Pv 0 σ H1 ∧ (∀ i σ H, i ≤ xs.length → Pv i σ H → H c = some (boxU tp xs)) ∧
      (∀ i σ H T1 T2, i < xs.length → Pv i σ H → H T1 = none → H T2 = none → T1 ≠ T2 → tg (.ref T1) σ (upd (upd H T2 (.tup (tripV xs i))) T1 (.tup [.int (i : Nat), .ref T2])) fun σ2 H2 => tb { D' with nx := Pv (i + 1), ct := Pv (i + 1), bk := D'.nx } σ2 H2) ∧
      (∀ σ H, Pv xs.length σ H → D'.nx σ H)) ?_) fun u s1 hu => ?_)
    · exact h
    · obtain ⟨c, L, a, g, cd, H1, s0, rfl, I0, I1, B, R⟩ := hu
      refine Calls.spliced_nil ?_
      refine call_enum1 (gets_gen a g) B.isg ?_
      have he : IsEnum (s1.heap.push (enumObj (.ref a))) s1.heap.objs.size a ((0 : Nat) : Int) .none := Heap.get?_push_size s1.heap (o := enumObj (.ref a)) rfl
      have alive : a < s1.heap.objs.size := by
        obtain ⟨o, _, _, q, _⟩ := B.isg
        exact Heap.lt_size q
      have liveL : L < s1.heap.objs.size := by
        obtain ⟨m, q, _⟩ := B.fr
        exact q.lt
      refine wpAny_pyIter_enum he ?_
      refine ⟨c, L, a, s1.heap.objs.size, g, cd, H1, rfl, ⟨Nat.le_trans (Nat.le_trans I0.ok.bsz I0.sz) B.nL, fun b hb => ?_, ?_, Nat.ne_of_lt B.La, Nat.ne_of_lt liveL, Nat.ne_of_lt alive⟩, I1.kept (t' := s1.toks) (fun b o y => Heap.get?_push_of_some _ y), fun b hb => ?_, fun tp xs => ⟨?_, ⟨_, he⟩, ?_, _, B.gen, .inl rfl, .inl ⟨rfl, rfl, rfl⟩⟩, R⟩
      · refine Nat.lt_of_not_le fun z => ?_
        rcases List.mem_cons.mp (I0.stkSub b hb) with y | y
        · have q := I0.lt
          rw [← y] at q
          exact Nat.lt_irrefl _ (Nat.lt_of_lt_of_le q (Nat.le_trans B.nL z))
        · exact I0.nofs (Nat.le_trans B.nL z) y
      · obtain ⟨tp, xs, Pv, p0, hcn, _⟩ := R
        exact Nat.lt_of_lt_of_le (I0.hok.lt (hcn 0 σ H1 (Nat.zero_le _) p0)) B.nL
      · rcases (show b = a ∨ b = s1.heap.objs.size ∨ b = L by simpa using hb) with z | z | z <;> rw [z]
        · exact I0.fpOk (Nat.le_of_lt (Nat.lt_of_le_of_lt B.nL B.La)) (I0.hok.fresh (Nat.le_of_lt (Nat.lt_of_le_of_lt B.nL B.La)))
        · exact I1.fpOk (Nat.le_refl _) (I1.hok.fresh (Nat.le_refl _))
        · exact I0.fpOk B.nL (I0.hok.fresh B.nL)
      · exact gen_kept B.isg fun o y => Heap.get?_push_of_some _ y
      · obtain ⟨m, q, r⟩ := B.fr
        exact ⟨m, ns_kept q fun o y => Heap.get?_push_of_some _ y, r⟩
  refine wpAny_For (thn key fun v s1 h1 => thn h1 fun itv s2 h2 => ?_) hs
  obtain ⟨c, L, a, en, g, cd, H1, rfl, S, I2, f2, t2, tp, xs, Pv, p0, hcn, step, fin⟩ := h2
  refine codeAny_forLoop_any (fun n s' => ∃ i fp σ' H', n = xs.length - i ∧ i ≤ xs.length ∧ Inv X pins σ' H' s' ∧ Tn X f cd L c tp xs a g en i fp s' ∧ (∀ b ∈ fp, FpOk X pins H' b) ∧ Pv i σ' H') ?_ (xs.length - 0) ⟨0, _, σ, H1, rfl, Nat.zero_le _, I2, t2 tp xs, f2, p0⟩
  rintro n s3 ⟨i, fp, σ3, H3, rfl, hi, I3, t3, f3, p3⟩
  rcases Nat.lt_or_ge i xs.length with hlt | hge
  · refine wpAny_passesOwn hp (thn (tri_item (elts := elts) (kk := kk) (tpos := tpos) S Fr hcalm hroom.depth I3 (hcn i σ3 H3 hi p3) t3 f3 hlt) fun r s4 h4 => ?_)
    obtain ⟨T1, T2, rfl, h4⟩ := h4
    refine wpAny_passesOwn hp (thn h4 fun _ s5 h5 => ?_)
    obtain ⟨n1, n2, n12, I5, fp5, t5, f5⟩ := h5
    have I5' := I5.pinned f5 t5.obj
    have hgen : ∃ gs, s5.gens[g]? = some gs ∧ asleep gs = true := let ⟨gs, q1, q2, _⟩ := t5.st; ⟨gs, q1, q2.resolve_left (Nat.succ_ne_zero i)⟩
    have Il : Inv X (pins ++ pinsAt fp5 s5.heap) σ3 (upd (upd H3 T2 (.tup (tripV xs i))) T1 (.tup [.int (i : Nat), .ref T2])) (lull s5) := invGens I5' rfl rfl (lull_bare I5.bare)
    have q6 := wpAny_asleep (hg.run _ (lull s5) σ3 _ (.ref T1) (.ref T1) _ Il rfl (step i σ3 H3 T1 T2 hlt p3 n1 n2 n12))
    refine wpAny_passesOwn hp (wpAny_mono q6 (fun _ s6 h6 => ?_) fun u s6 ⟨s1, es, _, _, gd, hx⟩ => by rw [es]; exact hl _ _ _ gd I5.bare hx)
    obtain ⟨s6', rfl, kept6, bare6, good6, σ6, H6, I6, q6⟩ := h6
    have I6' : Inv X (pins ++ pinsAt fp5 s5.heap) σ6 H6 (un s5.gens s6') := invGens I6 rfl rfl (bare6 I5.bare I6.bare)
    have q7 := wpAny_asleep (hb.run _ (lull (un s5.gens s6')) σ6 H6 _ (invGens I6' rfl rfl (lull_bare I6'.bare)) q6)
    refine wpAny_passesOwn hp (wpAny_mono q7 (fun fl s7 h7 => ?_) fun u s7 ⟨s1, es, _, _, gd, hx⟩ => by rw [es]; exact hl _ _ _ gd I6'.bare hx)
    obtain ⟨s7', rfl, kept7, bare7, good7, q7⟩ := h7
    have again : ∀ {σ7 : L2.St} {H7 : Hp}, Inv X (pins ++ pinsAt fp5 s5.heap) σ7 H7 s7' → Pv (i + 1) σ7 H7 → ∃ m, m < xs.length - i ∧ ∃ i fp σ' H', m = xs.length - i ∧ i ≤ xs.length ∧ Inv X pins σ' H' (un (un s5.gens s6').gens s7') ∧ Tn X f cd L c tp xs a g en i fp (un (un s5.gens s6').gens s7') ∧ (∀ b ∈ fp, FpOk X pins H' b) ∧ Pv i σ' H' := fun {σ7 H7} I7 n7 => by
      have I7' : Inv X (pins ++ pinsAt fp5 s5.heap) σ7 H7 (un (un s5.gens s6').gens s7') := invGens I7 rfl rfl (bare7 I6'.bare I7.bare)
      refine ⟨xs.length - (i + 1), by omega, i + 1, fp5, σ7, H7, rfl, hlt, I7'.unpinned, t5.keep (Nat.succ_ne_zero i) (fun b hb o y => ?_) (fun x y1 y2 => kept7 g x (kept6 g x y1 y2) y2), fun b hb => ⟨?_, (f5 b hb).2⟩, n7⟩
      · exact (I7'.pin (b, o) (List.mem_append_right _ (List.mem_append_right _ (mem_pinsAt hb y)))).1
      · obtain ⟨o, y, d⟩ := t5.obj b hb
        exact (I7'.pin (b, o) (List.mem_append_right _ (List.mem_append_right _ (mem_pinsAt hb y)))).2.1
    cases fl with
    | next => obtain ⟨σ7, H7, I7, n7⟩ := q7; exact again I7 n7
    | cont => obtain ⟨σ7, H7, I7, n7⟩ := q7; exact again I7 n7
    | brk =>
      obtain ⟨σ7, H7, I7, q7⟩ := q7
      have I7' : Inv X (pins ++ pinsAt fp5 s5.heap) σ7 H7 (un (un s5.gens s6').gens s7') := invGens I7 rfl rfl (bare7 I6'.bare I7.bare)
      exact ⟨σ7, H7, I7'.unpinned, q7⟩
    | ret v =>
      obtain ⟨x7, σ7, H7, I7, r7, q7⟩ := q7
      have I7' : Inv X (pins ++ pinsAt fp5 s5.heap) σ7 H7 (un (un s5.gens s6').gens s7') := invGens I7 rfl rfl (bare7 I6'.bare I7.bare)
      exact ⟨x7, σ7, H7, I7'.unpinned, r7, q7⟩
  · obtain rfl : i = xs.length := by omega
    refine wpAny_passesOwn hp (thn (tri_done S Fr hcalm hroom.depth I3 (hcn _ σ3 H3 hi p3) t3 f3) fun r s4 h4 => ?_)
    obtain ⟨rfl, I4⟩ := h4
    exact wpAny_execs_nil ⟨σ3, H3, I4, fin σ3 H3 p3⟩
end
end K82
set_option Elab.async false
set_option linter.all false
set_option maxRecDepth 100000
set_option maxHeartbeats 400000
namespace K82
open PySem PySem.Spec PyProof.Rows L2 GenW K82G
/-- what a def lets out does not look at the generators -/
def LullC (CX : CXT) : Prop := ∀ (outer : List Env) (H : Hp) (s : Shared) (E : XK) (G : Array GenState) (u : Value) (s' : Shared), (∀ x ∈ G, x.bare = true) → CX outer H s E u s' → CX outer H s E u (un G s')
theorem lull_0 : LullC CX0 := fun _ _ _ _ _ _ _ _ h => h.elim
theorem lull_x {P : Program} {w : World} : LullC (L2.CX P w) := fun outer H s E G u s' hG h => by
  obtain ⟨a, B, H', cls, d, e, fl, hok, ub, na, os, ag, hE⟩ := h
  exact ⟨a, B, H', cls, d, e, fl, hok, ub, na, os, un_bareG hG ag, hE⟩
theorem lull_n {P : Program} {w : World} : LullC (L2N.CX P w) := fun outer H s E G u s' hG h => by
  obtain ⟨a, B, H', cls, d, e, fl, hok, ub, na, os, ag, hE⟩ := h
  exact ⟨a, B, H', cls, d, e, fl, hok, ub, na, os, un_bareG hG ag, hE⟩
theorem lulls {CX : CXT} (L : LullC CX) {P : Program} {w : World} {K : PySem.W.Frag} {mg : Str → Option Value} {base : Heap} {N : List Str} {qual : Str} {scope : Scope} {f : Addr} {cd : Value} {A : Around} {outer : List Env} {s : Shared} {H : Hp} {E : XK} :
    Lulls (cxOf CX P w K mg base N qual scope f cd A outer s H E) := fun G u s' good hG h Γ p hΓ => by
  have q := wp_sim (G := G) _ Γ _ _ _ p s' good (h Γ p hΓ)
  exact Sem.wp_mono _ Γ _ (fun _ _ s'' ⟨s1, e, _, hx⟩ => by rw [e]; exact L _ _ _ _ _ _ _ hG hx) (fun e' _ s'' ⟨s1, e, _, hx⟩ => by rw [e]; exact L _ _ _ _ _ _ _ hG hx) p _ q
end K82
set_option Elab.async false
set_option linter.all false
set_option maxRecDepth 100000
set_option maxHeartbeats 400000
namespace K82
open PySem PySem.Spec PyProof.Rows L2 GenW K82G
/-! ### the classes -/
structure Cl where
  ip : Addr
  dc : Addr
  ce : Addr
  im : Addr
  it : Addr
  se : Addr
  gm : Addr
  pg : Addr
  cp : Addr
  nc : Addr
/-- the library's own errors -/
def Shp (A : Cl) (cls : Value) : Prop := cls = .ref A.ip ∨ cls = .ref A.dc ∨ cls = .ref A.ce ∨ cls = .ref A.im ∨ cls = .ref A.nc
/-- a class of exceptions whose __init__ keeps sp -/
structure Oe (P : Program) (w : World) (K : PySem.W.Frag) (mg : Str → Option Value) (base : Heap) (x : Str) (C : Addr) (sp : Sp) : Prop where
  oex : OexC K C
  nm : mg x = some (.ref C)
  ex : ∃ (fI : Addr) (fd : FuncData) (ps : List Str), PySem.W.findIn K (.ref C) "__init__" = some (some (.ref fI)) ∧ PySem.W.typeIn K (.ref fI) = some (.type "function") ∧ FnOk P w K mg base CX0 1 fI fd ps sp ∧ Binds K fd ps []
section
variable {X : Cx} {e : Expr} {es : List Expr} {ta : TA} {p pos : Pos} {x : Str} {C : Addr} {sp : Sp}
/-- C(e, ..), its context None -/
theorem pmk_oe (O : Oe X.prog X.w X.K X.mg X.base x C sp) (room : Room 2 X.A) (hg : Gl X x) (ha : PA X (e :: es) ta)
    (hdb : (x == ("__debug__" : Str)) = false := by decide) (he : starEach (e :: es) X.env = (false, eval e X.env) :: starEach es X.env := by rfl) (hpl : (backTo pos (starEach es X.env)).any (·.1) = false := by rfl) :
    L2N.PMk X (.Call (.Name x p) (e :: es) [] pos) (tMkO C sp [] ta) := by
  obtain ⟨fI, fd, ps, iC, tI, F1, hb⟩ := O.ex
  intro pins s σ H Q I h
  obtain ⟨nm, q, N, bs, bm, sn, sub, ab, col, dd, k0, k1, k2, k3, k5, hC, hbm⟩ := O.oex.cls
  refine wpAny_Call_Name_kw (ld_glob I hg O.nm ?_ hdb)
  refine PySem.W.callWith_K (h₀ := X.base) I.ok.mod.kin O.oex.kC (thn (ha.run pos pins s σ H _ I h) fun us s1 ⟨vs, H1, I1, r1, hz, q1⟩ => ⟨I1.kIn, ?_⟩) he hpl
  obtain ⟨hp, g, dr, tk, os⟩ := s1
  obtain ⟨a, ha'⟩ : ∃ a, a = hp.objs.size + 1 := ⟨_, rfl⟩
  have hsz : hp.objs.size ≤ a := by omega
  have hn : H1 a = none := I1.hok.fresh hsz
  have hq := q1 a hn
  rw [List.append_nil] at hq
  obtain ⟨hp2, e2⟩ : ∃ hp2, hp2 = (hp.push (PySem.W.kdv_tup us)).push (PySem.HandSPX.excO C hp.objs.size) := ⟨_, rfl⟩
  have kk : ∀ b o, hp.get? b = some o → hp2.get? b = some o := fun b o z => by rw [e2]; exact Heap.get?_push_of_some _ (Heap.get?_push_of_some _ z)
  have hget : hp2.get? a = some (PySem.HandSPX.excO C hp.objs.size) := by rw [e2, ha']; heap_get
  have I2 : Inv X pins σ (upd H1 a (exo a C none)) ⟨hp2, g, dr, tk, os⟩ := I1.laid (t' := tk) kk hsz (exo_ok hget)
  have r2 : Vals (V.ref a :: vs) (Value.ref a :: us) := .cons rfl r1
  have hl : (Value.ref a :: us ++ []).length = ps.length := by
    have z := r2.length
    rw [F1.len _ _ _ _ hq] at z
    rw [List.append_nil]
    exact z.symm
  have hus : us.length ≤ sizeLine := by
    rw [← Paired.length r1, sizeLine_eq]
    omega
  have b2 := hb _ (Value.ref a :: us) I2.kIn hl
  rw [List.append_nil] at b2
  subst e2
  refine wpAny_call (PySem.HandSPX.call_own F.excBase_ValueError (fun Y => PySem.HandSPX.refsVE_contains Y bm hbm) (I1.kIn _ _ hC) (PySem.W.looks_findIn I1.kIn iC) (fun self => PySem.W.bind_fn I1.kIn self tI) hus ?_)
  rw [← ha']
  refine codeAny_mono (F1.run _ X.stack _ _ ⟨Value.ref a :: us, []⟩ _ _ _ (fun _ _ _ => False) (room.make C us []) (I2.env0.make C us []) b2 r2 hq) fun r s' hq' => ?_
  cases r with
  | error er => exact False.elim hq'
  | ok fl =>
    cases fl with
    | ret u =>
      obtain ⟨v, H2, os2, bare2, un2, hok2, rv, ev, d, fs, ea, ed, hd1, q2⟩ := hq'
      subst ev
      obtain ⟨h2, g2, d2, t2, os'⟩ := s'
      obtain ⟨t0, G, J, kG, ge, hoe, na⟩ := mk_end0 (d2 := d2) (t2 := t2) I1 hsz kk un2 hok2 os2 bare2 ea ed hd1
      exact ⟨rv, a, _, _, ⟨G, g2, d2, t2, os'⟩, _, .ref C, some d, rfl, J, kG, ge, hoe, ⟨rfl, rfl, fun vs hv => by cases hv; rfl⟩, rfl, rfl, na, rfl, bare2, raises_own O.oex.exC O.oex.tyC, q2⟩
    | next => exact False.elim hq'
    | brk => exact False.elim hq'
    | cont => exact False.elim hq'
end
/-- one field, two fields -/
def spX1 (C : Addr) : Sp := fun vs H Q _ => ∃ (a : Addr) (y : V), vs = [.ref a, y] ∧ H a = some (exo a C none) ∧ ∀ d fs, H d = none → d ≠ a → Q .non (upd (upd H d (exd d fs)) a (exo a C (some d)))
def spX2 (C : Addr) : Sp := fun vs H Q _ => ∃ (a : Addr) (y z : V), vs = [.ref a, y, z] ∧ H a = some (exo a C none) ∧ ∀ d fs gs, H d = none → d ≠ a → Q .non (upd (upd (upd H d (exd d fs)) a (exo a C (some d))) d (exd d gs))
section
variable {P : Program} {w : World} {K : PySem.W.Frag} {mg : Str → Option Value} {base : Heap}
/-- the rest of a class's facts, its __init__ a def of the class's body -/
structure OeT (K : PySem.W.Frag) (mg : Str → Option Value) (x qual : Str) (i : Nat) (C : Addr) (fls : List Str) : Prop where
  oex : OexC K C
  nm : mg x = some (.ref C)
  no : ∀ f ∈ fls, PySem.W.findIn K (.ref C) f = some none
  ex : ∃ (fI : Addr) (fd : FuncData), FunD K "__init__" qual (defArgs (inClass (topS i) 0)) (defBody (inClass (topS i) 0)) (defScope (inClass (topS i) 0)) [] [] fI fd ∧ PySem.W.findIn K (.ref C) "__init__" = some (some (.ref fI)) ∧ PySem.W.typeIn K (.ref fI) = some (.type "function")
theorem sx_ip : FnScope ["self", "position"] ["self", "position"] (defScope (inClass (topS 6) 0)) := ⟨rfl, rfl, rfl, by decide +kernel, rfl, by decide +kernel, by decide +kernel⟩
theorem oe_ip {C : Addr} (T : OeT K mg "InvalidPolygon" "InvalidPolygon.__init__" 6 C ["position"]) : Oe P w K mg base "InvalidPolygon" C (spX1 C) := by
  obtain ⟨fI, fd, F, iC, tI⟩ := T.ex
  refine ⟨T.oex, T.nm, fI, fd, ["self", "position"], iC, tI, F.ok sx_ip (fun vs H Q E h => ?_) fun cdv A outer s H vs Q E hr h => ?_, F.bindsN fun _ _ _ _ _ _ us hl => match us, hl with | [_, _], _ => rfl⟩
  · obtain ⟨a, y, rfl, _⟩ := h
    rfl
  · obtain ⟨a, y, rfl, ha, q⟩ := h
    refine ⟨_, pss_one (ps_ost (pv 0) (pv 1)), ?_⟩
    exact ⟨y, rfl, _, rfl, a, C, rfl, T.oex, T.no _ (by simp), .inl ⟨ha, fun dx n ne => q dx _ n ne⟩⟩
theorem sx_dc : FnScope ["self", "position"] ["self", "position"] (defScope (inClass (topS 7) 0)) := ⟨rfl, rfl, rfl, by decide +kernel, rfl, by decide +kernel, by decide +kernel⟩
theorem oe_dc {C : Addr} (T : OeT K mg "DegenerateCorner" "DegenerateCorner.__init__" 7 C ["position"]) : Oe P w K mg base "DegenerateCorner" C (spX1 C) := by
  obtain ⟨fI, fd, F, iC, tI⟩ := T.ex
  refine ⟨T.oex, T.nm, fI, fd, ["self", "position"], iC, tI, F.ok sx_dc (fun vs H Q E h => ?_) fun cdv A outer s H vs Q E hr h => ?_, F.bindsN fun _ _ _ _ _ _ us hl => match us, hl with | [_, _], _ => rfl⟩
  · obtain ⟨a, y, rfl, _⟩ := h
    rfl
  · obtain ⟨a, y, rfl, ha, q⟩ := h
    refine ⟨_, pss_one (ps_ost (pv 0) (pv 1)), ?_⟩
    exact ⟨y, rfl, _, rfl, a, C, rfl, T.oex, T.no _ (by simp), .inl ⟨ha, fun dx n ne => q dx _ n ne⟩⟩
theorem sx_nc : FnScope ["self", "position"] ["self", "position"] (defScope (inClass (topS 9) 0)) := ⟨rfl, rfl, rfl, by decide +kernel, rfl, by decide +kernel, by decide +kernel⟩
theorem oe_nc {C : Addr} (T : OeT K mg "NotConvex" "NotConvex.__init__" 9 C ["position"]) : Oe P w K mg base "NotConvex" C (spX1 C) := by
  obtain ⟨fI, fd, F, iC, tI⟩ := T.ex
  refine ⟨T.oex, T.nm, fI, fd, ["self", "position"], iC, tI, F.ok sx_nc (fun vs H Q E h => ?_) fun cdv A outer s H vs Q E hr h => ?_, F.bindsN fun _ _ _ _ _ _ us hl => match us, hl with | [_, _], _ => rfl⟩
  · obtain ⟨a, y, rfl, _⟩ := h
    rfl
  · obtain ⟨a, y, rfl, ha, q⟩ := h
    refine ⟨_, pss_one (ps_ost (pv 0) (pv 1)), ?_⟩
    exact ⟨y, rfl, _, rfl, a, C, rfl, T.oex, T.no _ (by simp), .inl ⟨ha, fun dx n ne => q dx _ n ne⟩⟩
theorem sx_it : FnScope ["self", "part"] ["self", "part"] (defScope (inClass (topS 10) 0)) := ⟨rfl, rfl, rfl, by decide +kernel, rfl, by decide +kernel, by decide +kernel⟩
theorem oe_it {C : Addr} (T : OeT K mg "InvalidText" "InvalidText.__init__" 10 C ["part"]) : Oe P w K mg base "InvalidText" C (spX1 C) := by
  obtain ⟨fI, fd, F, iC, tI⟩ := T.ex
  refine ⟨T.oex, T.nm, fI, fd, ["self", "part"], iC, tI, F.ok sx_it (fun vs H Q E h => ?_) fun cdv A outer s H vs Q E hr h => ?_, F.bindsN fun _ _ _ _ _ _ us hl => match us, hl with | [_, _], _ => rfl⟩
  · obtain ⟨a, y, rfl, _⟩ := h
    rfl
  · obtain ⟨a, y, rfl, ha, q⟩ := h
    refine ⟨_, pss_one (ps_ost (pv 0) (pv 1)), ?_⟩
    exact ⟨y, rfl, _, rfl, a, C, rfl, T.oex, T.no _ (by simp), .inl ⟨ha, fun dx n ne => q dx _ n ne⟩⟩
theorem sx_ce : FnScope ["self", "first", "second"] ["self", "first", "second"] (defScope (inClass (topS 8) 0)) := ⟨rfl, rfl, rfl, by decide +kernel, rfl, by decide +kernel, by decide +kernel⟩
theorem oe_ce {C : Addr} (T : OeT K mg "CrossingEdges" "CrossingEdges.__init__" 8 C ["first", "second"]) : Oe P w K mg base "CrossingEdges" C (spX2 C) := by
  obtain ⟨fI, fd, F, iC, tI⟩ := T.ex
  refine ⟨T.oex, T.nm, fI, fd, ["self", "first", "second"], iC, tI, F.ok sx_ce (fun vs H Q E h => ?_) fun cdv A outer s H vs Q E hr h => ?_, F.bindsN fun _ _ _ _ _ _ us hl => match us, hl with | [_, _, _], _ => rfl⟩
  · obtain ⟨a, y, z, rfl, _⟩ := h
    rfl
  · obtain ⟨a, y, z, rfl, ha, q⟩ := h
    refine ⟨_, pss_cons (ps_ost (pv 0) (pv 1)) (pss_one (ps_ost (pv 0) (pv 2))), ?_⟩
    refine ⟨y, rfl, _, rfl, a, C, rfl, T.oex, T.no _ (by simp), .inl ⟨ha, fun dx n ne => ?_⟩⟩
    refine ⟨z, rfl, _, rfl, a, C, rfl, T.oex, T.no _ (by simp), .inr ⟨dx, _, upd_same, (upd_ne ne).trans upd_same, by show (1 : Nat) ≤ 900; decide, ?_⟩⟩
    exact q dx _ _ n ne
/-- what the reading of C(y) asks, where every outcome will do -/
theorem mk1 {H1 : Hp} {C : Addr} {Q : XK} {y : V} (h : ∀ d H', Same H1 H' → Q (.ref C) d H') : [y].length ≤ 1000 ∧ ∀ a, H1 a = none → spX1 C (.ref a :: ([y] ++ [])) (upd H1 a (exo a C none))
    (fun v H2 => v = .non ∧ ∃ (d : Addr) (fs : List (Str × V)), H2 a = some (exo a C (some d)) ∧ H2 d = some (exd d fs) ∧ H1 d = none ∧ Q (.ref C) (some d) (upd (del H2 a) d (.xd fs))) (fun _ _ _ => False) := by
  refine ⟨by show (1 : Nat) ≤ 1000; decide, fun a ha => ⟨a, y, rfl, upd_same, fun d fs hd ne => ⟨rfl, d, fs, upd_same, (upd_ne ne).trans upd_same, (upd_ne ne).symm.trans hd, h _ _ fun b u e => ?_⟩⟩⟩
  have hd1 : H1 d = none := (upd_ne ne).symm.trans hd
  have n1 : b ≠ a := ne_of_none e ha
  have n2 : b ≠ d := ne_of_none e hd1
  rw [upd_ne n2, del_ne n1, upd_ne n1, upd_ne n2, upd_ne n1]
  exact e
theorem mk2 {H1 : Hp} {C : Addr} {Q : XK} {y z : V} (h : ∀ d H', Same H1 H' → Q (.ref C) d H') : [y, z].length ≤ 1000 ∧ ∀ a, H1 a = none → spX2 C (.ref a :: ([y, z] ++ [])) (upd H1 a (exo a C none))
    (fun v H2 => v = .non ∧ ∃ (d : Addr) (fs : List (Str × V)), H2 a = some (exo a C (some d)) ∧ H2 d = some (exd d fs) ∧ H1 d = none ∧ Q (.ref C) (some d) (upd (del H2 a) d (.xd fs))) (fun _ _ _ => False) := by
  refine ⟨by show (2 : Nat) ≤ 1000; decide, fun a ha => ⟨a, y, z, rfl, upd_same, fun d fs gs hd ne => ⟨rfl, d, gs, (upd_ne (Ne.symm ne)).trans upd_same, upd_same, (upd_ne ne).symm.trans hd, h _ _ fun b u e => ?_⟩⟩⟩
  have hd1 : H1 d = none := (upd_ne ne).symm.trans hd
  have n1 : b ≠ a := ne_of_none e ha
  have n2 : b ≠ d := ne_of_none e hd1
  rw [upd_ne n2, del_ne n1, upd_ne n2, upd_ne n1, upd_ne n2, upd_ne n1]
  exact e
end
end K82
set_option Elab.async false
set_option linter.all false
set_option maxRecDepth 100000
set_option maxHeartbeats 400000
namespace K82
open PySem PySem.Spec PyProof.Rows L2 GenW K82G
/-! ### lists of points -/
structure Pts (H : Hp) (ps : List (Int × Int)) (us : List V) : Prop where
  len : us.length = ps.length
  pt : ∀ i, i < ps.length → PtAt H (ps.getD i (0, 0)) (us.getD i .non)
theorem Pts.same {H H' : Hp} {ps : List (Int × Int)} {us : List V} (h : Pts H ps us) (s : Same H H') : Pts H' ps us := ⟨h.len, fun i hi => (h.pt i hi).same s⟩
def BdL (n : Nat) (ps : List (Int × Int)) : Prop := ∀ p ∈ ps, BdP n p
theorem BdL.at {n : Nat} {ps : List (Int × Int)} (h : BdL n ps) {i : Nat} (hi : i < ps.length) : BdP n (ps.getD i (0, 0)) := by
  rw [List.getD_eq_getElem?_getD, List.getElem?_eq_getElem hi]
  exact h _ (List.getElem_mem hi)
/-- the turn at a corner -/
def turnAt (ps : List (Int × Int)) (i : Nat) : Int := turnI (ps.getD ((i + ps.length - 1) % ps.length) (0, 0)) (ps.getD i (0, 0)) (ps.getD ((i + 1) % ps.length) (0, 0))
def TurnsOk (ps : List (Int × Int)) : Prop := ∀ i, i < ps.length → turnAt ps i ≠ 0
section
variable {P : Program} {w : World} {K : PySem.W.Frag} {mg : Str → Option Value} {base : Heap} {A : Cl}
def spTurns (A : Cl) : Sp := fun vs H Q E => ∃ (c : Addr) (tp : Bool) (ps : List (Int × Int)) (us : List V), vs = [.ref c] ∧ H c = some (boxU tp us) ∧ Pts H ps us ∧ BdL 1100 ps ∧
  (TurnsOk ps → ∀ H', Same H H' → Q .non H') ∧ (¬ TurnsOk ps → ∀ cls d H', Shp A cls → Same H H' → E cls d H')
abbrev N27 : List Str := ["corners", "position", "before", "corner", "after"]
theorem sc27 : FnScope N27 ["corners"] (defScope (topS 27)) := ⟨rfl, rfl, rfl, by decide +kernel, rfl, by decide +kernel, by decide +kernel⟩
theorem ok_check_turns (Fr : Free mg) (D : Df K mg "check_turns" 27) (DT : Df K mg "triples" 26) (cT : Ca P w K mg base CX0 2 "turn_of" spTurn []) (oD : Oe P w K mg base "DegenerateCorner" A.dc (spX1 A.dc)) :
    Ca P w K mg base (L2N.CX P w) 4 "check_turns" (spTurns A) [] := by
  refine ca_of D sc27 (fun vs H Q E h => ?_) (fun _ _ _ _ _ _ us hl => match us, hl with | [_], _ => rfl) (fun f cdv Ar outer s H vs Q E hr h => ?_)
  · obtain ⟨c, tp, ps, us, rfl, _⟩ := h
    rfl
  · obtain ⟨c, tp, ps, us, rfl, hc, hp, hb, ok, ko⟩ := h
    refine ⟨_, pss_one (ps_forTri (X := cxOf (L2N.CX P w) P w K mg base N27 "check_turns" (defScope (topS 27)) f cdv Ar outer s H E) (passes_of rfl) rfl (lulls lull_n) Fr DT (hr.mono (by decide)) (by rfl) (by rfl) (pv 0) (by rfl) (by rfl)
      (pg_tup rfl (pgs_cons (pg_name (i := 1) sc27.nd rfl (Or.inl rfl)) (pgs_cons (pg_tup rfl (pgs_cons (pg_name (i := 2) sc27.nd rfl (Or.inl rfl)) (pgs_cons (pg_name (i := 3) sc27.nd rfl (Or.inl rfl)) (pgs_cons (pg_name (i := 4) sc27.nd rfl (Or.inl rfl)) pgs_nil)))) pgs_nil)))
      (pss_one (ps_if (pt_cmpR op_eq (pe_ca0 cT hr (by decide) (pa_cons (pv 2) (pa_cons (pv 3) (pa_cons (pv 4) pa_nil)))) pe_int (nomark _))
        (pss_one (L2N.ps_raise rfl (L2N.takes_of rfl rfl rfl rfl) (pmk_oe oD (hr.mono (by decide)) (by rfl) (pa_cons (pv 1) pa_nil)))) pss_nil)) (fun _ => rfl)), ?_⟩
    refine ⟨.ref c, rfl, c, rfl, tp, us, fun i σ H' => (∃ a1 a2 a3 a4, σ = [some (.ref c), a1, a2, a3, a4]) ∧ Same H H' ∧ ∀ j, j < i → turnAt ps j ≠ 0, ⟨⟨_, _, _, _, rfl⟩, Same.refl _, fun j hj => absurd hj (Nat.not_lt_zero _)⟩, fun i σ H' hi p => p.2.1 _ _ hc, ?_, ?_⟩
    · rintro i σ H' T1 T2 hi ⟨⟨a1, a2, a3, a4, rfl⟩, s1, t1⟩ n1 n2 ne
      have hi' : i < ps.length := by rw [← hp.len]; exact hi
      have e1 : upd (upd H' T2 (.tup (tripV us i))) T1 (.tup [.int (i : Nat), .ref T2]) T1 = some (.tup [.int (i : Nat), .ref T2]) := upd_same
      have e2 : upd (upd H' T2 (.tup (tripV us i))) T1 (.tup [.int (i : Nat), .ref T2]) T2 = some (.tup (tripV us i)) := (upd_ne (Ne.symm ne)).trans upd_same
      have s2 : Same H' (upd (upd H' T2 (.tup (tripV us i))) T1 (.tup [.int (i : Nat), .ref T2])) := fun b u e => (upd_ne (ne_of_none e n1)).trans ((upd_ne (ne_of_none e n2)).trans e)
      have s3 := s1.trans s2
      refine ⟨T1, _, rfl, SqT.of e1, rfl, _, _, rfl, _, _, rfl, T2, _, rfl, SqT.of e2, rfl, _, _, rfl, _, _, rfl, _, _, rfl, rfl, rfl, ?_⟩
      have q1 : (i + us.length - 1) % us.length < ps.length := by rw [hp.len]; exact Nat.mod_lt _ (by omega)
      have q2 : (i + 1) % us.length < ps.length := by rw [hp.len]; exact Nat.mod_lt _ (by omega)
      refine ⟨_, rfl, _, rfl, _, rfl, _, _, _, _, _, _, rfl, (hp.pt _ q1).same s3, (hp.pt _ hi').same s3, (hp.pt _ q2).same s3, hb.at q1, hb.at hi', hb.at q2, fun H3 s4 => ⟨rfl, _, rfl, ?_⟩⟩
      have et : turnI (ps.getD ((i + us.length - 1) % us.length) (0, 0)) (ps.getD i (0, 0)) (ps.getD ((i + 1) % us.length) (0, 0)) = turnAt ps i := by unfold turnAt; rw [hp.len]
      rw [et, dec_int]
      refine ite2 (fun z => ?_) fun z => ?_
      · refine ⟨_, rfl, mk1 fun d H'' s5 => ?_⟩
        refine ko (fun h0 => h0 i hi' (by simpa using z)) _ _ _ (.inr (.inl rfl)) ((s3.trans s4).trans s5)
      · refine ⟨⟨_, _, _, _, rfl⟩, s3.trans s4, fun j hj => ?_⟩
        rcases Nat.lt_succ_iff_lt_or_eq.mp hj with y | y
        · exact t1 j y
        · rw [y]
          intro y2
          exact z (by simpa using y2)
    · rintro σ H' ⟨_, s1, t1⟩
      exact ok (fun j hj => t1 j (by rw [hp.len]; exact hj)) H' s1

/-! ### first_reflex -/
def reflexI (ps : List (Int × Int)) : Option Nat := (List.range ps.length).find? fun i => decide (turnAt ps i < 0)
def optV : Option Nat → V
  | none => .non
  | some i => .int (i : Nat)
def spReflex : Sp := fun vs H Q _ => ∃ (c : Addr) (tp : Bool) (ps : List (Int × Int)) (us : List V), vs = [.ref c] ∧ H c = some (boxU tp us) ∧ Pts H ps us ∧ BdL 1100 ps ∧ ∀ H', Same H H' → Q (optV (reflexI ps)) H'
theorem sc37 : FnScope N27 ["corners"] (defScope (topS 37)) := ⟨rfl, rfl, rfl, by decide +kernel, rfl, by decide +kernel, by decide +kernel⟩
theorem find_range {n i : Nat} {f : Nat → Bool} (hi : i < n) (h : f i = true) (hb : ∀ j, j < i → f j = false) : (List.range n).find? f = some i := by
  rw [List.find?_eq_some_iff_getElem]
  refine ⟨h, i, by simpa using hi, by simp, fun j hj => ?_⟩
  simp [hb j hj]
theorem find_range_none {n : Nat} {f : Nat → Bool} (hb : ∀ j, j < n → f j = false) : (List.range n).find? f = none := by
  rw [List.find?_eq_none]
  intro x hx
  simp [hb x (by simpa using hx)]
theorem ok_first_reflex (Fr : Free mg) (D : Df K mg "first_reflex" 37) (DT : Df K mg "triples" 26) (cT : Ca P w K mg base CX0 2 "turn_of" spTurn []) : Ca P w K mg base CX0 4 "first_reflex" spReflex [] := by
  refine ca_of D sc37 (fun vs H Q E h => ?_) (fun _ _ _ _ _ _ us hl => match us, hl with | [_], _ => rfl) (fun f cdv Ar outer s H vs Q E hr h => ?_)
  · obtain ⟨c, tp, ps, us, rfl, _⟩ := h
    rfl
  · obtain ⟨c, tp, ps, us, rfl, hc, hp, hb, ok⟩ := h
    refine ⟨_, pss_cons (ps_forTri (X := cxOf CX0 P w K mg base N27 "first_reflex" (defScope (topS 37)) f cdv Ar outer s H E) (passes_of rfl) rfl (lulls lull_0) Fr DT (hr.mono (by decide)) (by rfl) (by rfl) (pv 0) (by rfl) (by rfl)
      (pg_tup rfl (pgs_cons (pg_name (i := 1) sc37.nd rfl (Or.inl rfl)) (pgs_cons (pg_tup rfl (pgs_cons (pg_name (i := 2) sc37.nd rfl (Or.inl rfl)) (pgs_cons (pg_name (i := 3) sc37.nd rfl (Or.inl rfl)) (pgs_cons (pg_name (i := 4) sc37.nd rfl (Or.inl rfl)) pgs_nil)))) pgs_nil)))
      (pss_one (ps_if (pt_cmpR op_lt (pe_ca0 cT hr (by decide) (pa_cons (pv 2) (pa_cons (pv 3) (pa_cons (pv 4) pa_nil)))) pe_int (nomark _))
        (pss_one (ps_ret (pv 1))) pss_nil)) (fun _ => rfl)) (pss_one (ps_ret pe_non)), ?_⟩
    refine ⟨.ref c, rfl, c, rfl, tp, us, fun i σ H' => (∃ a1 a2 a3 a4, σ = [some (.ref c), a1, a2, a3, a4]) ∧ Same H H' ∧ ∀ j, j < i → ¬ turnAt ps j < 0, ⟨⟨_, _, _, _, rfl⟩, Same.refl _, fun j hj => absurd hj (Nat.not_lt_zero _)⟩, fun i σ H' hi p => p.2.1 _ _ hc, ?_, ?_⟩
    · rintro i σ H' T1 T2 hi ⟨⟨a1, a2, a3, a4, rfl⟩, s1, t1⟩ n1 n2 ne
      have hi' : i < ps.length := by rw [← hp.len]; exact hi
      have e1 : upd (upd H' T2 (.tup (tripV us i))) T1 (.tup [.int (i : Nat), .ref T2]) T1 = some (.tup [.int (i : Nat), .ref T2]) := upd_same
      have e2 : upd (upd H' T2 (.tup (tripV us i))) T1 (.tup [.int (i : Nat), .ref T2]) T2 = some (.tup (tripV us i)) := (upd_ne (Ne.symm ne)).trans upd_same
      have s2 : Same H' (upd (upd H' T2 (.tup (tripV us i))) T1 (.tup [.int (i : Nat), .ref T2])) := fun b u e => (upd_ne (ne_of_none e n1)).trans ((upd_ne (ne_of_none e n2)).trans e)
      have s3 := s1.trans s2
      refine ⟨T1, _, rfl, SqT.of e1, rfl, _, _, rfl, _, _, rfl, T2, _, rfl, SqT.of e2, rfl, _, _, rfl, _, _, rfl, _, _, rfl, rfl, rfl, ?_⟩
      have q1 : (i + us.length - 1) % us.length < ps.length := by rw [hp.len]; exact Nat.mod_lt _ (by omega)
      have q2 : (i + 1) % us.length < ps.length := by rw [hp.len]; exact Nat.mod_lt _ (by omega)
      refine ⟨_, rfl, _, rfl, _, rfl, _, _, _, _, _, _, rfl, (hp.pt _ q1).same s3, (hp.pt _ hi').same s3, (hp.pt _ q2).same s3, hb.at q1, hb.at hi', hb.at q2, fun H3 s4 => ⟨_, _, rfl, rfl, _, rfl, ?_⟩⟩
      have et : turnI (ps.getD ((i + us.length - 1) % us.length) (0, 0)) (ps.getD i (0, 0)) (ps.getD ((i + 1) % us.length) (0, 0)) = turnAt ps i := by unfold turnAt; rw [hp.len]
      rw [et]
      refine ite2 (fun z => ?_) fun z => ?_
      · refine ⟨_, rfl, ?_⟩
        have er : reflexI ps = some i := find_range hi' z fun j hj => by simpa using t1 j hj
        have q := ok H3 (s3.trans s4)
        rw [er] at q
        exact q
      · refine ⟨⟨_, _, _, _, rfl⟩, s3.trans s4, fun j hj => ?_⟩
        rcases Nat.lt_succ_iff_lt_or_eq.mp hj with y | y
        · exact t1 j y
        · rw [y]
          intro y2
          exact z (by simpa using y2)
    · rintro σ H' ⟨_, s1, t1⟩
      have er : reflexI ps = none := find_range_none fun j hj => by simpa using t1 j (by rw [hp.len]; exact hj)
      have q := ok H' s1
      rw [er] at q
      exact q
end
end K82
set_option Elab.async false
set_option linter.all false
set_option maxRecDepth 100000
set_option maxHeartbeats 400000
/-! Own part: zip over three tuples. -/
namespace K82
open PySem PySem.Spec PyProof.Rows L2
/-- three tuples of one length, side by side -/
def ItZ3 (K : PySem.W.Frag) (a b c : Addr) (xs ys zs : List V) : It :=
  ⟨fun i H => SqT K H a xs ∧ SqT K H b ys ∧ SqT K H c zs ∧ i < xs.length,
    fun i H v H' => ∃ T x y z, v = .ref T ∧ H T = none ∧ H' = upd H T (.tup [x, y, z]) ∧ xs[i]? = some x ∧ ys[i]? = some y ∧ zs[i]? = some z,
    fun i H => SqT K H a xs ∧ SqT K H b ys ∧ SqT K H c zs ∧ i = xs.length⟩
abbrev StZ3 (z TI TO i1 i2 i3 a b c : Addr) (i : Nat) (h : Heap) : Prop :=
  IsZip h z TI TO .none ∧ IsTupOf3 h TI (.ref i1) (.ref i2) (.ref i3) ∧ (∃ u1 u2 u3, IsTupOf3 h TO u1 u2 u3) ∧ h.IsTupleIter i1 a i ∧ h.IsTupleIter i2 b i ∧ h.IsTupleIter i3 c i
theorem in6 {z TI TO i1 i2 i3 x : Addr} (h : x ∈ [z, TI, TO, i1, i2, i3]) : x = z ∨ x = TI ∨ x = TO ∨ x = i1 ∨ x = i2 ∨ x = i3 := by simpa using h
theorem turn_zip3 {P : Program} {w : World} {K : PySem.W.Frag} {elts : List Expr} {kk : Nat} {tpos : Pos} {a b c z TI TO i1 i2 i3 : Addr} {xs ys zs : List V} (D : ZipSep3 z TI TO i1 i2 i3 [i1, a] [i2, b] [i3, c]) (n1 : a ≠ i1) (n2 : b ≠ i2) (n3 : c ≠ i3) (hl : ys.length = xs.length) (hl' : zs.length = xs.length) :
    Turn P w K (.Tuple elts kk tpos) (ItZ3 K a b c xs ys zs) [z, TI, TO, i1, i2, i3] z (StZ3 z TI TO i1 i2 i3 a b c) where
  mem := by simp
  obj := fun i h st x hx => by
    obtain ⟨hz, hTI, ⟨u1, u2, u3, hTO⟩, ⟨o1, e1, _, d1⟩, ⟨o2, e2, _, d2⟩, ⟨o3, e3, _, d3⟩⟩ := st
    rcases in6 hx with q | q | q | q | q | q <;> rw [q]
    · exact ⟨_, hz, fun v q => nomatch q⟩
    · exact ⟨_, hTI, fun v q => nomatch q⟩
    · exact ⟨_, hTO, fun v q => nomatch q⟩
    · exact ⟨o1, e1, fun v q => by rw [d1] at q; cases q⟩
    · exact ⟨o2, e2, fun v q => by rw [d2] at q; cases q⟩
    · exact ⟨o3, e3, fun v q => by rw [d3] at q; cases q⟩
  keep := fun i h h' st k => by
    obtain ⟨hz, hTI, ⟨u1, u2, u3, hTO⟩, h1, h2, h3⟩ := st
    exact ⟨k z (by simp) _ hz, k TI (by simp) _ hTI, ⟨u1, u2, u3, k TO (by simp) _ hTO⟩, h1.at fun o q => k i1 (by simp) o q, h2.at fun o q => k i2 (by simp) o q, h3.at fun o q => k i3 (by simp) o q⟩
  item := by
    intro X hP hw hK hc i pins s σ H E I hf st hg
    subst hP hw hK
    obtain ⟨q1, q2, q3, hi⟩ := hg
    obtain ⟨hz, hTI, hTO, h1, h2, h3⟩ := st
    obtain ⟨its1, rv1, p1, _⟩ := I.tuple q1
    obtain ⟨its2, rv2, p2, _⟩ := I.tuple q2
    obtain ⟨its3, rv3, p3, _⟩ := I.tuple q3
    have e1 : its1.length = xs.length := rv1.length.symm
    have e2 : its2.length = xs.length := rv2.length.symm.trans hl
    have e3 : its3.length = xs.length := rv3.length.symm.trans hl'
    have hh : X.A.in1.handled = none := I.ok.hd hc
    have W := WalksT.zipD3 (prog := X.prog) (w := X.w) (A := X.A) D (Draws.tuple hh i1 a n1 its1.toArray) (Draws.tuple hh i2 b n2 its2.toArray) (Draws.tuple hh i3 c n3 its3.toArray)
    have live : ∀ x ∈ [z, TI, TO, i1, i2, i3], x < s.heap.objs.size := fun x hx => by
      obtain ⟨u1, u2, u3, hTO⟩ := hTO
      rcases in6 hx with q | q | q | q | q | q <;> rw [q]
      · exact Heap.lt_size hz
      · exact Heap.lt_size hTI
      · exact Heap.lt_size hTO
      · obtain ⟨_, e, _⟩ := h1; exact Heap.lt_size e
      · obtain ⟨_, e, _⟩ := h2; exact Heap.lt_size e
      · obtain ⟨_, e, _⟩ := h3; exact Heap.lt_size e
    refine W.item i s _ _ (by simp only [List.size_toArray]; omega) ⟨hz, hTI, hTO, ⟨h1, p1⟩, ⟨h2, p2⟩, ⟨h3, p3⟩⟩ fun T vals h' tk hp hT ht mid hk => ?_
    obtain ⟨x1, x2, x3, y1, y2, y3, rfl⟩ := hp
    refine ⟨_, rfl, W.go elts kk tpos i T { s with heap := h', toks := tk } _ _ mid fun h'' st' hk' => ?_⟩
    obtain ⟨v1, w1⟩ : ∃ x, xs[i]? = some x := ⟨xs[i], List.getElem?_eq_getElem hi⟩
    obtain ⟨v2, w2⟩ : ∃ x, ys[i]? = some x := ⟨_, List.getElem?_eq_getElem (by omega)⟩
    obtain ⟨v3, w3⟩ : ∃ x, zs[i]? = some x := ⟨_, List.getElem?_eq_getElem (by omega)⟩
    obtain ⟨t1, g1, r1⟩ := rv1.get w1
    obtain ⟨t2, g2, r2⟩ := rv2.get w2
    obtain ⟨t3, g3, r3⟩ := rv3.get w3
    have y1' : its1[i]? = some x1 := by simpa using y1
    have y2' : its2[i]? = some x2 := by simpa using y2
    have y3' : its3[i]? = some x3 := by simpa using y3
    rw [g1] at y1'
    rw [g2] at y2'
    rw [g3] at y3'
    cases y1'
    cases y2'
    cases y3'
    have apart := W.apart i T h' mid
    have wr : ∀ x, x ∈ [z, TO, i1, i2, i3] → x ∈ [z, TI, TO, i1, i2, i3] := fun x hx => by
      rcases (show x = z ∨ x = TO ∨ x = i1 ∨ x = i2 ∨ x = i3 by simpa using hx) with q | q | q | q | q <;> rw [q] <;> simp
    have ht2 : h''.IsTuple T #[x1, x2, x3] := by
      obtain ⟨o, q, r⟩ := ht
      exact ⟨o, hk' T o apart q, r⟩
    have up : ∀ x o, x ∉ [z, TI, TO, i1, i2, i3] → s.heap.get? x = some o → h''.get? x = some o := fun x o hx q => hk' x o (fun y => hx (wr x y)) (hk x o (fun y => hx (wr x y)) q)
    have new : ObjOk X.prog X.w (upd H T (.tup [v1, v2, v3])) h'' T (.tup [v1, v2, v3]) := ⟨by show 3 ≤ sizeLine; decide, [x1, x2, x3], .cons r1 (.cons r2 (.cons r3 .nil)), ht2⟩
    have I1 : Inv X pins σ (upd H T (.tup [v1, v2, v3])) { s with heap := h'', toks := tk } := I.turnedNew up hf hT new
    obtain ⟨s1, s2, s3, s4, s5, s6⟩ := st'
    refine ⟨.ref T, _, I1, rfl, ⟨T, v1, v2, v3, rfl, I.hok.fresh hT, rfl, w1, w2, w3⟩, ⟨s1, s2, s3, s4.1, s5.1, s6.1⟩, fun x hx => ?_⟩
    rw [upd_ne (Nat.ne_of_lt (Nat.lt_of_lt_of_le (live x hx) hT))]
    exact (hf x hx).1
  done := by
    intro X hP hw hK hc i pins s σ H E I hf st hg
    subst hP hw hK
    obtain ⟨q1, q2, q3, hi⟩ := hg
    obtain ⟨hz, hTI, hTO, h1, h2, h3⟩ := st
    obtain ⟨its1, rv1, p1, _⟩ := I.tuple q1
    obtain ⟨its2, rv2, p2, _⟩ := I.tuple q2
    obtain ⟨its3, rv3, p3, _⟩ := I.tuple q3
    have e1 : its1.length = xs.length := rv1.length.symm
    have e2 : its2.length = xs.length := rv2.length.symm.trans hl
    have e3 : its3.length = xs.length := rv3.length.symm.trans hl'
    have hh : X.A.in1.handled = none := I.ok.hd hc
    have W := WalksT.zipD3 (prog := X.prog) (w := X.w) (A := X.A) D (Draws.tuple hh i1 a n1 its1.toArray) (Draws.tuple hh i2 b n2 its2.toArray) (Draws.tuple hh i3 c n3 its3.toArray)
    have en : min (min its1.toArray.size its2.toArray.size) its3.toArray.size = i := by simp only [List.size_toArray]; omega
    rw [en] at W
    have wr : ∀ x, x ∈ [z, TO, i1, i2, i3] → x ∈ [z, TI, TO, i1, i2, i3] := fun x hx => by
      rcases (show x = z ∨ x = TO ∨ x = i1 ∨ x = i2 ∨ x = i3 by simpa using hx) with q | q | q | q | q <;> rw [q] <;> simp
    exact W.done s _ _ ⟨hz, hTI, hTO, ⟨h1, p1⟩, ⟨h2, p2⟩, ⟨h3, p3⟩⟩ fun h' tk hk => ⟨rfl, I.turnedL (ch := [z, TI, TO, i1, i2, i3]) (fun x o hx q => hk x o (fun y => hx (wr x y)) q) hf⟩
  self := fun A i s Q E st h => wpAny_pyIter_zip st.1 h
def iZip3 (K : PySem.W.Frag) (ta : TA) : TI := fun σ H R => ta σ H fun vs H1 => ∃ (a b c : Addr) (xs ys zs : List V), vs = [.ref a, .ref b, .ref c] ∧ ys.length = xs.length ∧ zs.length = xs.length ∧ SqT K H1 a xs ∧ SqT K H1 b ys ∧ SqT K H1 c zs ∧ R (ItZ3 K a b c xs ys zs) H1
theorem pi_zip3 {X : Cx} {e e2 e3 : Expr} {ta : TA} {p pos tpos : Pos} {elts : List Expr} {kk : Nat} (hg : Gl X "zip") (hm : X.mg "zip" = none) (ha : PA X [e, e2, e3] ta)
    (hs : starEach [e, e2, e3] X.env = (false, eval e X.env) :: starEach [e2, e3] X.env := by rfl) (hpl : (backTo pos (starEach [e2, e3] X.env)).any (·.1) = false := by rfl) :
    PI X (.Tuple elts kk tpos) (.Call (.Name "zip" p) [e, e2, e3] [] pos) (iZip3 X.K ta) := by
  refine ⟨fun pins s σ H R I h => ?_⟩
  refine Call_ (ld_blt I hg hm PyProof.Rows.boot_zip (PyProof.Rows.callWith_type1 (thn (ha.run pos pins s σ H _ I h) fun us s1 ⟨vs, H1, I1, r1, q1⟩ => ?_) hs hpl))
  obtain ⟨a, b, c, xs, ys, zs, rfl, hl, hl', hqx, hqy, hqz, q⟩ := q1
  obtain rfl : us = [.ref a, .ref b, .ref c] := by
    cases r1 with
    | cons r rr =>
      cases rr with
      | cons r' rr =>
        cases rr with
        | cons r'' rr =>
          cases rr
          rw [(show _ = Value.ref a from r), (show _ = Value.ref b from r'), (show _ = Value.ref c from r'')]
  obtain ⟨its1, rv1, p1, _⟩ := I1.tuple hqx
  obtain ⟨its2, rv2, p2, _⟩ := I1.tuple hqy
  obtain ⟨its3, rv3, p3, _⟩ := I1.tuple hqz
  have la : a < s1.heap.objs.size := by obtain ⟨_, e, _⟩ := id p1; exact Heap.lt_size e
  have lb : b < s1.heap.objs.size := by obtain ⟨_, e, _⟩ := id p2; exact Heap.lt_size e
  have lc : c < s1.heap.objs.size := by obtain ⟨_, e, _⟩ := id p3; exact Heap.lt_size e
  refine zip_begins3 (begins_tuple a its1.toArray) (begins_tuple b its2.toArray) (begins_tuple c its3.toArray) p1 p2 p3 fun h' hz hTI hTO g1 g2 g3 hsz hk => wpAny_pyIter_zip hz ?_
  have I2 : Inv X pins σ H1 { s1 with heap := h' } := I1.kept (t' := s1.toks) hk
  have D : ZipSep3 (s1.heap.objs.size + 5) (s1.heap.objs.size + 3) (s1.heap.objs.size + 4) s1.heap.objs.size (s1.heap.objs.size + 1) (s1.heap.objs.size + 2) [s1.heap.objs.size, a] [s1.heap.objs.size + 1, b] [s1.heap.objs.size + 2, c] :=
    zip_sep3 (fun x hx => by rw [List.mem_singleton.mp hx]; exact la) (fun x hx => by rw [List.mem_singleton.mp hx]; exact lb) (fun x hx => by rw [List.mem_singleton.mp hx]; exact lc)
  refine ⟨s1.heap.objs.size + 5, [s1.heap.objs.size + 5, s1.heap.objs.size + 3, s1.heap.objs.size + 4, s1.heap.objs.size, s1.heap.objs.size + 1, s1.heap.objs.size + 2], _, _, H1, rfl, I2,
    turn_zip3 D (Nat.ne_of_lt la) (Nat.ne_of_lt (Nat.lt_succ_of_lt lb)) (Nat.ne_of_lt (Nat.lt_succ_of_lt (Nat.lt_succ_of_lt lc))) hl hl', ⟨hz, hTI, ⟨_, _, _, hTO⟩, ⟨_, g1, rfl, rfl⟩, ⟨_, g2, rfl, rfl⟩, ⟨_, g3, rfl, rfl⟩⟩, fun x hx => ?_, q⟩
  have hle : s1.heap.objs.size ≤ x := by
    rcases in6 hx with q | q | q | q | q | q <;> rw [q]
    · exact Nat.le_add_right _ _
    · exact Nat.le_add_right _ _
    · exact Nat.le_add_right _ _
    · exact Nat.le_refl _
    · exact Nat.le_add_right _ _
    · exact Nat.le_add_right _ _
  exact I1.fpOk hle (I1.hok.fresh hle)
/-- a comprehension over it -/
theorem lc_zip3 {K : PySem.W.Frag} {a b c : Addr} {xs ys zs : List V} {g : TG} {tt : TT} {te : TE} {vs : List Nat} {σ : L2.St} {H1 : Hp} {D : Addr} {Qd : Hp → Prop} (Pv : Nat → Hp → Prop) (h0 : Pv 0 (upd H1 D (.lst []))) (hq : ∀ i H, i ≤ xs.length → Pv i H → SqT K H a xs ∧ SqT K H b ys ∧ SqT K H c zs)
    (hs : ∀ i x y z H T, xs[i]? = some x → ys[i]? = some y → zs[i]? = some z → Pv i H → H T = none → g (.ref T) (wipe σ vs) (upd H T (.tup [x, y, z])) fun σ2 H2 => wipe σ2 vs = wipe σ vs ∧ tt σ2 H2 fun b H3 =>
      if b = true then te σ2 H3 fun y H4 => ∃ acc, H4 D = some (.lst acc) ∧ acc.length < sizeLine ∧ Pv (i + 1) (upd H4 D (.lst (acc ++ [y]))) else Pv (i + 1) H3) (hd : ∀ H, Pv xs.length H → Qd H) :
    ∃ W : Nat → Nat → Hp → Prop, (∃ m, W 0 m (upd H1 D (.lst []))) ∧ ∀ i m H, W i m H →
      ((ItZ3 K a b c xs ys zs).stop i H ∧ Qd H) ∨ ((ItZ3 K a b c xs ys zs).go i H ∧ ∃ Nx : Hp → Prop, (∀ H', Nx H' → ∃ m', m' < m ∧ W (i + 1) m' H') ∧ ∀ x H', (ItZ3 K a b c xs ys zs).yld i H x H' → g x (wipe σ vs) H' fun σ2 H2 => wipe σ2 vs = wipe σ vs ∧ tt σ2 H2 fun b H3 =>
        if b = true then te σ2 H3 fun y H4 => ∃ acc, H4 D = some (.lst acc) ∧ acc.length < sizeLine ∧ Nx (upd H4 D (.lst (acc ++ [y]))) else Nx H3) := by
  refine ⟨fun i m H => m = xs.length - i ∧ i ≤ xs.length ∧ Pv i H, ⟨xs.length, by simp, Nat.zero_le _, h0⟩, ?_⟩
  rintro i m H ⟨rfl, hi, p⟩
  obtain ⟨q1, q2, q3⟩ := hq i H hi p
  rcases Nat.lt_or_ge i xs.length with hlt | hge
  · refine .inr ⟨⟨q1, q2, q3, hlt⟩, Pv (i + 1), fun H' p' => ⟨xs.length - (i + 1), by omega, rfl, hlt, p'⟩, fun x H' y => ?_⟩
    obtain ⟨T, x', y', z', rfl, hT, rfl, hx, hy, hz⟩ := y
    exact hs i x' y' z' H T hx hy hz p hT
  · have e : i = xs.length := by omega
    subst e
    exact .inl ⟨⟨q1, q2, q3, rfl⟩, hd H p⟩
end K82
set_option Elab.async false
set_option linter.all false
set_option maxRecDepth 100000
set_option maxHeartbeats 400000
namespace K82
open PySem PySem.Spec PyProof.Rows L2 GenW K82G
theorem box_sq {K : PySem.W.Frag} {H : Hp} {c : Addr} {tp : Bool} {us : List V} (h : H c = some (boxU tp us)) : SqB tp K H c us := by
  cases tp with
  | true => exact SqT.of h
  | false => exact SqL.of h
section
variable {P : Program} {w : World} {K : PySem.W.Frag} {mg : Str → Option Value} {base : Heap} {A : Cl}

/-! ### is_between, is_on -/
def bt1 (v lo hi : Int) : Bool := decide ((if hi < lo then hi else lo) ≤ v) && decide (v ≤ (if hi > lo then hi else lo))
def betw (p a b : Int × Int) : Bool := bt1 p.1 a.1 b.1 && bt1 p.2 a.2 b.2
def spBetw : Sp := fun vs H Q _ => ∃ (p a b : Int × Int) (u v z : V), vs = [u, v, z] ∧ PtAt H p u ∧ PtAt H a v ∧ PtAt H b z ∧ ∀ H', Same H H' → Q (.bl (betw p a b)) H'
abbrev N28 : List Str := ["point", "start", "end", "value", "low", "high"]
theorem sc28 : FnScope N28 ["point", "start", "end"] (defScope (topS 28)) := ⟨rfl, rfl, rfl, by decide +kernel, rfl, by decide +kernel, by decide +kernel⟩
theorem ok_is_between (Fr : Free mg) (D : Df K mg "is_between" 28) : Ca P w K mg base CX0 1 "is_between" spBetw [] := by
  refine ca_of D sc28 (fun vs H Q E h => ?_) (fun _ _ _ _ _ _ us hl => match us, hl with | [_, _, _], _ => rfl) (fun f cdv Ar outer s H vs Q E hr h => ?_)
  · obtain ⟨p, a, b, u, v, z, rfl, _⟩ := h
    rfl
  · obtain ⟨⟨p1, p2⟩, ⟨a1, a2⟩, ⟨b1, b2⟩, u, v, z, rfl, ⟨ap, rfl, hp⟩, ⟨aa, rfl, ha⟩, ⟨ab, rfl, hb⟩, q⟩ := h
    refine ⟨_, pss_one (ps_ret (pe_callB (cr_all rfl) (by rfl) Fr.all (by decide +kernel) (pa_cons (pe_lc (own := [("value", 3), ("low", 4), ("high", 5)]) (g := gTup K 3 (gCons (gName 3) (gCons (gName 4) (gCons (gName 5) gNil)))) rfl sc28.nd (pi_zip3 (by rfl) Fr.zip (pa_cons (pv 0) (pa_cons (pv 1) (pa_cons (pv 2) pa_nil))))
      (blkOk_by (own := [("value", 3), ("low", 4), ("high", 5)]) (N := N28) (sc := defScope (topS 28)) (by decide +kernel))
      (fun _ _ _ _ _ => pg_tup rfl (pgs_cons (pg_name (i := 3) sc28.nd rfl (Or.inl rfl)) (pgs_cons (pg_name (i := 4) sc28.nd rfl (Or.inl rfl)) (pgs_cons (pg_name (i := 5) sc28.nd rfl (Or.inl rfl)) pgs_nil))))
      (fun _ _ _ _ _ => pts_nil)
      (fun _ _ _ _ _ => pe_chain op_le op_le (pe_callB (call_min2 rfl) (by rfl) Fr.min (by decide +kernel) (pa_cons (pv 4) (pa_cons (pv 5) pa_nil))) (pv 3) (pe_callB (call_max2 rfl) (by rfl) Fr.max (by decide +kernel) (pa_cons (pv 4) (pa_cons (pv 5) pa_nil))))) pa_nil))), ?_⟩
    refine ⟨_, rfl, _, rfl, _, rfl, ap, aa, ab, [.int p1, .int p2], [.int a1, .int a2], [.int b1, .int b2], rfl, rfl, rfl, SqT.of hp, SqT.of ha, SqT.of hb, fun D hD => ?_⟩
    refine lc_zip3 (K := K) (fun i H' => Same H H' ∧ H' D = some (.lst (([bt1 p1 a1 b1, bt1 p2 a2 b2].take i).map V.bl))) ⟨sNew hD _, upd_same⟩ (fun i H' _ h => ⟨SqT.of (h.1 _ _ hp), SqT.of (h.1 _ _ ha), SqT.of (h.1 _ _ hb)⟩) ?_ ?_
    · rintro i x y z H' T hx hy hz ⟨s1, hd⟩ hT
      have hi : i < 2 := (List.getElem?_eq_some_iff.mp hx).1
      obtain ⟨v1, v2, v3, rfl, rfl, rfl, e⟩ : ∃ v1 v2 v3 : Int, x = .int v1 ∧ y = .int v2 ∧ z = .int v3 ∧ [bt1 p1 a1 b1, bt1 p2 a2 b2][i]? = some (bt1 v1 v2 v3) := by
        match i, hi, hx, hy, hz with
        | 0, _, hx, hy, hz => exact ⟨p1, a1, b1, (Option.some.inj hx).symm, (Option.some.inj hy).symm, (Option.some.inj hz).symm, rfl⟩
        | 1, _, hx, hy, hz => exact ⟨p2, a2, b2, (Option.some.inj hx).symm, (Option.some.inj hy).symm, (Option.some.inj hz).symm, rfl⟩
      have dT : D ≠ T := fun y => by rw [y, hT] at hd; cases hd
      have hd2 : upd H' T (.tup [.int v1, .int v2, .int v3]) D = some (.lst (([bt1 p1 a1 b1, bt1 p2 a2 b2].take i).map V.bl)) := (upd_ne dT).trans hd
      have s2 : Same H (upd H' T (.tup [.int v1, .int v2, .int v3])) := fun b u e => (upd_ne (ne_of_none (s1 _ _ e) hT)).trans (s1 _ _ e)
      have fin : ∀ bb : Bool, bb = bt1 v1 v2 v3 → ∃ acc, upd H' T (.tup [.int v1, .int v2, .int v3]) D = some (.lst acc) ∧ acc.length < sizeLine ∧ Same H (upd (upd H' T (.tup [.int v1, .int v2, .int v3])) D (.lst (acc ++ [V.bl bb]))) ∧
          upd (upd H' T (.tup [.int v1, .int v2, .int v3])) D (.lst (acc ++ [V.bl bb])) D = some (.lst (([bt1 p1 a1 b1, bt1 p2 a2 b2].take (i + 1)).map V.bl)) := fun bb eb => by
        refine ⟨_, hd2, ?_, sPut s2 hD, ?_⟩
        · rw [List.length_map, List.length_take, sizeLine_eq]
          omega
        · rw [upd_same, List.take_succ, e, eb]
          simp
      refine ⟨T, _, rfl, SqT.of upd_same, rfl, _, _, rfl, _, _, rfl, _, _, rfl, rfl, rfl, ?_⟩
      refine ⟨_, rfl, _, rfl, v2, v3, rfl, _, rfl, _, _, rfl, rfl, _, rfl, ?_⟩
      refine ite2 (fun h1 => ?_) fun h1 => ?_
      · refine ⟨_, rfl, _, rfl, v2, v3, rfl, _, _, rfl, rfl, fin _ ?_⟩
        show _ = bt1 v1 v2 v3
        unfold bt1
        rw [h1, Bool.true_and]
      · refine fin _ ?_
        unfold bt1
        rw [Bool.eq_false_iff.mpr h1, Bool.false_and]
    · rintro H' ⟨s1, hd⟩
      refine ⟨D, [bt1 p1 a1 b1, bt1 p2 a2 b2], rfl, SqL.of hd, ?_⟩
      have e : [bt1 p1 a1 b1, bt1 p2 a2 b2].all id = betw (p1, p2) (a1, a2) (b1, b2) := by simp [betw]
      rw [e]
      exact q H' s1

def onI (p a b : Int × Int) : Bool := (turnI a b p == 0) && betw p a b
def spOn : Sp := fun vs H Q _ => ∃ (p a b : Int × Int) (u v z : V), vs = [u, v, z] ∧ PtAt H p u ∧ PtAt H a v ∧ PtAt H b z ∧ BdP 1100 p ∧ BdP 1100 a ∧ BdP 1100 b ∧ ∀ H', Same H H' → Q (.bl (onI p a b)) H'
theorem sc29 : FnScope ["point", "start", "end"] ["point", "start", "end"] (defScope (topS 29)) := ⟨rfl, rfl, rfl, by decide +kernel, rfl, by decide +kernel, by decide +kernel⟩
theorem ok_is_on (D : Df K mg "is_on" 29) (cT : Ca P w K mg base CX0 2 "turn_of" spTurn []) (cB : Ca P w K mg base CX0 1 "is_between" spBetw []) : Ca P w K mg base CX0 3 "is_on" spOn [] := by
  refine ca_of D sc29 (fun vs H Q E h => ?_) (fun _ _ _ _ _ _ us hl => match us, hl with | [_, _, _], _ => rfl) (fun f cdv Ar outer s H vs Q E hr h => ?_)
  · obtain ⟨p, a, b, u, v, z, rfl, _⟩ := h
    rfl
  · obtain ⟨p, a, b, u, v, z, rfl, hp, ha, hb, bp, ba, bb, q⟩ := h
    refine ⟨_, pss_one (ps_ret (pe_and (pe_cmpR op_eq (pe_ca0 cT hr (by decide) (pa_cons (pv 1) (pa_cons (pv 2) (pa_cons (pv 0) pa_nil)))) pe_int (nomark _))
      (pe_one (pe_ca0 cB hr (by decide) (pa_cons (pv 0) (pa_cons (pv 1) (pa_cons (pv 2) pa_nil))))))), ?_⟩
    refine ⟨_, rfl, _, rfl, _, rfl, a, b, p, _, _, _, rfl, ha, hb, hp, ba, bb, bp, fun H1 s1 => ⟨rfl, _, rfl, ?_⟩⟩
    rw [dec_int]
    refine ite2 (fun h1 => ?_) fun h1 => ?_
    · refine ⟨_, rfl, _, rfl, _, rfl, p, a, b, _, _, _, rfl, hp.same s1, ha.same s1, hb.same s1, fun H2 s2 => ?_⟩
      have e : onI p a b = betw p a b := by unfold onI; rw [h1, Bool.true_and]
      rw [← e]
      exact q H2 (s1.trans s2)
    · have e : onI p a b = false := by unfold onI; rw [Bool.eq_false_iff.mpr h1, Bool.false_and]
      have z := q H1 s1
      rw [e] at z
      exact z

/-! ### have_common_point -/
def EdgeAt (H : Hp) (e : (Int × Int) × (Int × Int)) (v : V) : Prop := ∃ a u z, v = .ref a ∧ H a = some (.tup [u, z]) ∧ PtAt H e.1 u ∧ PtAt H e.2 z
theorem EdgeAt.same {H H' : Hp} {e : (Int × Int) × (Int × Int)} {v : V} (h : EdgeAt H e v) (s : Same H H') : EdgeAt H' e v := by
  obtain ⟨a, u, z, r, ha, p, q⟩ := h
  exact ⟨a, u, z, r, s _ _ ha, p.same s, q.same s⟩
def commonI (e g : (Int × Int) × (Int × Int)) : Bool :=
  if turnI e.1 e.2 g.1 * turnI e.1 e.2 g.2 < 0 ∧ turnI g.1 g.2 e.1 * turnI g.1 g.2 e.2 < 0 then true else
    onI g.1 e.1 e.2 || (onI g.2 e.1 e.2 || (onI e.1 g.1 g.2 || onI e.2 g.1 g.2))
def spCommon : Sp := fun vs H Q _ => ∃ (e g : (Int × Int) × (Int × Int)) (u v : V), vs = [u, v] ∧ EdgeAt H e u ∧ EdgeAt H g v ∧ BdP 1100 e.1 ∧ BdP 1100 e.2 ∧ BdP 1100 g.1 ∧ BdP 1100 g.2 ∧ ∀ H', Same H H' → Q (.bl (commonI e g)) H'
abbrev N30 : List Str := ["first", "second", "a", "b", "c", "d", "sides"]
theorem sc30 : FnScope N30 ["first", "second"] (defScope (topS 30)) := ⟨rfl, rfl, rfl, by decide +kernel, rfl, by decide +kernel, by decide +kernel⟩
theorem ok_have_common (D : Df K mg "have_common_point" 30) (cT : Ca P w K mg base CX0 2 "turn_of" spTurn []) (cO : Ca P w K mg base CX0 3 "is_on" spOn []) : Ca P w K mg base CX0 4 "have_common_point" spCommon [] := by
  refine ca_of D sc30 (fun vs H Q E h => ?_) (fun _ _ _ _ _ _ us hl => match us, hl with | [_, _], _ => rfl) (fun f cdv Ar outer s H vs Q E hr h => ?_)
  · obtain ⟨e, g, u, v, rfl, _⟩ := h
    rfl
  · obtain ⟨⟨a, b⟩, ⟨c, d⟩, _, _, rfl, ⟨e1, ua, ub, rfl, h1, pa, pb⟩, ⟨e2, uc, ud, rfl, h2, pc, pd⟩, ba, bb, bc, bd, q⟩ := h
    refine ⟨_, pss_cons (ps_asg (pv 0) (pg_tup rfl (pgs_cons (pg_name (i := 2) sc30.nd rfl (Or.inl rfl)) (pgs_cons (pg_name (i := 3) sc30.nd rfl (Or.inl rfl)) pgs_nil))))
      (pss_cons (ps_asg (pv 1) (pg_tup rfl (pgs_cons (pg_name (i := 4) sc30.nd rfl (Or.inl rfl)) (pgs_cons (pg_name (i := 5) sc30.nd rfl (Or.inl rfl)) pgs_nil))))
      (pss_cons (ps_set (i := 6) sc30.nd rfl (Or.inl rfl) (pe_tup (pa_cons (pe_ca0 cT hr (by decide) (pa_cons (pv 2) (pa_cons (pv 3) (pa_cons (pv 4) pa_nil)))) (pa_cons (pe_ca0 cT hr (by decide) (pa_cons (pv 2) (pa_cons (pv 3) (pa_cons (pv 5) pa_nil))))
        (pa_cons (pe_ca0 cT hr (by decide) (pa_cons (pv 4) (pa_cons (pv 5) (pa_cons (pv 2) pa_nil)))) (pa_cons (pe_ca0 cT hr (by decide) (pa_cons (pv 4) (pa_cons (pv 5) (pa_cons (pv 3) pa_nil)))) pa_nil))))))
      (pss_cons (ps_if (PW.pt (pw_and (pt_cmpR op_lt (pe_op op_mulW (pe_ix ix_tup (pv 6) pe_int (fun _ _ => rfl)) (pe_ix ix_tup (pv 6) pe_int (fun _ _ => rfl))) pe_int (nomark _))
        (pw_and1 (pt_cmpR op_lt (pe_op op_mulW (pe_ix ix_tup (pv 6) pe_int (fun _ _ => rfl)) (pe_ix ix_tup (pv 6) pe_int (fun _ _ => rfl))) pe_int (nomark _))))) (pss_one (ps_ret pe_bl)) pss_nil)
      (pss_one (ps_ret (pe_or (pe_ca0 cO hr (by decide) (pa_cons (pv 4) (pa_cons (pv 2) (pa_cons (pv 3) pa_nil)))) (pe_or (pe_ca0 cO hr (by decide) (pa_cons (pv 5) (pa_cons (pv 2) (pa_cons (pv 3) pa_nil))))
        (pe_or (pe_ca0 cO hr (by decide) (pa_cons (pv 2) (pa_cons (pv 4) (pa_cons (pv 5) pa_nil)))) (pe_one (pe_ca0 cO hr (by decide) (pa_cons (pv 3) (pa_cons (pv 4) (pa_cons (pv 5) pa_nil)))))))))))))
      , ?_⟩
    refine ⟨_, rfl, e1, _, rfl, SqT.of h1, rfl, _, _, rfl, _, _, rfl, rfl, ?_⟩
    refine ⟨_, rfl, e2, _, rfl, SqT.of h2, rfl, _, _, rfl, _, _, rfl, rfl, ?_⟩
    refine ⟨_, rfl, _, rfl, _, rfl, a, b, c, _, _, _, rfl, pa, pb, pc, ba, bb, bc, fun H1 s1 => ?_⟩
    refine ⟨_, rfl, _, rfl, _, rfl, a, b, d, _, _, _, rfl, pa.same s1, pb.same s1, pd.same s1, ba, bb, bd, fun H2 s2' => ?_⟩
    have s2 := s1.trans s2'
    refine ⟨_, rfl, _, rfl, _, rfl, c, d, a, _, _, _, rfl, pc.same s2, pd.same s2, pa.same s2, bc, bd, ba, fun H3 s3' => ?_⟩
    have s3 := s2.trans s3'
    refine ⟨_, rfl, _, rfl, _, rfl, c, d, b, _, _, _, rfl, pc.same s3, pd.same s3, pb.same s3, bc, bd, bb, fun H4 s4' => ?_⟩
    have s4 := s3.trans s4'
    refine ⟨by show 4 ≤ sizeLine; decide, fun t ht => ?_⟩
    have s5 : Same H (upd H4 t (.tup [.int (turnI a b c), .int (turnI a b d), .int (turnI c d a), .int (turnI c d b)])) := sPut s4 (s4.free ht)
    have t1 := BdP.turn ba bb bc
    have t2 := BdP.turn ba bb bd
    have t3 := BdP.turn bc bd ba
    have t4 := BdP.turn bc bd bb
    have m12 : CMulW (turnI a b c) (turnI a b d) := t1.wide t2 (by decide) (by decide) (by decide)
    have m34 : CMulW (turnI c d a) (turnI c d b) := t3.wide t4 (by decide) (by decide) (by decide)
    have last : ¬ (turnI a b c * turnI a b d < 0 ∧ turnI c d a * turnI c d b < 0) → ∀ H5, Same H H5 → tOrV (tCall spOn [] E0 (tCons (tVar 4) (tCons (tVar 2) (tCons (tVar 3) tNil)))) (tOrV (tCall spOn [] E0 (tCons (tVar 5) (tCons (tVar 2) (tCons (tVar 3) tNil))))
        (tOrV (tCall spOn [] E0 (tCons (tVar 2) (tCons (tVar 4) (tCons (tVar 5) tNil)))) (tCall spOn [] E0 (tCons (tVar 3) (tCons (tVar 4) (tCons (tVar 5) tNil)))))) [some (.ref e1), some (.ref e2), some ua, some ub, some uc, some ud, some (.ref t)] H5 Q := fun hn H5 s5 => by
      have ec : commonI (a, b) (c, d) = (onI c a b || (onI d a b || (onI a c d || onI b c d))) := if_neg hn
      rw [ec] at q
      refine ⟨_, rfl, _, rfl, _, rfl, c, a, b, _, _, _, rfl, pc.same s5, pa.same s5, pb.same s5, bc, ba, bb, fun H6 s6' => ⟨_, rfl, ?_⟩⟩
      have s6 := s5.trans s6'
      refine ite2 (fun z => ?_) fun z => ?_
      · rw [z, Bool.true_or] at q
        exact q H6 s6
      rw [Bool.eq_false_iff.mpr z, Bool.false_or] at q
      refine ⟨_, rfl, _, rfl, _, rfl, d, a, b, _, _, _, rfl, pd.same s6, pa.same s6, pb.same s6, bd, ba, bb, fun H7 s7' => ⟨_, rfl, ?_⟩⟩
      have s7 := s6.trans s7'
      refine ite2 (fun z => ?_) fun z => ?_
      · rw [z, Bool.true_or] at q
        exact q H7 s7
      rw [Bool.eq_false_iff.mpr z, Bool.false_or] at q
      refine ⟨_, rfl, _, rfl, _, rfl, a, c, d, _, _, _, rfl, pa.same s7, pc.same s7, pd.same s7, ba, bc, bd, fun H8 s8' => ⟨_, rfl, ?_⟩⟩
      have s8 := s7.trans s8'
      refine ite2 (fun z => ?_) fun z => ?_
      · rw [z, Bool.true_or] at q
        exact q H8 s8
      rw [Bool.eq_false_iff.mpr z, Bool.false_or] at q
      exact ⟨_, rfl, _, rfl, _, rfl, b, c, d, _, _, _, rfl, pb.same s8, pc.same s8, pd.same s8, bb, bc, bd, fun H9 s9 => q H9 (s8.trans s9)⟩
    refine ⟨_, rfl, t, _, 0, _, rfl, rfl, SqT.of upd_same, rfl, _, rfl, t, _, 1, _, rfl, rfl, SqT.of upd_same, rfl, _, _, rfl, rfl, m12, _, _, rfl, rfl, _, rfl, ?_⟩
    refine ite2 (fun z1 => ?_) fun z1 => ?_
    · refine ⟨_, rfl, t, _, 2, _, rfl, rfl, SqT.of upd_same, rfl, _, rfl, t, _, 3, _, rfl, rfl, SqT.of upd_same, rfl, _, _, rfl, rfl, m34, _, _, rfl, rfl, _, rfl, ?_⟩
      refine ite2 (fun z2 => ?_) fun z2 => ?_
      · have ec : commonI (a, b) (c, d) = true := if_pos ⟨by simpa using z1, by simpa using z2⟩
        rw [ec] at q
        exact q _ s5
      · exact last (fun y => z2 (by simpa using y.2)) _ s5
    · exact iteF (last (fun y => z1 (by simpa using y.1)) _ s5)
end
end K82
set_option Elab.async false
set_option linter.all false
set_option maxRecDepth 100000
set_option maxHeartbeats 400000
namespace K82
open PySem PySem.Spec PyProof.Rows L2 GenW K82G
section
variable {P : Program} {w : World} {K : PySem.W.Frag} {mg : Str → Option Value} {base : Heap} {A : Cl}
/-! ### edges_of -/
def edgeI (ps : List (Int × Int)) (i : Nat) : (Int × Int) × (Int × Int) := (ps.getD i (0, 0), ps.getD ((i + 1) % ps.length) (0, 0))
structure EdgesAt (H : Hp) (ps : List (Int × Int)) (ws : List V) (n : Nat) : Prop where
  len : ws.length = n
  ed : ∀ i, i < n → EdgeAt H (edgeI ps i) (ws.getD i .non)
theorem EdgesAt.same {H H' : Hp} {ps : List (Int × Int)} {ws : List V} {n : Nat} (h : EdgesAt H ps ws n) (s : Same H H') : EdgesAt H' ps ws n := ⟨h.len, fun i hi => (h.ed i hi).same s⟩
theorem EdgesAt.snoc {H : Hp} {ps : List (Int × Int)} {ws : List V} {n : Nat} {v : V} (h : EdgesAt H ps ws n) (e : EdgeAt H (edgeI ps n) v) : EdgesAt H ps (ws ++ [v]) (n + 1) := by
  refine ⟨by rw [List.length_append, h.len]; rfl, fun i hi => ?_⟩
  rcases Nat.lt_succ_iff_lt_or_eq.mp hi with y | y
  · rw [List.getD_eq_getElem?_getD, List.getElem?_append_left (by rw [h.len]; exact y), ← List.getD_eq_getElem?_getD]
    exact h.ed i y
  · subst y
    rw [List.getD_eq_getElem?_getD, List.getElem?_append_right (by rw [h.len]; exact Nat.le_refl _), h.len, Nat.sub_self]
    exact e
def spEdges : Sp := fun vs H Q _ => ∃ (c : Addr) (tp : Bool) (ps : List (Int × Int)) (us : List V), vs = [.ref c] ∧ H c = some (boxU tp us) ∧ Pts H ps us ∧ ps.length ≤ 1000 ∧
  ∀ H' L ws, Same H H' → H' L = some (.lst ws) → EdgesAt H' ps ws ps.length → Q (.ref L) H'
abbrev N31 : List Str := ["corners", "index", "corner"]
theorem sc31 : FnScope N31 ["corners"] (defScope (topS 31)) := ⟨rfl, rfl, rfl, by decide +kernel, rfl, by decide +kernel, by decide +kernel⟩
theorem ok_edges_of (Fr : Free mg) (D : Df K mg "edges_of" 31) : Ca P w K mg base CX0 1 "edges_of" spEdges [] := by
  refine ca_of D sc31 (fun vs H Q E h => ?_) (fun _ _ _ _ _ _ us hl => match us, hl with | [_], _ => rfl) (fun f cdv Ar outer s H vs Q E hr h => ?_)
  · obtain ⟨c, tp, ps, us, rfl, _⟩ := h
    rfl
  · obtain ⟨c, tp, ps, us, rfl, hc, hp, hn, q⟩ := h
    refine ⟨_, pss_one (ps_ret (pe_lc (own := [("index", 1), ("corner", 2)]) (g := gTup K 2 (gCons (gName 1) (gCons (gName 2) gNil)))
      (te := tTup (tCons (tVar 2) (tCons (tOp (rIxB K) (tVar 0) (tOp (rI (fun _ j => 0 < j) fun i j => .int (i % j)) (tOp (rI0 fun i j => .int (i + j)) (tVar 1) (tC (.int 1))) (tCB (rLenB K) (tCons (tVar 0) tNil)))) tNil))) rfl sc31.nd (pi_enumB (by rfl) Fr.enumerate (pa_cons (pv 0) pa_nil))
      (blkOk_by (own := [("index", 1), ("corner", 2)]) (N := N31) (sc := defScope (topS 31)) (by decide +kernel))
      (fun _ _ _ _ _ => pg_tup rfl (pgs_cons (pg_name (i := 1) sc31.nd rfl (Or.inl rfl)) (pgs_cons (pg_name (i := 2) sc31.nd rfl (Or.inl rfl)) pgs_nil)))
      (fun _ _ _ _ _ => pts_nil)
      (fun _ _ _ _ _ => pe_tup (pa_cons (pv 2) (pa_cons (pe_ix ixB (pv 0) (pe_op op_mod (pe_op op_add (pv 1) pe_int)
      (pe_callB call_lenB (by rfl) Fr.len (by decide +kernel) (pa_cons (pv 0) pa_nil))) (fun _ _ => rfl)) pa_nil))))), ?_⟩
    refine ⟨_, rfl, c, us, tp, rfl, box_sq hc, fun D hD => ?_⟩
    refine lc_enumB (K := K) (fun i H' => Same H H' ∧ ∃ acc, H' D = some (.lst acc) ∧ EdgesAt H' ps acc i) ⟨sNew hD _, [], upd_same, rfl, fun i hi => absurd hi (Nat.not_lt_zero _)⟩ (fun i H' _ h => box_sq (h.1 _ _ hc)) ?_ ?_
    · rintro i x H' T hx ⟨s1, acc, hd, hacc⟩ hT
      have hi : i < us.length := (List.getElem?_eq_some_iff.mp hx).1
      have hi' : i < ps.length := by rw [← hp.len]; exact hi
      have dT : D ≠ T := fun y => by rw [y, hT] at hd; cases hd
      have sT : Same H' (upd H' T (.tup [.int (i : Nat), x])) := sNew hT _
      have s2 := s1.trans sT
      have sq := box_sq (K := K) (s2 _ _ hc)
      refine ⟨T, _, rfl, SqT.of upd_same, rfl, _, _, rfl, _, _, rfl, rfl, rfl, ?_⟩
      refine ⟨_, rfl, _, rfl, _, rfl, _, _, rfl, rfl, _, rfl, c, us, tp, rfl, sq, _, _, rfl, rfl, (by show (0 : Int) < (us.length : Int); omega), c, us, _, _, tp, rfl, rfl, sq, atI_next hi, ?_⟩
      refine ⟨by show 2 ≤ sizeLine; decide, fun t ht => ?_⟩
      have dt : D ≠ t := fun y => by rw [← y, upd_ne dT, hd] at ht; cases ht
      have st := sNew ht (.tup [x, us.getD ((i + 1) % us.length) .non])
      have s3 := s2.trans st
      have hd3 : upd (upd H' T (.tup [.int (i : Nat), x])) t (.tup [x, us.getD ((i + 1) % us.length) .non]) D = some (.lst acc) := (upd_ne dt).trans ((upd_ne dT).trans hd)
      have q2 : (i + 1) % us.length < ps.length := by rw [hp.len]; exact Nat.mod_lt _ (by omega)
      have ex : x = us.getD i .non := by
        rw [getD_some hi] at hx
        exact (Option.some.inj hx).symm
      have hD' : ∀ (u : HO), Same H (upd (upd (upd H' T (.tup [.int (i : Nat), x])) t (.tup [x, us.getD ((i + 1) % us.length) .non])) D u) := fun u => sPut s3 hD
      refine ⟨acc, hd3, ?_, hD' _, _, upd_same, ?_⟩
      · rw [hacc.len, sizeLine_eq]
        omega
      · have put : ∀ {e : (Int × Int) × (Int × Int)} {v : V} {u : HO}, EdgeAt (upd (upd H' T (.tup [.int (i : Nat), x])) t (.tup [x, us.getD ((i + 1) % us.length) .non])) e v → EdgeAt (upd (upd (upd H' T (.tup [.int (i : Nat), x])) t (.tup [x, us.getD ((i + 1) % us.length) .non])) D u) e v := fun {e v u} h => by
          obtain ⟨a, u1, z, r, ha, ⟨b1, rb, p1⟩, ⟨b2, rb2, p2⟩⟩ := h
          have ne : ∀ {b : Addr} {xs : List V}, upd (upd H' T (.tup [.int (i : Nat), x])) t (.tup [x, us.getD ((i + 1) % us.length) .non]) b = some (.tup xs) → b ≠ D := fun {b xs} e y => by
            rw [y, hd3] at e
            cases e
          exact ⟨a, u1, z, r, (upd_ne (ne ha)).trans ha, ⟨b1, rb, (upd_ne (ne p1)).trans p1⟩, ⟨b2, rb2, (upd_ne (ne p2)).trans p2⟩⟩
        have a1 := (hacc.same (sT.trans st)).snoc (v := .ref t) ⟨t, x, us.getD ((i + 1) % us.length) .non, rfl, upd_same, by
            have z := (hp.pt i hi').same s3
            rw [← ex] at z
            exact z, by
          have z := (hp.pt _ q2).same s3
          show PtAt _ (ps.getD ((i + 1) % ps.length) (0, 0)) _
          rw [← hp.len]
          exact z⟩
        exact ⟨a1.len, fun j hj => put (a1.ed j hj)⟩
    · rintro H' ⟨s1, acc, hd, hacc⟩
      rw [hp.len] at hacc
      exact q H' D acc s1 hd hacc

/-! ### check_crossings -/
def CrossAt (ps : List (Int × Int)) (i j : Nat) : Prop := (j + 1) % ps.length ≠ i ∧ commonI (edgeI ps i) (edgeI ps j) = true
def CrossOk (ps : List (Int × Int)) : Prop := ∀ i j, i < ps.length → i + 2 ≤ j → j < ps.length → ¬ CrossAt ps i j
def spCross2 (A : Cl) : Sp := fun vs H Q E => ∃ (c : Addr) (tp : Bool) (ps : List (Int × Int)) (us : List V), vs = [.ref c] ∧ H c = some (boxU tp us) ∧ Pts H ps us ∧ BdL 1100 ps ∧ ps.length ≤ 1000 ∧
  (CrossOk ps → ∀ H', Same H H' → Q .non H') ∧ (¬ CrossOk ps → ∀ cls d H', Shp A cls → Same H H' → E cls d H')
abbrev N32 : List Str := ["corners", "edges", "many", "first", "second"]
theorem sc32 : FnScope N32 ["corners"] (defScope (topS 32)) := ⟨rfl, rfl, rfl, by decide +kernel, rfl, by decide +kernel, by decide +kernel⟩
theorem ok_check_crossings (Fr : Free mg) (D : Df K mg "check_crossings" 32) (cE : Ca P w K mg base CX0 1 "edges_of" spEdges []) (cH : Ca P w K mg base CX0 4 "have_common_point" spCommon []) (oC : Oe P w K mg base "CrossingEdges" A.ce (spX2 A.ce)) :
    Ca P w K mg base (L2N.CX P w) 5 "check_crossings" (spCross2 A) [] := by
  refine ca_of D sc32 (fun vs H Q E h => ?_) (fun _ _ _ _ _ _ us hl => match us, hl with | [_], _ => rfl) (fun f cdv Ar outer s H vs Q E hr h => ?_)
  · obtain ⟨c, tp, ps, us, rfl, _⟩ := h
    rfl
  · obtain ⟨c, tp, ps, us, rfl, hc, hp, hb, hn, ok, ko⟩ := h
    refine ⟨_, pss_cons (ps_set (i := 1) sc32.nd rfl (Or.inl rfl) (pe_ca0 cE hr (by decide) (pa_cons (pv 0) pa_nil)))
      (pss_cons (ps_set (i := 2) sc32.nd rfl (Or.inl rfl) (pe_callB call_len_seq (by rfl) Fr.len (by decide +kernel) (pa_cons (pv 1) pa_nil)))
      (pss_one (ps_for (passes_of rfl) rfl (pi_range1 (by rfl) Fr.range (pa_cons (pv 2) pa_nil)) (pg_name (i := 3) sc32.nd rfl (Or.inl rfl))
        (pss_one (ps_for (passes_of rfl) rfl (pi_range2 (by rfl) Fr.range (pa_cons (pe_op op_add (pv 3) pe_int) (pa_cons (pv 2) pa_nil))) (pg_name (i := 4) sc32.nd rfl (Or.inl rfl))
          (pss_one (ps_if (PW.pt (pw_and (pt_cmpR op_ne (pe_op op_mod (pe_op op_add (pv 4) pe_int) (pv 2)) (pv 3) (nomark _)) (pw_and1 (pt_val (pe_ca0 cH hr (by decide) (pa_cons (pe_ix ix_list (pv 1) (pv 3) (fun _ _ => rfl)) (pa_cons (pe_ix ix_list (pv 1) (pv 4) (fun _ _ => rfl)) pa_nil)))))))
            (pss_one (L2N.ps_raise rfl (L2N.takes_of rfl rfl rfl rfl) (pmk_oe oC (hr.mono (by decide)) (by rfl) (pa_cons (pv 3) (pa_cons (pv 4) pa_nil))))) pss_nil))))))), ?_⟩
    refine ⟨_, rfl, c, tp, ps, us, rfl, hc, hp, hn, fun H1 L ws s1 hL hw => ?_⟩
    refine ⟨_, rfl, L, ws, rfl, .inl (SqL.of hL), ?_⟩
    have hl1 : ws.length = ps.length := hw.len
    have bits : (ws.length : Int) < 2 ^ 62 := by
      rw [hl1]
      have : ((ps.length : Nat) : Int) ≤ 1000 := by omega
      omega
    refine ⟨_, rfl, _, rfl, by omega, bits, ?_⟩
    have el : ((ws.length : Nat) : Int).toNat = ps.length := by rw [hl1]; simp
    rw [el]
    refine for_range (fun i σ H' => (∃ a1 a2, σ = [some (.ref c), some (.ref L), some (.int (ws.length : Nat)), a1, a2]) ∧ Same H1 H' ∧ H' L = some (.lst ws) ∧ ∀ i' j, i' < i → i' + 2 ≤ j → j < ps.length → ¬ CrossAt ps i' j)
      ⟨⟨_, _, rfl⟩, Same.refl _, hL, fun i' j h0 => absurd h0 (Nat.not_lt_zero _)⟩ ?_ ?_
    · rintro i σ H2 hi ⟨⟨a1, a2, rfl⟩, s2, hL2, t2⟩
      have e0 : (0 : Int) + ((i : Nat) : Int) = ((i : Nat) : Int) := by omega
      rw [e0]
      refine ⟨_, rfl, _, _, rfl, rfl, _, rfl, _, _, rfl, ⟨by omega, by omega, by omega, bits⟩, ?_⟩
      have en : (((ws.length : Nat) : Int) - (((i : Nat) : Int) + 2)).toNat = ps.length - (i + 2) := by rw [hl1]; omega
      rw [en]
      refine for_range (fun k σ H' => (∃ a2, σ = [some (.ref c), some (.ref L), some (.int (ws.length : Nat)), some (.int (i : Nat)), a2]) ∧ Same H1 H' ∧ H' L = some (.lst ws) ∧ ∀ j, i + 2 ≤ j → j < i + 2 + k → ¬ CrossAt ps i j)
        ⟨⟨_, rfl⟩, s2, hL2, fun j h1 h2 => absurd h1 (by omega)⟩ ?_ ?_
      · rintro k σ H3 hk ⟨⟨a2, rfl⟩, s3, hL3, t3⟩
        have e2 : ((i : Nat) : Int) + 2 + ((k : Nat) : Int) = (((i + 2 + k : Nat)) : Int) := by omega
        rw [e2]
        have hj : i + 2 + k < ps.length := by omega
        have goOn : ∀ H4, Same H3 H4 → H4 L = some (.lst ws) → ¬ CrossAt ps i (i + 2 + k) → (∃ a2, [some (V.ref c), some (.ref L), some (.int (ws.length : Nat)), some (.int (i : Nat)), some (.int ((i + 2 + k : Nat) : Int))] = [some (V.ref c), some (.ref L), some (.int (ws.length : Nat)), some (.int (i : Nat)), a2]) ∧ Same H1 H4 ∧ H4 L = some (.lst ws) ∧ ∀ j, i + 2 ≤ j → j < i + 2 + (k + 1) → ¬ CrossAt ps i j := fun H4 s4 hL4 nc =>
          ⟨⟨_, rfl⟩, s3.trans s4, hL4, fun j h1 h2 => by
            by_cases z : j = i + 2 + k
            · rw [z]; exact nc
            · exact t3 j h1 (by omega)⟩
        refine ⟨_, rfl, _, _, rfl, rfl, _, rfl, _, _, rfl, rfl, (by show (0 : Int) < (ws.length : Int); omega), _, rfl, rfl, _, rfl, ?_⟩
        rw [dec_int]
        have em : (((i + 2 + k : Nat) : Int) + 1) % ((ws.length : Nat) : Int) = (((i + 2 + k + 1) % ps.length : Nat) : Int) := by
          rw [hl1]
          first
            | (rw [Int.natCast_mod, Int.natCast_add]; rfl)
            | (rw [Int.natCast_emod, Int.natCast_add]; rfl)
        rw [em]
        by_cases ye : (i + 2 + k + 1) % ps.length = i
        · have ev : (!((((i + 2 + k + 1) % ps.length : Nat) : Int) == ((i : Nat) : Int))) = false := by rw [ye]; simp
          rw [ev]
          exact iteF (goOn H3 (Same.refl _) hL3 fun z => z.1 ye)
        · have ev : (!((((i + 2 + k + 1) % ps.length : Nat) : Int) == ((i : Nat) : Int))) = true := by
            rw [Bool.not_eq_true', beq_eq_false_iff_ne]
            exact fun y => ye (Int.ofNat.inj y)
          rw [ev]
          have eI := (hw.same s3).ed i hi
          have eJ := (hw.same s3).ed (i + 2 + k) hj
          have q2 : (i + 1) % ps.length < ps.length := Nat.mod_lt _ (by omega)
          have q3 : (i + 2 + k + 1) % ps.length < ps.length := Nat.mod_lt _ (by omega)
          refine iteT ?_
          refine ⟨_, rfl, _, rfl, L, ws, _, _, rfl, rfl, SqL.of hL3, atI_nat (getD_some (by rw [hl1]; exact hi)), _, rfl, _, rfl, L, ws, _, _, rfl, rfl, SqL.of hL3, atI_nat (getD_some (by rw [hl1]; exact hj)), _, _, _, _, rfl, eI, eJ, hb.at hi, hb.at q2, hb.at hj, hb.at q3, fun H4 s4 => ⟨_, rfl, ?_⟩⟩
          refine ite2 (fun z2 => ?_) fun z2 => ?_
          · refine ⟨_, rfl, _, rfl, mk2 fun d H5 s5 => ?_⟩
            exact ko (fun y => y i (i + 2 + k) hi (by omega) hj ⟨ye, z2⟩) _ _ _ (.inr (.inr (.inl rfl))) (((s1.trans s3).trans s4).trans s5)
          · exact goOn H4 s4 (s4 _ _ hL3) fun z => z2 z.2
      · rintro σ H3 ⟨⟨a2, rfl⟩, s3, hL3, t3⟩
        refine ⟨⟨_, _, rfl⟩, s3, hL3, fun i' j h0 h1 h2 => ?_⟩
        by_cases z : i' = i
        · rw [z] at h1 ⊢
          exact t3 j h1 (by omega)
        · exact t2 i' j (by omega) h1 h2
    · rintro σ H2 ⟨_, s2, _, t2⟩
      exact ok (fun i j hi h2 hj => t2 i j hi h2 hj) H2 (s1.trans s2)
end
end K82
set_option Elab.async false
set_option linter.all false
set_option maxRecDepth 100000
set_option maxHeartbeats 400000
namespace K82
open PySem PySem.Spec PyProof.Rows L2 GenW K82G
/-! ### points as data -/
def ptD (p : Int × Int) : PyData := .tuple [.int p.1, .int p.2]
theorem Pts.zip {H : Hp} {ps : List (Int × Int)} {us : List V} (h : Pts H ps us) : ∃ zs : List ((Int × Int) × V), ps = zs.map (·.1) ∧ us = zs.map (·.2) ∧ ∀ z ∈ zs, PtAt H z.1 z.2 := by
  refine ⟨ps.zip us, ?_, ?_, fun z hz => ?_⟩
  · rw [List.map_fst_zip (by rw [h.len]; exact Nat.le_refl _)]
  · rw [List.map_snd_zip (by rw [h.len]; exact Nat.le_refl _)]
  · obtain ⟨i, hi, e⟩ := List.mem_iff_getElem.mp hz
    have hl : i < ps.length := by
      rw [List.length_zip] at hi
      omega
    have q := h.pt i hl
    rw [List.getElem_zip] at e
    rw [List.getD_eq_getElem?_getD, List.getD_eq_getElem?_getD, List.getElem?_eq_getElem hl, List.getElem?_eq_getElem (by rw [h.len]; exact hl)] at q
    rw [← e]
    exact q
theorem Pts.of {H : Hp} {zs : List ((Int × Int) × V)} (h : ∀ z ∈ zs, PtAt H z.1 z.2) : Pts H (zs.map (·.1)) (zs.map (·.2)) := by
  refine ⟨by simp, fun i hi => ?_⟩
  have hi' : i < zs.length := by simpa using hi
  rw [List.getD_eq_getElem?_getD, List.getD_eq_getElem?_getD, List.getElem?_map, List.getElem?_map, List.getElem?_eq_getElem hi']
  exact h _ (List.getElem_mem hi')
theorem Pts.rev {H : Hp} {ps : List (Int × Int)} {us : List V} (h : Pts H ps us) : Pts H ps.reverse us.reverse := by
  obtain ⟨zs, rfl, rfl, hz⟩ := h.zip
  rw [← List.map_reverse, ← List.map_reverse]
  exact Pts.of fun z hm => hz z (List.mem_reverse.mp hm)
theorem Pts.turn {H : Hp} {ps : List (Int × Int)} {us : List V} (h : Pts H ps us) (j : Nat) : Pts H (ps.drop j ++ ps.take j) (us.drop j ++ us.take j) := by
  obtain ⟨zs, rfl, rfl, hz⟩ := h.zip
  rw [← List.map_drop, ← List.map_take, ← List.map_drop, ← List.map_take, ← List.map_append, ← List.map_append]
  refine Pts.of fun z hm => hz z ?_
  rcases List.mem_append.mp hm with y | y
  · exact List.mem_of_mem_drop y
  · exact List.mem_of_mem_take y
theorem pt_dp {K : PySem.W.Frag} {H : Hp} {p : Int × Int} {v : V} (h : PtAt H p v) : Dp K H v (ptD p) := by
  obtain ⟨a, rfl, ha⟩ := h
  exact .tup (SqT.of ha) (.cons (.int _) (.cons (.int _) .nil))
theorem Pts.dp {K : PySem.W.Frag} {H : Hp} {ps : List (Int × Int)} {us : List V} (h : Pts H ps us) : DpAll K H us (ps.map ptD) := by
  obtain ⟨zs, rfl, rfl, hz⟩ := h.zip
  clear h
  induction zs with
  | nil => exact .nil
  | cons z zs ih => exact .cons (pt_dp (hz z (by simp))) (ih fun y hy => hz y (by simp [hy]))
theorem ptD_lay (p : Int × Int) : (ptD p).canLay0 = true := by simp [ptD, PyData.canLay0, PyData.canLayAll0]
theorem ptD_depth (p : Int × Int) : (ptD p).depth = 1 := by simp [ptD, PyData.depth, PyData.depthAll]
theorem ptDs_lay : ∀ ps : List (Int × Int), PyData.canLayAll0 (ps.map ptD) = true
  | [] => by simp [PyData.canLayAll0]
  | p :: ps => by simp [PyData.canLayAll0, ptD_lay p, ptDs_lay ps]
theorem ptDs_depth : ∀ ps : List (Int × Int), PyData.depthAll (ps.map ptD) ≤ 1
  | [] => by simp [PyData.depthAll]
  | p :: ps => by
    have h1 := ptDs_depth ps
    have h2 := ptD_depth p
    simp only [List.map_cons, PyData.depthAll]
    omega
theorem ptD_shaped (p : Int × Int) : SeqAt.shaped (ptD p) = true := by
  unfold SeqAt.shaped
  rw [ptD_lay, ptD_depth]
  rfl
theorem ptDs_shaped (ps : List (Int × Int)) : SeqAt.shaped (.list (ps.map ptD)) = true := by
  have h1 := ptDs_depth ps
  have h2 : PyData.depth (.list (ps.map ptD)) ≤ 64 := by
    simp only [PyData.depth]
    omega
  unfold SeqAt.shaped
  rw [decide_eq_true h2, Bool.and_true]
  simp only [PyData.canLay0]
  exact ptDs_lay ps
theorem ptD_eqv (p q : Int × Int) : PyData.eqv (ptD p) (ptD q) = decide (p = q) := PySem.W.Datum.eqv (α := Int × Int) p q
/-- the least of them -/
def minP (ps : List (Int × Int)) : Int × Int := match ps with
  | [] => (0, 0)
  | x :: xs => PySem.W.minOf x xs
def rMinP (K : PySem.W.Frag) : List V → Hp → VK → Prop := fun vs H Q => ∃ (a : Addr) (ps : List (Int × Int)) (us : List V), vs = [.ref a] ∧ SqL K H a us ∧ Pts H ps us ∧ ps ≠ [] ∧ ∀ v, PtAt H (minP ps) v → Q v H
theorem cr_minP {X : Cx} (hc : X.calm = true) (hu : X.A.units + 8 < cLine) : CallR X (.builtin "min") (rMinP X.K) := by
  intro pins s σ H vs us Q I r h
  obtain ⟨a, ps, ws, rfl, hs, hp, hne, q⟩ := h
  obtain ⟨its, rv, hl, hlen⟩ := I.list hs
  obtain ⟨u, rfl, ru⟩ := vals1 r
  cases ru
  obtain ⟨as, hr⟩ := Dp.readsAll I (ps.map ptD) ws its hp.dp rv
  cases ps with
  | nil => exact absurd rfl hne
  | cons p ps =>
    refine PySem.W.min_list_datum (α := Int × Int) (x := p) (xs := ps) (I.ok.hd hc) hl.isList ⟨as, hr⟩ (by show X.A.units + 1 + _ < _; refine Nat.lt_of_le_of_lt (Nat.add_le_add_left (show PySem.W.Datum.depth (Int × Int) ≤ 7 by decide) _) ?_; omega) fun i v h' tk hv hold keep => ?_
    have hv' : its[i]? = some v := by simpa using hv
    have hi : i < its.length := (List.getElem?_eq_some_iff.mp hv').1
    have hiw : i < ws.length := by rw [rv.length]; exact hi
    obtain ⟨u, hu', rel⟩ := rv.get (getD_some hiw)
    rw [hv'] at hu'
    obtain rfl : v = u := Option.some.inj hu'
    have hip : i < (p :: ps).length := by rw [← hp.len]; exact hiw
    have pt := hp.pt i hip
    have I' : Inv X pins σ H { s with heap := h', toks := tk } := I.kept keep
    refine ⟨_, H, I', rel, q _ ?_⟩
    obtain ⟨bs, r2⟩ := Dp.reads I' (ptD ((p :: ps).getD i (0, 0))) _ v (pt_dp pt) rel
    obtain ⟨cs, r3⟩ := hold
    have e2 := PySem.SeqAt.readOf_plain (PySem.W.Datum.plain (α := Int × Int) ((p :: ps).getD i (0, 0))) r2
    have e3 := PySem.SeqAt.readOf_plain (PySem.W.Datum.plain (α := Int × Int) (PySem.W.minOf p ps)) r3
    have e4 : ptD ((p :: ps).getD i (0, 0)) = ptD (PySem.W.minOf p ps) := e2.symm.trans e3
    have e5 : (p :: ps).getD i (0, 0) = PySem.W.minOf p ps := by
      have z := ptD_eqv ((p :: ps).getD i (0, 0)) (PySem.W.minOf p ps)
      have z2 := ptD_eqv (PySem.W.minOf p ps) (PySem.W.minOf p ps)
      rw [e4, z2] at z
      simpa using z
    rw [e5] at pt
    exact pt
section
variable {P : Program} {w : World} {K : PySem.W.Frag} {mg : Str → Option Value} {base : Heap} {A : Cl}
/-! ### area_of -/
def areaI (ps : List (Int × Int)) : Int := ((List.range ps.length).map fun i => crossI (edgeI ps i).1 (edgeI ps i).2).sum
def spArea : Sp := fun vs H Q _ => ∃ (c : Addr) (tp : Bool) (ps : List (Int × Int)) (us : List V), vs = [.ref c] ∧ H c = some (boxU tp us) ∧ Pts H ps us ∧ BdL 1100 ps ∧ ps.length ≤ 1000 ∧ ∀ H', Same H H' → Q (.int (areaI ps)) H'
abbrev N33 : List Str := ["corners", "start", "end"]
theorem sc33 : FnScope N33 ["corners"] (defScope (topS 33)) := ⟨rfl, rfl, rfl, by decide +kernel, rfl, by decide +kernel, by decide +kernel⟩
theorem ok_area_of (Fr : Free mg) (D : Df K mg "area_of" 33) (cE : Ca P w K mg base CX0 1 "edges_of" spEdges []) (cC : Ca P w K mg base CX0 1 "cross_of" spCross []) : Ca P w K mg base CX0 3 "area_of" spArea [] := by
  refine ca_of D sc33 (fun vs H Q E h => ?_) (fun _ _ _ _ _ _ us hl => match us, hl with | [_], _ => rfl) (fun f cdv Ar outer s H vs Q E hr h => ?_)
  · obtain ⟨c, tp, ps, us, rfl, _⟩ := h
    rfl
  · obtain ⟨c, tp, ps, us, rfl, hc, hp, hb, hn, q⟩ := h
    refine ⟨_, pss_one (ps_ret (pe_callB (cr_sum rfl) (by rfl) Fr.sum (by decide +kernel) (pa_cons (pe_lc (own := [("start", 1), ("end", 2)]) (g := gTup K 2 (gCons (gName 1) (gCons (gName 2) gNil))) rfl sc33.nd (pi_list (pe_ca0 cE hr (by decide) (pa_cons (pv 0) pa_nil)))
      (blkOk_by (own := [("start", 1), ("end", 2)]) (N := N33) (sc := defScope (topS 33)) (by decide +kernel))
      (fun _ _ _ _ _ => pg_tup rfl (pgs_cons (pg_name (i := 1) sc33.nd rfl (Or.inl rfl)) (pgs_cons (pg_name (i := 2) sc33.nd rfl (Or.inl rfl)) pgs_nil)))
      (fun _ _ _ _ _ => pts_nil)
      (fun _ _ _ _ _ => pe_ca0 cC hr (by decide) (pa_cons (pv 1) (pa_cons (pv 2) pa_nil)))) pa_nil))), ?_⟩
    refine ⟨_, rfl, c, tp, ps, us, rfl, hc, hp, hn, fun H1 L ws s1 hL hw => ?_⟩
    refine ⟨L, rfl, ⟨ws, SqL.of hL⟩, fun D hD => ?_⟩
    have LD : L ≠ D := fun y => by rw [y, hD] at hL; cases hL
    refine lc_list (K := K) (a := L) (xs := ws) (fun i H' => Same H1 H' ∧ H' D = some (.lst ((((List.range i).map fun j => crossI (edgeI ps j).1 (edgeI ps j).2)).map V.int))) ⟨sNew hD _, upd_same⟩ (fun i H' _ h => SqL.of (h.1 _ _ hL)) ?_ ?_
    · rintro i x H' hx ⟨s2, hd⟩
      have hi : i < ps.length := by
        have z := (List.getElem?_eq_some_iff.mp hx).1
        rw [hw.len] at z
        exact z
      have ex : x = ws.getD i .non := by
        rw [getD_some (by rw [hw.len]; exact hi)] at hx
        exact (Option.some.inj hx).symm
      have q2 : (i + 1) % ps.length < ps.length := Nat.mod_lt _ (by omega)
      have ed := (hw.same s2).ed i hi
      rw [← ex] at ed
      obtain ⟨e1, u, v, rfl, he, pu, pv'⟩ := ed
      have b1 : BdP 4000 (edgeI ps i).1 := ⟨(hb.at hi).1.mono (by decide), (hb.at hi).2.mono (by decide)⟩
      have b2 : BdP 4000 (edgeI ps i).2 := ⟨(hb.at q2).1.mono (by decide), (hb.at q2).2.mono (by decide)⟩
      refine ⟨e1, _, rfl, SqT.of he, rfl, _, _, rfl, _, _, rfl, rfl, rfl, ?_⟩
      refine ⟨_, rfl, _, rfl, _, _, _, _, rfl, pu, pv', b1, b2, _, hd, ?_, sPut s2 hD, ?_⟩
      · simp only [List.length_map, List.length_range]
        rw [sizeLine_eq]
        omega
      · rw [upd_same, List.range_succ, List.map_append, List.map_append]
        rfl
    · rintro H' ⟨s2, hd⟩
      refine ⟨D, _, rfl, SqL.of hd, ?_⟩
      have z := q H' (s1.trans s2)
      unfold areaI at z
      rw [hw.len]
      exact z

/-! ### arranged -/
def ordI (ps : List (Int × Int)) : List (Int × Int) := if 0 < areaI ps then ps else ps.reverse
def firstIx (o : List (Int × Int)) : Nat := o.idxOf (minP o)
def arrI (ps : List (Int × Int)) : List (Int × Int) := (ordI ps).drop (firstIx (ordI ps)) ++ (ordI ps).take (firstIx (ordI ps))
def spArr : Sp := fun vs H Q _ => ∃ (c : Addr) (tp : Bool) (ps : List (Int × Int)) (us : List V), vs = [.ref c] ∧ H c = some (boxU tp us) ∧ Pts H ps us ∧ BdL 1100 ps ∧ ps.length ≤ 1000 ∧ ps ≠ [] ∧
  ∀ H' T ws, Same H H' → H' T = some (.tup ws) → Pts H' (arrI ps) ws → Q (.ref T) H'
abbrev N34 : List Str := ["corners", "ordered", "first"]
theorem sc34 : FnScope N34 ["corners"] (defScope (topS 34)) := ⟨rfl, rfl, rfl, by decide +kernel, rfl, by decide +kernel, by decide +kernel⟩
theorem minOf_mem {p : Int × Int} : ∀ {ps : List (Int × Int)}, PySem.W.minOf p ps ∈ p :: ps := by
  intro ps
  unfold PySem.W.minOf
  induction ps generalizing p with
  | nil => simp
  | cons q ps ih =>
    rw [List.foldl_cons]
    split
    · rcases List.mem_cons.mp (@ih q) with y | y
      · exact List.mem_cons_of_mem _ (List.mem_cons.mpr (.inl y))
      · exact List.mem_cons_of_mem _ (List.mem_cons_of_mem _ y)
    · rcases List.mem_cons.mp (@ih p) with y | y
      · exact List.mem_cons.mpr (.inl y)
      · exact List.mem_cons_of_mem _ (List.mem_cons_of_mem _ y)
theorem room65 {k : Nat} {A : Around} (r : Room k A) : A.units + 65 < cLine := by
  have := r.un
  omega
theorem minP_mem {ps : List (Int × Int)} (h : ps ≠ []) : minP ps ∈ ps := by
  cases ps with
  | nil => exact absurd rfl h
  | cons p ps => exact minOf_mem
theorem ok_arranged (Fr : Free mg) (D : Df K mg "arranged" 34) (cA : Ca P w K mg base CX0 3 "area_of" spArea []) : Ca P w K mg base CX0 4 "arranged" spArr [] := by
  refine ca_of D sc34 (fun vs H Q E h => ?_) (fun _ _ _ _ _ _ us hl => match us, hl with | [_], _ => rfl) (fun f cdv Ar outer s H vs Q E hr h => ?_)
  · obtain ⟨c, tp, ps, us, rfl, _⟩ := h
    rfl
  · obtain ⟨c, tp, ps, us, rfl, hc, hp, hb, hn, hne, q⟩ := h
    refine ⟨_, pss_cons (ps_set (i := 1) sc34.nd rfl (Or.inl rfl) (pe_ifExp (pt_cmpR op_gt (pe_ca0 cA hr (by decide) (pa_cons (pv 0) pa_nil)) pe_int (nomark _)) (pe_callTy call_list_of (by rfl) Fr.list (by decide +kernel) (pa_cons (pv 0) pa_nil))
      (pe_revL (pe_callTy call_list_of (by rfl) Fr.list (by decide +kernel) (pa_cons (pv 0) pa_nil)))))
      (pss_cons (ps_set (i := 2) sc34.nd rfl (Or.inl rfl) (pe_bm PySem.F.plainAttrs_list PySem.F.slot_list_index PySem.F.type_list_index (mt_indexD (room65 hr)) (pv 1) (pa_cons (pe_callB (cr_minP rfl (Nat.lt_of_le_of_lt (Nat.add_le_add_left (by decide : 8 ≤ 65) _) (room65 hr))) (by rfl) Fr.min (by decide +kernel) (pa_cons (pv 1) pa_nil)) pa_nil)))
      (pss_one (ps_ret (pe_callTy call_tuple_of (by rfl) Fr.tuple (by decide +kernel) (pa_cons (pe_op op_cat (pe_slice sl_list (pv 1) (po_some (pv 2)) po_none) (pe_slice sl_list (pv 1) po_none (po_some (pv 2)))) pa_nil))))), ?_⟩
    refine ⟨_, rfl, c, tp, ps, us, rfl, hc, hp, hb, hn, fun H1 s1 => ⟨_, _, rfl, rfl, _, rfl, ?_⟩⟩
    have ord : ∀ H2 O ws, Same H H2 → H2 O = some (.lst ws) → Pts H2 (ordI ps) ws → tSeq (tAsg (tBM K "list" (rIndexD K) (tVar 1) (tCons (tCB (rMinP K) (tCons (tVar 1) tNil)) tNil)) (gName 2)) (tRet (tCB (fun xs H Q => ∃ p ys, xs = [.ref p] ∧ ((SqL K H p ys ∧ ∀ l, H l = none → Q (.ref l) (upd H l (.tup ys))) ∨ (SqT K H p ys ∧ Q (.ref p) H)))
        (tCons (tOp rCat (tSl (rSlL K) (tVar 1) (tPart (tVar 2)) tNoPart) (tSl (rSlL K) (tVar 1) tNoPart (tPart (tVar 2)))) tNil))) { nx := fun _ H' => Q .non H', rt := Q } [some (.ref c), some (.ref O), none] H2 := fun H2 O ws s2 hO hw => by
      have oe : ordI ps ≠ [] := by
        unfold ordI
        split
        · exact hne
        · simpa using hne
      have ol : (ordI ps).length = ps.length := by
        unfold ordI
        split
        · rfl
        · simp
      have mem := minP_mem oe
      have jl : firstIx (ordI ps) < (ordI ps).length := List.idxOf_lt_length_of_mem mem
      refine ⟨_, rfl, .inl ⟨rfl, _, SqL.of hO⟩, _, rfl, O, ordI ps, ws, rfl, SqL.of hO, hw, oe, fun v hv => ?_⟩
      refine ⟨O, v, ptD (minP (ordI ps)), (ordI ps).map ptD, firstIx (ordI ps), ptD (minP (ordI ps)), rfl, rfl, .lst (SqL.of hO) hw.dp, pt_dp hv, ptDs_shaped _, ptD_shaped _, ?_, ?_, fun m z' hm hz => ?_, ?_⟩
      · rw [List.getElem?_map, List.getElem?_eq_getElem jl]
        show some (ptD _) = _
        rw [show (ordI ps)[firstIx (ordI ps)] = minP (ordI ps) from List.getElem_idxOf jl]
      · rw [ptD_eqv]
        simp
      · rw [List.getElem?_map, List.getElem?_eq_getElem (Nat.lt_trans hm jl)] at hz
        have ez : z' = ptD _ := (Option.some.inj hz).symm
        rw [ez, ptD_eqv]
        refine decide_eq_false fun y => ?_
        have q := List.not_of_lt_findIdx (p := (· == minP (ordI ps))) hm
        rw [y] at q
        simp at q
      · have hj : firstIx (ordI ps) ≤ ws.length := by rw [hw.len]; exact Nat.le_of_lt jl
        have c1 : cutV ws (some ((firstIx (ordI ps) : Nat) : Int)) none = ws.drop (firstIx (ordI ps)) := by
          unfold cutV
          rw [HT.sIx_nat, HT.sIx_none, Nat.min_eq_left hj, List.take_of_length_le (by rw [List.length_drop]; exact Nat.le_refl _)]
        have c2 : cutV ws none (some ((firstIx (ordI ps) : Nat) : Int)) = ws.take (firstIx (ordI ps)) := by
          unfold cutV
          rw [HT.sIx_nat, HT.sIx_none, Nat.min_eq_left hj, List.drop_zero, Nat.sub_zero]
        refine ⟨_, rfl, _, rfl, _, rfl, O, ws, rfl, SqL.of hO, fun p1 h1 => ?_⟩
        rw [c1]
        have O1 : O ≠ p1 := fun y => by rw [y, h1] at hO; cases hO
        have hO1 : upd H2 p1 (.lst (ws.drop (firstIx (ordI ps)))) O = some (.lst ws) := (upd_ne O1).trans hO
        refine ⟨_, rfl, _, rfl, _, rfl, O, ws, rfl, SqL.of hO1, fun p2 h2 => ?_⟩
        rw [c2]
        have p12 : p1 ≠ p2 := fun y => by rw [← y, upd_same] at h2; cases h2
        refine ⟨p1, p2, _, _, rfl, rfl, (upd_ne p12).trans upd_same, upd_same, ?_, fun p3 h3 => ?_⟩
        · rw [List.length_drop, List.length_take, sizeLine_eq]
          have := hw.len
          omega
        · refine ⟨p3, _, rfl, .inl ⟨SqL.of upd_same, fun t ht => ?_⟩⟩
          have s3 : Same H2 (upd (upd (upd (upd H2 p1 (.lst (ws.drop (firstIx (ordI ps))))) p2 (.lst (ws.take (firstIx (ordI ps))))) p3 (.lst (ws.drop (firstIx (ordI ps)) ++ ws.take (firstIx (ordI ps))))) t (.tup (ws.drop (firstIx (ordI ps)) ++ ws.take (firstIx (ordI ps))))) :=
            (((sNew h1 _).trans (sNew h2 _)).trans (sNew h3 _)).trans (sNew ht _)
          exact q _ t _ (s2.trans s3) upd_same ((hw.turn _).same s3)
    have fresh : ∀ {H2 : Hp} {l : Addr} {o : HO}, Same H H2 → H2 l = none → Same H (upd H2 l o) := fun s2 hl => s2.trans (sNew hl _)
    have sq := box_sq (K := K) (s1 _ _ hc)
    refine ite2 (fun z => ?_) fun z => ?_
    · refine ⟨_, rfl, c, us, rfl, ?_, fun l hl => ?_⟩
      · cases tp with
        | true => exact .inr sq
        | false => exact .inl sq
      · refine ord _ l us (fresh s1 hl) upd_same ?_
        have e : ordI ps = ps := if_pos (by simpa using z)
        rw [e]
        exact hp.same (fresh s1 hl)
    · refine ⟨_, rfl, c, us, rfl, ?_, fun l hl => ⟨l, us, rfl, SqL.of upd_same, fun r hr' => ?_⟩⟩
      · cases tp with
        | true => exact .inr sq
        | false => exact .inl sq
      · have s3 := fresh (o := .lst us.reverse) (fresh (o := .lst us) s1 hl) hr'
        refine ord _ r us.reverse s3 upd_same ?_
        have e : ordI ps = ps.reverse := if_neg (by simpa using z)
        rw [e]
        exact (hp.same s3).rev
end
end K82
set_option Elab.async false
set_option linter.all false
set_option maxRecDepth 100000
set_option maxHeartbeats 400000
namespace K82
open PySem PySem.Spec PyProof.Rows L2 GenW K82G
section
variable {P : Program} {w : World} {K : PySem.W.Frag} {mg : Str → Option Value} {base : Heap} {A : Cl}
/-- a box is a list or a tuple -/
theorem isi_pr : Paired ClsV [V.ty "list", V.ty "tuple"] [Value.type "list", Value.type "tuple"] := .cons (.ty "list") (.cons (.ty "tuple") .nil)
theorem isi_box {H : Hp} {c : Addr} {tp : Bool} {us : List V} (hc : H c = some (boxU tp us)) : ∃ t, TyX K H (.ref c) t ∧ PySem.W.kitAny K t [Value.type "list", Value.type "tuple"] = some true := by
  cases tp with
  | true => exact ⟨.type "tuple", .base (.tup hc), kitAny_cons (b := false) (kit_ty (by decide +kernel)) (fun _ => kitAny_cons (b := true) (kit_ty (by decide +kernel)) (fun z => by cases z) (fun _ => rfl)) (fun z => by cases z)⟩
  | false => exact ⟨.type "list", .base (.lst hc), kitAny_cons (b := true) (kit_ty (by decide +kernel)) (fun z => by cases z) (fun _ => rfl)⟩
def spChkPts : Sp := fun vs H Q _ => ∃ (c : Addr) (tp : Bool) (ps : List (Int × Int)) (us : List V), vs = [.ref c] ∧ H c = some (boxU tp us) ∧ Pts H ps us ∧ ∀ H', Same H H' → Q .non H'
abbrev N25 : List Str := ["value", "position", "item"]
theorem sc25 : FnScope N25 ["value"] (defScope (topS 25)) := ⟨rfl, rfl, rfl, by decide +kernel, rfl, by decide +kernel, by decide +kernel⟩
theorem ok_check_points (Fr : Free mg) (D : Df K mg "check_points" 25) (cI : Ca P w K mg base CX0 2 "is_point" spIsPoint []) : Ca P w K mg base CX0 3 "check_points" spChkPts [] := by
  refine ca_of D sc25 (fun vs H Q E h => ?_) (fun _ _ _ _ _ _ us hl => match us, hl with | [_], _ => rfl) (fun f cdv Ar outer s H vs Q E hr h => ?_)
  · obtain ⟨c, tp, ps, us, rfl, _⟩ := h
    rfl
  · obtain ⟨c, tp, ps, us, rfl, hc, hp, q⟩ := h
    refine ⟨_, pss_cons (ps_if (pt_not (pt_val (pe_callB call_isiT (by rfl) Fr.isi (by decide +kernel) (pa_cons (pv 0) (pa_cons (pe_tup (pa_cons (pe_bltn (v := .ty "list") (by rfl) Fr.list (by decide +kernel) rfl) (pa_cons (pe_bltn (v := .ty "tuple") (by rfl) Fr.tuple (by decide +kernel) rfl) pa_nil))) pa_nil))))) pss_never pss_nil)
      (pss_one (ps_for (passes_of rfl) rfl (pi_enumB (by rfl) Fr.enumerate (pa_cons (pv 0) pa_nil)) (pg_tup rfl (pgs_cons (pg_name (i := 1) sc25.nd rfl (Or.inl rfl)) (pgs_cons (pg_name (i := 2) sc25.nd rfl (Or.inl rfl)) pgs_nil)))
        (pss_one (ps_if (pt_not (pt_val (pe_ca0 cI hr (by decide) (pa_cons (pv 2) pa_nil)))) pss_never pss_nil)))), ?_⟩
    refine ⟨_, rfl, by show 2 ≤ sizeLine; decide, fun T hT => ?_⟩
    obtain ⟨ty, tyx, kit⟩ := isi_box (K := K) (tp := tp) (us := us) ((upd_ne (o := .tup [.ty "list", .ty "tuple"]) (fun y => by rw [y, hT] at hc; cases hc)).trans hc)
    refine ⟨_, T, _, ty, _, true, rfl, upd_same, isi_pr, tyx, kit, true, rfl, iteF ?_⟩
    have sT : Same H (upd H T (.tup [.ty "list", .ty "tuple"])) := sNew hT _
    refine ⟨_, rfl, c, us, tp, rfl, box_sq (sT _ _ hc), ?_⟩
    refine for_enumB (K := K) (fun i σ H' => (∃ a1 a2, σ = [some (.ref c), a1, a2]) ∧ Same H H') ⟨⟨_, _, rfl⟩, sT⟩ (fun i σ H' _ h => box_sq (h.2 _ _ hc)) ?_ ?_
    · rintro i x σ H' T' hx ⟨⟨a1, a2, rfl⟩, s1⟩ hT'
      have hi : i < us.length := (List.getElem?_eq_some_iff.mp hx).1
      have hi' : i < ps.length := by rw [← hp.len]; exact hi
      have ex : x = us.getD i .non := by
        rw [getD_some hi] at hx
        exact (Option.some.inj hx).symm
      have s2 := s1.trans (sNew hT' (.tup [.int (i : Nat), x]))
      refine ⟨T', _, rfl, SqT.of upd_same, rfl, _, _, rfl, _, _, rfl, rfl, ?_⟩
      have z := (hp.pt i hi').same s2
      rw [← ex] at z
      exact ⟨_, rfl, _, x, rfl, z, fun H3 s3 => ⟨true, rfl, iteF ⟨⟨_, _, rfl⟩, s2.trans s3⟩⟩⟩
    · rintro σ H' ⟨_, s1⟩
      exact q H' s1

/-! ### checked_corners -/
def OkPoly (ps : List (Int × Int)) : Prop := (3 ≤ ps.length ∧ ps.length ≤ 60) ∧ TurnsOk ps ∧ CrossOk ps
def spChecked (A : Cl) : Sp := fun vs H Q E => ∃ (c : Addr) (tp : Bool) (ps : List (Int × Int)) (us : List V), vs = [.ref c, .int 60] ∧ H c = some (boxU tp us) ∧ Pts H ps us ∧ BdL 1100 ps ∧
  (OkPoly ps → ∀ H' T ws, Same H H' → H' T = some (.tup ws) → Pts H' (arrI ps) ws → Q (.ref T) H') ∧ (¬ OkPoly ps → ∀ cls d H', Shp A cls → Same H H' → E cls d H')
abbrev N35 : List Str := ["corners", "limit"]
theorem sc35 : FnScope N35 ["corners", "limit"] (defScope (topS 35)) := ⟨rfl, rfl, rfl, by decide +kernel, rfl, by decide +kernel, by decide +kernel⟩
theorem ok_checked (Fr : Free mg) (D : Df K mg "checked_corners" 35) (hMC : ∃ u, mg "MIN_CORNERS" = some u ∧ RelV (.int 3) u) (cP : Ca P w K mg base CX0 3 "check_points" spChkPts []) (cT : Ca P w K mg base (L2N.CX P w) 4 "check_turns" (spTurns A) [])
    (cX : Ca P w K mg base (L2N.CX P w) 5 "check_crossings" (spCross2 A) []) (cA : Ca P w K mg base CX0 4 "arranged" spArr []) (oI : Oe P w K mg base "InvalidPolygon" A.ip (spX1 A.ip)) :
    Ca P w K mg base (L2N.CX P w) 6 "checked_corners" (spChecked A) [] := by
  refine ca_of D sc35 (fun vs H Q E h => ?_) (fun _ _ _ _ _ _ us hl => match us, hl with | [_, _], _ => rfl) (fun f cdv Ar outer s H vs Q E hr h => ?_)
  · obtain ⟨c, tp, ps, us, rfl, _⟩ := h
    rfl
  · obtain ⟨c, tp, ps, us, rfl, hc, hp, hb, ok, ko⟩ := h
    have tk : L2N.Takes (cxOf (L2N.CX P w) P w K mg base N35 "checked_corners" (defScope (topS 35)) f cdv Ar outer s H E) (fun cls d _ H' => E cls d H') := L2N.takes_of rfl rfl rfl rfl
    have ps' : Passes (L2N.CX P w) (cxOf (L2N.CX P w) P w K mg base N35 "checked_corners" (defScope (topS 35)) f cdv Ar outer s H E) E := L2N.passes_call tk fun _ _ _ _ h => h
    refine ⟨_, pss_cons (ps_if (PW.pt (pw_or (pt_not (pt_val (pe_callB call_isiT (by rfl) Fr.isi (by decide +kernel) (pa_cons (pv 0) (pa_cons (pe_tup (pa_cons (pe_bltn (v := .ty "list") (by rfl) Fr.list (by decide +kernel) rfl) (pa_cons (pe_bltn (v := .ty "tuple") (by rfl) Fr.tuple (by decide +kernel) rfl) pa_nil))) pa_nil)))))
        (pw_or1 (pt_not (pt_chain op_le op_le (C8.pe_gc (by rfl) hMC) (pe_callB call_lenB (by rfl) Fr.len (by decide +kernel) (pa_cons (pv 0) pa_nil)) (pv 1))))))
        (pss_one (L2N.ps_raise rfl tk (pmk_oe oI (hr.mono (by decide)) (by rfl) (pa_cons pe_non pa_nil)))) pss_nil)
      (pss_cons (ps_expr (pe_ca0 cP hr (by decide) (pa_cons (pv 0) pa_nil)))
      (pss_cons (ps_expr (pe_ca cT hr (by decide) ps' (pa_cons (pv 0) pa_nil)))
      (pss_cons (ps_expr (pe_ca cX hr (by decide) ps' (pa_cons (pv 0) pa_nil)))
      (pss_one (ps_ret (pe_ca0 cA hr (by decide) (pa_cons (pv 0) pa_nil))))))), ?_⟩
    refine ⟨_, rfl, by show 2 ≤ sizeLine; decide, fun T hT => ?_⟩
    obtain ⟨ty, tyx, kit⟩ := isi_box (K := K) (tp := tp) (us := us) ((upd_ne (o := .tup [.ty "list", .ty "tuple"]) (fun y => by rw [y, hT] at hc; cases hc)).trans hc)
    refine ⟨_, T, _, ty, _, true, rfl, upd_same, isi_pr, tyx, kit, true, rfl, iteF ?_⟩
    have sT : Same H (upd H T (.tup [.ty "list", .ty "tuple"])) := sNew hT _
    refine ⟨_, rfl, c, us, tp, rfl, box_sq (sT _ _ hc), _, _, rfl, rfl, _, rfl, ?_⟩
    have bad : ¬ (3 ≤ ps.length ∧ ps.length ≤ 60) → ∀ cls d H', Shp A cls → Same (upd H T (.tup [.ty "list", .ty "tuple"])) H' → E cls d H' := fun nb cls d H' sh s1 => ko (fun z => nb z.1) cls d H' sh (sT.trans s1)
    have rest : (3 ≤ ps.length ∧ ps.length ≤ 60) → tSeq (tDrop (tCall spChkPts [] E0 (tCons (tVar 0) tNil))) (tSeq (tDrop (tCall (spTurns A) [] E (tCons (tVar 0) tNil))) (tSeq (tDrop (tCall (spCross2 A) [] E (tCons (tVar 0) tNil))) (tRet (tCall spArr [] E0 (tCons (tVar 0) tNil)))))
        { nx := fun _ H' => Q .non H', rt := Q } (L2.start N35 [V.ref c, V.int 60]) (upd H T (.tup [.ty "list", .ty "tuple"])) := fun hn => by
      refine ⟨_, rfl, c, tp, ps, us, rfl, sT _ _ hc, hp.same sT, fun H1 s1' => ?_⟩
      have s1 := sT.trans s1'
      refine ⟨_, rfl, c, tp, ps, us, rfl, s1 _ _ hc, hp.same s1, hb, fun tok H2 s2' => ?_, fun nt cls d H2 sh s2 => ko (fun z => nt z.2.1) cls d H2 sh (s1.trans s2)⟩
      have s2 := s1.trans s2'
      refine ⟨_, rfl, c, tp, ps, us, rfl, s2 _ _ hc, hp.same s2, hb, by omega, fun cok H3 s3' => ?_, fun nt cls d H3 sh s3 => ko (fun z => nt z.2.2) cls d H3 sh (s2.trans s3)⟩
      have s3 := s2.trans s3'
      refine ⟨_, rfl, c, tp, ps, us, rfl, s3 _ _ hc, hp.same s3, hb, by omega, fun z => ?_, fun H4 T4 ws s4 hT4 hw => ok ⟨hn, tok, cok⟩ H4 T4 ws (s3.trans s4) hT4 hw⟩
      rw [z] at hn
      exact absurd hn.1 (by decide)
    refine ite2 (fun z => ?_) fun z => ?_
    · refine ⟨_, rfl, _, _, rfl, rfl, _, rfl, ?_⟩
      refine ite2 (fun z2 => ?_) fun z2 => ?_
      · refine mk1 fun d H'' s5 => bad (fun y => ?_) _ _ _ (.inl rfl) s5
        rw [hp.len] at z2
        have : ((ps.length : Nat) : Int) ≤ 60 := by omega
        simp [this] at z2
      · refine rest ⟨?_, ?_⟩
        · rw [hp.len] at z
          simp at z
          omega
        · rw [hp.len] at z2
          simp at z2
          omega
    · refine ⟨_, rfl, iteT ?_⟩
      refine mk1 fun d H'' s5 => bad (fun y => ?_) _ _ _ (.inl rfl) s5
      rw [hp.len] at z
      have : (3 : Int) ≤ ((ps.length : Nat) : Int) := by omega
      simp [this] at z
end
end K82
set_option Elab.async false
set_option linter.all false
set_option maxRecDepth 100000
set_option maxHeartbeats 400000
namespace K82
open PySem PySem.Spec PyProof.Rows L2 GenW K82G ClX
theorem arrI_mem {ps : List (Int × Int)} {p : Int × Int} (h : p ∈ arrI ps) : p ∈ ps := by
  have q : p ∈ ordI ps := by
    rcases List.mem_append.mp h with y | y
    · exact List.mem_of_mem_drop y
    · exact List.mem_of_mem_take y
  unfold ordI at q
  split at q
  · exact q
  · exact List.mem_reverse.mp q
theorem BdL.arr {n : Nat} {ps : List (Int × Int)} (h : BdL n ps) : BdL n (arrI ps) := fun p hp => h p (arrI_mem hp)
def SameX (a : Addr) (H H' : Hp) : Prop := ∀ b u, b ≠ a → H b = some u → H' b = some u
/-- the fields of a made polygon -/
def polyF (T : Addr) (r : Option Nat) : List (Str × V) := putF "reflex" (optV r) (putF "kept" (.ref T) [])
/-- what is known of the class of polygons and the one below it -/
structure PolyC (K : PySem.W.Frag) (mg : Str → Option Value) (A : Cl) : Prop where
  nm : mg "Polygon" = some (.ref A.pg)
  c1 : Cls K A.pg
  c2 : Cls K A.cp
  k1 : NoAttr K A.pg "kept"
  k2 : NoAttr K A.cp "kept"
  r1 : NoAttr K A.pg "reflex"
  r2 : NoAttr K A.cp "reflex"
  mc : ∃ mc u, CRead K A.pg mc ∧ CVal K A.pg mc "MAX_CORNERS" (.int 60) u
section
variable {P : Program} {w : World} {K : PySem.W.Frag} {mg : Str → Option Value} {base : Heap} {A : Cl}
def spPInit (A : Cl) : Sp := fun vs H Q E => ∃ (a C dx c : Addr) (tp : Bool) (ps : List (Int × Int)) (us : List V), vs = [.ref a, .ref c] ∧ (C = A.pg ∨ C = A.cp) ∧ H a = some (.ins C dx []) ∧ H c = some (boxU tp us) ∧ Pts H ps us ∧ BdL 1100 ps ∧
  (OkPoly ps → ∀ H' T ws, SameX a H H' → H' a = some (.ins C dx (polyF T (reflexI (arrI ps)))) → H' T = some (.tup ws) → Pts H' (arrI ps) ws → Q .non H') ∧ (¬ OkPoly ps → ∀ cls d H', Shp A cls → Same H H' → E cls d H')
abbrev stP : Stmt := inClass (topS 38) 1
theorem sc38 : FnScope ["self", "corners"] ["self", "corners"] (defScope stP) := ⟨rfl, rfl, rfl, by decide +kernel, rfl, by decide +kernel, by decide +kernel⟩
theorem ok_poly_init (PC : PolyC K mg A) {f : Addr} {fd : FuncData} (F : FunD K "__init__" "Polygon.__init__" (defArgs stP) (defBody stP) (defScope stP) [] [] f fd) (cC : Ca P w K mg base (L2N.CX P w) 6 "checked_corners" (spChecked A) [])
    (cR : Ca P w K mg base CX0 4 "first_reflex" spReflex []) : FnOk P w K mg base (L2N.CX P w) 7 f fd ["self", "corners"] (spPInit A) := by
  refine F.ok sc38 (fun vs H Q E h => ?_) fun cdv Ar outer s H vs Q E hr h => ?_
  · obtain ⟨a, C, dx, c, tp, ps, us, rfl, _⟩ := h
    rfl
  · obtain ⟨a, C, dx, c, tp, ps, us, rfl, hC, ha, hc, hp, hb, ok, ko⟩ := h
    have tk : L2N.Takes (cxOf (L2N.CX P w) P w K mg base ["self", "corners"] "Polygon.__init__" (defScope stP) f cdv Ar outer s H E) (fun cls d _ H' => E cls d H') := L2N.takes_of rfl rfl rfl rfl
    have ps' : Passes (L2N.CX P w) (cxOf (L2N.CX P w) P w K mg base ["self", "corners"] "Polygon.__init__" (defScope stP) f cdv Ar outer s H E) E := L2N.passes_call tk fun _ _ _ _ h => h
    refine ⟨_, pss_cons (ps_fld (pv 0) (pe_ca cC hr (by decide) ps' (pa_cons (pv 1) (pa_cons (pe_cval (pe_glob (v := .ref A.pg) (by rfl) PC.nm rfl)) pa_nil))) rfl)
      (pss_one (ps_fld (pv 0) (pe_ca0 cR hr (by decide) (pa_cons (pe_fld (pv 0) rfl) pa_nil)) rfl)), ?_⟩
    obtain ⟨mc, u, cr, cv⟩ := PC.mc
    have cls : Cls K C ∧ NoAttr K C "kept" ∧ NoAttr K C "reflex" := by
      rcases hC with z | z <;> rw [z]
      · exact ⟨PC.c1, PC.k1, PC.r1⟩
      · exact ⟨PC.c2, PC.k2, PC.r2⟩
    refine ⟨_, rfl, A.pg, mc, _, u, rfl, cr, cv, c, tp, ps, us, rfl, hc, hp, hb, fun okp H1 T ws s1 hT hw => ?_, fun nk cls d H1 sh s1 => ko nk cls d H1 sh s1⟩
    have ha1 := s1 _ _ ha
    have Ta : T ≠ a := fun y => by rw [y, ha1] at hT; cases hT
    refine ⟨_, rfl, a, C, dx, [], rfl, ha1, cls.1, cls.2.1, (by decide), ?_⟩
    have put : ∀ {H' : Hp} {u v : HO}, SameX a H H' → SameX a H (upd H' a v) := fun s b u n e => (upd_ne n).trans (s b u n e)
    have x1 : SameX a H H1 := fun b u _ e => s1 b u e
    have x2 : SameX a H (upd H1 a (.ins C dx (putF "kept" (.ref T) []))) := put (u := .tup []) x1
    have hT2 : upd H1 a (.ins C dx (putF "kept" (.ref T) [])) T = some (.tup ws) := (upd_ne Ta).trans hT
    have keep : ∀ {v : HO} {q : Int × Int} {z : V}, PtAt H1 q z → PtAt (upd H1 a v) q z := fun {v q z} ⟨b, e, hb'⟩ => ⟨b, e, (upd_ne (fun y => by rw [y, ha1] at hb'; cases hb')).trans hb'⟩
    have hw2 : Pts (upd H1 a (.ins C dx (putF "kept" (.ref T) []))) (arrI ps) ws := ⟨hw.len, fun i hi => keep (hw.pt i hi)⟩
    refine ⟨_, rfl, a, C, dx, _, .ref T, rfl, upd_same, cls.1, cls.2.1, rfl, T, true, arrI ps, ws, rfl, hT2, hw2, hb.arr, fun H3 s3 => ?_⟩
    refine ⟨_, rfl, a, C, dx, _, rfl, s3 _ _ upd_same, cls.1, cls.2.2, (by simp [putF]), ?_⟩
    have x3 : SameX a H H3 := fun b u n e => s3 _ _ (x2 b u n e)
    refine ok okp _ T ws (put (u := .tup []) x3) upd_same ((upd_ne Ta).trans (s3 _ _ hT2)) ⟨hw.len, fun i hi => ?_⟩
    obtain ⟨b, e, hb'⟩ := hw2.pt i hi
    have z := s3 _ _ hb'
    refine ⟨b, e, (upd_ne (fun y => ?_)).trans z⟩
    rw [y, s3 _ _ upd_same] at z
    cases z
end
end K82
set_option Elab.async false
set_option linter.all false
set_option maxRecDepth 100000
set_option maxHeartbeats 400000
namespace K82
open PySem PySem.Spec PyProof.Rows L2 GenW K82G ClX NdefX
/-- a polygon's __init__ in the class below: what stands in the written part -/
structure SupF (P : Program) (K : PySem.W.Frag) (base : Heap) (A : Cl) (name qual : Str) (st : Stmt) (f f2 cc cda : Addr) (fd : FuncData) : Prop where
  ex : ∃ (oc : Value) (od : Option Addr) (dV kV doc pm : Value) (an : Option Addr) (ct : Value) (osl : Array (Option Value)), fd = PySem.W.ksFn name qual (defArgs st) (defBody st) (defScope st) dV kV doc pm an (.ref cda) ct cc ∧ K.lookup f = some ⟨oc, od, .func fd, osl⟩
  code : PySem.W.codeIn K (.ref cda) qual = true
  file : ∃ (cl : Value) (d : Option Addr) (vs : Array Value) (sl : Array (Option Value)) (x : Str) (t : Tok), K.lookup cda = some ⟨cl, d, .fields vs, sl⟩ ∧ vs[2]? = some (.str x t) ∧ ((P.main.file : Str) == x) = true
  top : (P.main.scope.names.lookup ("super" : Str)).isSome = false
  cell : ∃ (cl : Value) (d : Option Addr) (sl : Array (Option Value)), K.lookup cc = some ⟨cl, d, .cell (some (.ref A.cp)), sl⟩
  cls : ∃ cd, PySem.W.clsIn K A.cp = some cd
  sub : PySem.W.mroIn K A.cp (.ref A.cp) = some true
  opq : PySem.W.nsIn K cStatics "thirdparty.any" = some none
  sup : PySem.W.ks_superIn K A.cp A.cp "__init__" = some (some (.ref f2))
  typ : PySem.W.typeIn K (.ref f2) = some (.type "function")
  fin : PySem.W.fnIn K f2 = true
  kp : PySem.W.keepIn K (.ref f) = true
section
variable {P : Program} {w : World} {K : PySem.W.Frag} {mg : Str → Option Value} {base : Heap} {A : Cl}
def spCInit (A : Cl) : Sp := fun vs H Q E => ∃ (a dx c : Addr) (tp : Bool) (ps : List (Int × Int)) (us : List V), vs = [.ref a, .ref c] ∧ H a = some (.ins A.cp dx []) ∧ H c = some (boxU tp us) ∧ Pts H ps us ∧ BdL 1100 ps ∧
  (OkPoly ps → reflexI (arrI ps) = none → ∀ H' T ws, SameX a H H' → H' a = some (.ins A.cp dx (polyF T none)) → H' T = some (.tup ws) → Pts H' (arrI ps) ws → Q .non H') ∧
  (¬ (OkPoly ps ∧ reflexI (arrI ps) = none) → ∀ cls d H', Shp A cls → SameX a H H' → E cls d H')
abbrev stC : Stmt := inClass (topS 39) 0
abbrev N39 : List Str := ["self", "corners", "__class__"]
theorem sc39 : NScope N39 ["self", "corners"] ["__class__"] (defScope stC) := nscope_by (by decide +kernel)
abbrev nfC (cc cda : Addr) : NF := ⟨"__init__", "ConvexPolygon.__init__", defArgs stC, defBody stC, defScope stC, [("__class__", cc)], cda⟩
theorem ok_cp_init (PC : PolyC K mg A) (Fr : Free mg) {f f2 cc cda : Addr} {fd fd2 : FuncData} (S : SupF P K base A "__init__" "ConvexPolygon.__init__" stC f f2 cc cda fd) (F2 : FnOk P w K mg base (L2N.CX P w) 7 f2 fd2 ["self", "corners"] (spPInit A)) (b2 : Binds K fd2 ["self", "corners"] [])
    (oN : Oe P w K mg base "NotConvex" A.nc (spX1 A.nc)) : FnOk P w K mg base (L2N.CX P w) 8 f fd ["self", "corners"] (spCInit A) := by
  refine ⟨fun vs H Q E h => ?_, fun Ar outer s H args us vs Q E hr e0 hb r hsp => ?_⟩
  · obtain ⟨a, dx, c, tp, ps, us, rfl, _⟩ := h
    rfl
  obtain ⟨oc, od, dV, kV, doc, pm, an, ct, osl, rfl, lk⟩ := S.ex
  have KX : K.In s.heap := e0.mod.kin.keeps fun b o e => (e0.bs b o e).1
  have lim : s.heap.NoLimit := e0.mod.nolimit.keeps fun b o e => (e0.bs b o e).1
  have hl : vs.length = 2 := by
    obtain ⟨a, dx, c, tp, ps, us, rfl, _⟩ := hsp
    rfl
  refine codeAny_call_function hr.depth (KX _ _ lk) rfl sc39.co sc39.gen rfl (PySem.W.codeRec_of KX S.code) (hb _ _ _ _ ?_)
  refine wpAny_newFunctionEnv sc39.nocell (fun ⟨n, _⟩ hy => sc39.par n (List.of_mem_zip hy).1) (fun h₁ hns hsb => ⟨lim.fresh _ hsb, ?_⟩) sc39.kind
  show codeAny _ _ (.func (defBody stC) (envF (nfC cc cda) f s.heap.objs.size)) _ _
  refine PySem.ks_codeAny_funcAt ?_
  have kp : ∀ b o, s.heap.get? b = some o → h₁.get? b = some o := fun b o e => hsb.extBut b o (Nat.ne_of_lt (Heap.lt_size e)) (Heap.get?_push_of_some _ e)
  obtain ⟨cl, cd, csl, hcell⟩ := S.cell
  have hcellB := e0.bs cc _ (e0.mod.kin _ _ hcell)
  have Cs : CellsAt [("__class__", cc)] ["__class__"] [none] s.heap H := by
    have one : ∀ y c, List.lookup y [(("__class__" : Str), cc)] = some c → y = "__class__" ∧ c = cc := fun y c e => by
      by_cases z : y = ("__class__" : Str)
      · subst z
        simp [List.lookup] at e
        exact ⟨rfl, e.symm⟩
      · have : (y == ("__class__" : Str)) = false := by simpa using z
        simp [List.lookup, this] at e
    refine ⟨rfl, fun y c e => ?_, fun x y c e1 e2 => by rw [(one x c e1).1, (one y c e2).1], fun i y e => ?_⟩
    · rw [(one y c e).2]
      exact ⟨hcellB.2, _, _, hcellB.1, rfl⟩
    · match i, e with
      | 0, e =>
        cases e
        exact ⟨cc, by simp [List.lookup], fun v z => by simp at z⟩
  have I : Inv (ncx (L2N.CX P w) P w K mg base N39 (nfC cc cda) f Ar outer s H E) [] (startF N39 vs [none]) H { s with heap := h₁, toks := s.toks + ((["self", "corners"] : List Str).zip us).length } := inv_startN sc39 hr.hd e0 hl r Cs hns kp
  obtain ⟨a, dx, c, tp, ps, pv', rfl, ha, hc, hp, hbd, ok, ko⟩ := hsp
  obtain ⟨u1, u2, rfl, ru1, ru2⟩ := vals2 r
  obtain rfl : u1 = Value.ref a := ru1
  obtain rfl : u2 = Value.ref c := ru2
  obtain ⟨ccl, ccd, fvs, ccs, fx, ft, hcode, hfx, hfile⟩ := S.file
  obtain ⟨cdC, hcdC⟩ := S.cls
  have tk : L2N.Takes (ncx (L2N.CX P w) P w K mg base N39 (nfC cc cda) f Ar outer s H E) (fun cls d _ H' => E cls d H') := L2N.takes_of rfl rfl rfl rfl
  have ps' : Passes (L2N.CX P w) (ncx (L2N.CX P w) P w K mg base N39 (nfC cc cda) f Ar outer s H E) E := L2N.passes_call tk fun _ _ _ _ h => h
  have K1 := I.kIn
  refine PySem.ks_wpAt_execs_cons (PySem.ks_wpAt_Expr_any (PySem.ks_wpAt_MethodCall (PySem.ks_wpAt_super_base (of := ⟨oc, od, _, osl⟩) (oc := ⟨ccl, ccd, _, ccs⟩) rfl rfl (by decide) rfl (K1 _ _ lk) rfl rfl rfl (K1 _ _ hcode) rfl hfx hfile S.top ?_)))
  obtain ⟨mb, hb1, hb2⟩ := I.mod.blt
  refine PySem.W.ks_loadName_global rfl rfl (Calls.loadGlobal_builtin (I.mod.glob.keeps I.bk) Fr.super (hb1.keeps I.bk) ((hb2 "super" (by decide)).trans (show bootBuiltins "super" = some (.type "super") by decide +kernel)) ⟨rfl, ?_⟩)
  refine wpAny_loadName_free rfl rfl rfl ⟨_, K1 _ _ hcell, rfl⟩ ?_
  refine wpAny_loadName_local rfl rfl hns rfl ?_
  obtain ⟨oD, hD1, hD2⟩ : ∃ oD, h₁.get? A.cp = some oD ∧ oD.data = .cls cdC := by
    have z := hcdC
    unfold PySem.W.clsIn at z
    split at z
    · rename_i c' d' cd' sl ho
      cases z
      exact ⟨_, K1 _ _ ho, rfl⟩
    · cases z
  refine PySem.ks_wpAny_isType_cls hD1 hD2 ⟨rfl, ?_⟩
  obtain ⟨mA, O, _, _, _, _⟩ := ins_get I.hok ha
  obtain ⟨oda, J, _⟩ := O.look
  refine PySem.ks_wpAny_call_super hD1 hD2 J.at_ J.cls (fun c e => ?_) (PySem.W.looks_mroIn K1 S.sub) (fun h' e k => ?_)
  · have := J.no
    unfold PySem.W.notCls at this
    rw [e] at this
    exact Bool.noConfusion this
  have I2 := I.kept (t' := s.toks + ((["self", "corners"] : List Str).zip [Value.ref a, Value.ref c]).length) k
  obtain ⟨mA', O', _, _, _, _⟩ := ins_get I2.hok ha
  obtain ⟨oda2, J2, _⟩ := O'.look
  have hal : PySem.W.alongIn K "__init__" ((cdC.mro.dropWhile (· != .ref A.cp)).drop 1) = some (some (.ref f2)) := by
    have z := S.sup
    unfold PySem.W.ks_superIn at z
    rw [hcdC] at z
    exact z
  obtain ⟨of2, hof, hofc⟩ : ∃ of2, h'.get? f2 = some of2 ∧ of2.cls = .type "function" := by
    have z : (K.lookup f2).map (·.cls) = some (.type "function") := S.typ
    cases q : K.lookup f2 with
    | none => rw [q] at z; cases z
    | some o => rw [q] at z; exact ⟨o, I2.kIn _ _ q, Option.some.inj z⟩
  refine PySem.ks_wpAny_getMethod_super e (PySem.W.looks_opaque I2.kIn S.opq) (l₀ := cdC.mro) (fun A Q E s k q => wpAny_bind ((PySem.W.looks_clsIn I2.kIn hcdC) A _ E s k (wpAny_pure q))) rfl I2.kIn hal hof hofc (PySem.W.ks_ne I2.kIn J2 hcdC) (by decide) ?_
  have I3 := I2.kept (t' := s.toks + ((["self", "corners"] : List Str).zip [Value.ref a, Value.ref c]).length + 1) (h' := h'.push { cls := .type "method", data := .fields #[.ref f2, .ref a] }) fun b u z => Heap.get?_push_of_some _ z
  have hmo : (h'.push { cls := .type "method", data := .fields #[.ref f2, .ref a] }).get? h'.objs.size = some { cls := .type "method", data := .fields #[.ref f2, .ref a] } := Heap.get?_push_size _ rfl
  have I4 := I3.pinned (fp := [h'.objs.size]) (fun b hb => by obtain rfl := List.mem_singleton.mp hb; exact I2.fpOk (Nat.le_refl _) (I2.hok.fresh (Nat.le_refl _))) (fun b hb => by obtain rfl := List.mem_singleton.mp hb; exact ⟨_, hmo, fun v z => by cases z⟩)
  refine PySem.W.callWith_of (P := PySem.W.MethP K h'.objs.size f2 (.ref a)) rfl (PySem.W.keeps_M S.fin) (Calls.evalArgs_plain ?_)
  refine wpAny_mono ((pa_cons (pv 1) pa_nil).run _ _ _ _ _ (fun vs' H' => vs' = [V.ref c] ∧ H' = H) I4 ⟨_, rfl, rfl, rfl⟩) (fun us' s5 h5 => ?_) fun _ _ z => z
  obtain ⟨vs', H', I5, r5, rfl, rfl⟩ := h5
  obtain ⟨w1, rfl, rw1⟩ := vals1 r5
  obtain rfl : w1 = Value.ref c := rw1
  have hm5 := (I5.pin (h'.objs.size, _) (List.mem_append_right _ (List.mem_append_right _ (mem_pinsAt (List.mem_singleton.mpr rfl) hmo)))).1
  refine ⟨⟨hm5, I5.kIn⟩, ?_⟩
  refine wpAny_call (PySem.ks_codeAny_call_bound hm5 ?_)
  refine codeAny_mono (F2.run _ (envF (nfC cc cda) f s.heap.objs.size :: outer) s5 H' ⟨[.ref a, .ref c], []⟩ [.ref a, .ref c] [.ref a, .ref c] (fun v H2 => OkPoly ps ∧ ∃ T ws, SameX a H' H2 ∧ H2 a = some (.ins A.cp dx (polyF T (reflexI (arrI ps)))) ∧ H2 T = some (.tup ws) ∧ Pts H2 (arrI ps) ws) E
    (hr.deeper _) I5.env0 (b2 s5 [.ref a, .ref c] I5.kIn rfl) (.cons rfl (.cons rfl .nil)) ?_) fun rs s6 hq => ?_
  · exact ⟨a, A.cp, dx, c, tp, ps, pv', rfl, .inr rfl, ha, hc, hp, hbd, fun okp H2 T ws s2 h1 h2 h3 => ⟨okp, T, ws, s2, h1, h2, h3⟩, fun nk cls d H2 sh s2 => ko (fun z => nk z.1) cls d H2 sh fun b u _ e => s2 b u e⟩
  cases rs with
  | error er => exact ps' _ _ H' s5 er s6 I5 hq
  | ok fl =>
    cases fl with
    | next => exact False.elim hq
    | brk => exact False.elim hq
    | cont => exact False.elim hq
    | ret u =>
      obtain ⟨v6, H6, I6, r6, okp, T, ws, sx, ha6, hT6, hw6⟩ := I5.after hq
      have I6' := I6.unpinned
      refine wpAt_of_any ?_
      have look : (polyF T (reflexI (arrI ps))).lookup ("reflex" : Str) = some (optV (reflexI (arrI ps))) := by
        unfold polyF
        rw [lookup_putF, if_pos rfl]
      have rest : ∃ t, PSs (ncx (L2N.CX P w) P w K mg base N39 (nfC cc cda) f Ar outer s H' E) (List.drop 1 (defBody stC)) t ∧ t { nx := fun _ H2 => Q .non H2, rt := Q } (startF N39 [.ref a, .ref c] [none]) H6 := by
        refine ⟨_, pss_one (ps_if (pt_cmp (pc_notN (pe_fld (pv 0) rfl)) rfl) (pss_one (L2N.ps_raise rfl tk (pmk_oe oN ((hr.deeper _).mono (by decide)) (by rfl) (pa_cons (pe_fld (pv 0) rfl) pa_nil)))) pss_nil), ?_⟩
        refine ⟨_, rfl, a, A.cp, dx, _, _, rfl, ha6, PC.c2, PC.r2, look, _, rfl, ?_⟩
        cases hx : reflexI (arrI ps) with
        | none =>
          refine iteF ?_
          rw [hx] at ha6
          exact ok okp hx H6 T ws sx ha6 hT6 hw6
        | some m =>
          refine iteT ?_
          refine ⟨_, rfl, a, A.cp, dx, _, _, rfl, ha6, PC.c2, PC.r2, look, mk1 fun d H7 s7 => ?_⟩
          exact ko (fun z => by rw [hx] at z; exact absurd z.2 (by simp)) _ _ _ (.inr (.inr (.inr (.inr rfl)))) fun b u n e => s7 _ _ (sx b u n e)
      obtain ⟨t, ht, hq2⟩ := rest
      have fin : ∀ {s' : Shared} {σ' : L2.St} {H2 : Hp} {v : V} {u : Value}, Inv (ncx (L2N.CX P w) P w K mg base N39 (nfC cc cda) f Ar outer s H' E) [] σ' H2 s' → L2.RelV v u → Q v H2 → CE outer P w H' s Q u s' :=
        fun {s' σ' H2 v u} J rv q => ⟨v, H2, J.os, J.bare, J.base, J.hok, rv, q⟩
      refine wpAny_mono (ht.run _ _ _ _ _ I6' hq2) (fun fl s' hs => ?_) fun e s' hs => hs
      cases fl with
      | ret u =>
        obtain ⟨v, σ', H2, J, rv, q⟩ := hs
        exact fin J.unpinned rv q
      | next =>
        obtain ⟨σ', H2, J, q⟩ := hs
        exact fin (v := V.non) (u := Value.none) J.unpinned rfl q
      | brk =>
        obtain ⟨_, _, _, q⟩ := hs
        exact False.elim q
      | cont =>
        obtain ⟨_, _, _, q⟩ := hs
        exact False.elim q
end
end K82
set_option Elab.async false
set_option linter.all false
set_option maxRecDepth 100000
set_option maxHeartbeats 400000
namespace K82
open PySem PySem.Spec PyProof.Rows L2 GenW K82G ClX
/-- a polygon as it stands -/
def PolyAt (A : Cl) (H : Hp) (cv : Bool) (ks : List (Int × Int)) (v : V) : Prop := ∃ (a dx T : Addr) (ws : List V), v = .ref a ∧ H a = some (.ins (if cv = true then A.cp else A.pg) dx (polyF T (reflexI ks))) ∧ H T = some (.tup ws) ∧ Pts H ks ws
/-- a property of a class, by its getter's promise -/
structure PropC (P : Program) (w : World) (K : PySem.W.Frag) (mg : Str → Option Value) (base : Heap) (C : Addr) (f : Str) (sp : Sp) : Prop where
  c : Cls K C
  ex : ∃ (p g : Addr) (fd : FuncData) (ps : List Str), PropOf K C f p g ∧ FnOk P w K mg base CX0 1 g fd ps sp ∧ Binds K fd ps []
theorem pe_pp {X : Cx} {C : Addr} {f : Str} {sp : Sp} {e : Expr} {pos : Pos} {ta : TE} (c : PropC X.prog X.w X.K X.mg X.base C f sp) (hr : Room 2 X.A) (he : PE X e ta) (hab : attributeBase e f X.env (eval e X.env) = eval e X.env := by rfl) :
    PE X (.Attribute e f pos) (tProp C sp [] E0 ta) := by
  obtain ⟨p, g, fd, ps, hp, F, b⟩ := c.ex
  exact pe_prop he c.c hp F hr b .nil pass0 hab
section
variable {P : Program} {w : World} {K : PySem.W.Frag} {mg : Str → Option Value} {base : Heap} {A : Cl}
/-- a getter that hands out one field -/
def spFld (f : Str) : Sp := fun vs H Q _ => ∃ (a C dx : Addr) (fs : List (Str × V)) (v : V), vs = [.ref a] ∧ H a = some (.ins C dx fs) ∧ Cls K C ∧ NoAttr K C f ∧ fs.lookup f = some v ∧ Q v H
abbrev stPc : Stmt := inClass (topS 38) 5
theorem sc38c : FnScope ["self"] ["self"] (defScope stPc) := ⟨rfl, rfl, rfl, by decide +kernel, rfl, by decide +kernel, by decide +kernel⟩
theorem ok_corners {f : Addr} {fd : FuncData} (F : FunD K "corners" "Polygon.corners" (defArgs stPc) (defBody stPc) (defScope stPc) [] [] f fd) : FnOk P w K mg base CX0 1 f fd ["self"] (spFld (K := K) "kept") := by
  refine F.ok sc38c (fun vs H Q E h => ?_) fun cdv Ar outer s H vs Q E hr h => ?_
  · obtain ⟨a, C, dx, fs, v, rfl, _⟩ := h
    rfl
  · obtain ⟨a, C, dx, fs, v, rfl, ha, hc, hn, hl, q⟩ := h
    exact ⟨_, pss_one (ps_ret (pe_fld (pv 0) rfl)), _, rfl, a, C, dx, fs, v, rfl, ha, hc, hn, hl, q⟩
def spConv : Sp := fun vs H Q _ => ∃ (a C dx : Addr) (fs : List (Str × V)) (v : V), vs = [.ref a] ∧ H a = some (.ins C dx fs) ∧ Cls K C ∧ NoAttr K C "reflex" ∧ fs.lookup ("reflex" : Str) = some v ∧ Q (.bl (decide (v = .non))) H
abbrev stPv : Stmt := inClass (topS 38) 11
theorem sc38v : FnScope ["self"] ["self"] (defScope stPv) := ⟨rfl, rfl, rfl, by decide +kernel, rfl, by decide +kernel, by decide +kernel⟩
theorem ok_is_convex {f : Addr} {fd : FuncData} (F : FunD K "is_convex" "Polygon.is_convex" (defArgs stPv) (defBody stPv) (defScope stPv) [] [] f fd) : FnOk P w K mg base CX0 1 f fd ["self"] (spConv (K := K)) := by
  refine F.ok sc38v (fun vs H Q E h => ?_) fun cdv Ar outer s H vs Q E hr h => ?_
  · obtain ⟨a, C, dx, fs, v, rfl, _⟩ := h
    rfl
  · obtain ⟨a, C, dx, fs, v, rfl, ha, hc, hn, hl, q⟩ := h
    exact ⟨_, pss_one (ps_ret (pe_cmp (pc_isN (pe_fld (pv 0) rfl)) rfl)), _, rfl, a, C, dx, fs, v, rfl, ha, hc, hn, hl, q⟩

/-! ### to_polygon -/
def ToR (ps : List (Int × Int)) (cv : Bool) (ks : List (Int × Int)) : Prop := OkPoly ps ∧
  ((reflexI (arrI ps) ≠ none ∧ cv = false ∧ ks = arrI ps) ∨ (reflexI (arrI ps) = none ∧ OkPoly (arrI ps) ∧ reflexI (arrI (arrI ps)) = none ∧ cv = true ∧ ks = arrI (arrI ps)))
def spTo (A : Cl) : Sp := fun vs H Q E => ∃ (c : Addr) (tp : Bool) (ps : List (Int × Int)) (us : List V), vs = [.ref c] ∧ H c = some (boxU tp us) ∧ Pts H ps us ∧ BdL 1100 ps ∧
  (∀ cv ks, ToR ps cv ks → ∀ H' v, Same H H' → PolyAt A H' cv ks v → Q v H') ∧ ((¬ ∃ cv ks, ToR ps cv ks) → ∀ cls d H', Shp A cls → Same H H' → E cls d H')
/-- a class that may be made -/
structure MkC (P : Program) (w : World) (K : PySem.W.Frag) (mg : Str → Option Value) (base : Heap) (k : Nat) (x : Str) (C : Addr) (sp : Sp) : Prop where
  nm : mg x = some (.ref C)
  ex : ∃ (f : Addr) (fd : FuncData) (ps : List Str), Mk K C f ∧ FnOk P w K mg base (L2N.CX P w) k f fd ps sp ∧ Binds K fd ps []
theorem pe_mkc {X : Cx} {x : Str} {C : Addr} {sp : Sp} {k j : Nat} {E : XK} {p pos : Pos} {e : Expr} {es : List Expr} {t : TA} (c : MkC X.prog X.w X.K X.mg X.base k x C sp) (hr : Room j X.A) (hk : k + 1 ≤ j) (hx : Passes (L2N.CX X.prog X.w) X E) (ha : PA X (e :: es) t) (hg : Gl X x := by rfl)
    (hdb : (x == ("__debug__" : Str)) = false := by decide) (he : starEach (e :: es) X.env = (false, eval e X.env) :: starEach es X.env := by rfl) (hpl : (backTo pos (starEach es X.env)).any (·.1) = false := by rfl) :
    PE X (.Call (.Name x p) (e :: es) [] pos) (tMake C sp [] E t) := by
  obtain ⟨f, fd, ps, M, F, b⟩ := c.ex
  exact pe_make M F (hr.mono hk) hg c.nm b .nil hx ha hdb he hpl
abbrev N41 : List Str := ["corners", "polygon"]
theorem sc41 : FnScope N41 ["corners"] (defScope (topS 41)) := ⟨rfl, rfl, rfl, by decide +kernel, rfl, by decide +kernel, by decide +kernel⟩
theorem look_kept (T : Addr) (r : Option Nat) : (polyF T r).lookup ("kept" : Str) = some (.ref T) := by
  unfold polyF
  rw [lookup_putF, if_neg (by decide), lookup_putF, if_pos rfl]
theorem look_reflex (T : Addr) (r : Option Nat) : (polyF T r).lookup ("reflex" : Str) = some (optV r) := by
  unfold polyF
  rw [lookup_putF, if_pos rfl]
theorem ok_to_polygon (PC : PolyC K mg A) (D : Df K mg "to_polygon" 41) (mP : MkC P w K mg base 7 "Polygon" A.pg (spPInit A)) (mC : MkC P w K mg base 8 "ConvexPolygon" A.cp (spCInit A)) (pK : PropC P w K mg base A.pg "corners" (spFld (K := K) "kept")) (pV : PropC P w K mg base A.pg "is_convex" (spConv (K := K))) :
    Ca P w K mg base (L2N.CX P w) 10 "to_polygon" (spTo A) [] := by
  refine ca_of D sc41 (fun vs H Q E h => ?_) (fun _ _ _ _ _ _ us hl => match us, hl with | [_], _ => rfl) (fun f cdv Ar outer s H vs Q E hr h => ?_)
  · obtain ⟨c, tp, ps, us, rfl, _⟩ := h
    rfl
  · obtain ⟨c, tp, ps, us, rfl, hc, hp, hb, ok, ko⟩ := h
    have tk : L2N.Takes (cxOf (L2N.CX P w) P w K mg base N41 "to_polygon" (defScope (topS 41)) f cdv Ar outer s H E) (fun cls d _ H' => E cls d H') := L2N.takes_of rfl rfl rfl rfl
    have ps' : Passes (L2N.CX P w) (cxOf (L2N.CX P w) P w K mg base N41 "to_polygon" (defScope (topS 41)) f cdv Ar outer s H E) E := L2N.passes_call tk fun _ _ _ _ h => h
    refine ⟨_, pss_cons (ps_set (i := 1) sc41.nd rfl (Or.inl rfl) (pe_mkc mP hr (by decide) ps' (pa_cons (pv 0) pa_nil)))
      (pss_one (ps_ret (pe_ifExp (pt_val (pe_pp pV (hr.mono (by decide)) (pv 1))) (pe_mkc mC hr (by decide) ps' (pa_cons (pe_pp pK (hr.mono (by decide)) (pv 1)) pa_nil)) (pv 1)))), ?_⟩
    refine ⟨_, rfl, fun x dx hx hdx ne => ?_⟩
    have s0 : Same H (upd (upd H dx (.own x)) x (.ins A.pg dx [])) := (sNew hdx _).trans (sNew ((upd_ne (Ne.symm ne)).trans hx) _)
    have back : ∀ {H'}, SameX x (upd (upd H dx (.own x)) x (.ins A.pg dx [])) H' → Same H H' := fun z b u e => z b u (ne_of_none e hx) (s0 b u e)
    refine ⟨x, A.pg, dx, c, tp, ps, us, rfl, .inl rfl, upd_same, s0 _ _ hc, hp.same s0, hb, fun okp H1 T ws sx h1 hT hw => ⟨rfl, ?_⟩, fun nk cls d H1 sh s1 => ko (fun ⟨cv, ks, z⟩ => nk z.1) cls d H1 sh (s0.trans s1)⟩
    have s1 := back sx
    refine ⟨_, rfl, x, dx, _, rfl, h1, x, A.pg, dx, _, _, rfl, h1, PC.c1, PC.r1, look_reflex _ _, _, rfl, ?_⟩
    cases hr : reflexI (arrI ps) with
    | some m =>
      refine iteF ?_
      exact ⟨_, rfl, ok false _ ⟨okp, .inl ⟨by rw [hr]; simp, rfl, rfl⟩⟩ H1 _ s1 ⟨x, dx, T, ws, rfl, h1, hT, hw⟩⟩
    | none =>
      refine iteT ?_
      refine ⟨_, rfl, x, dx, _, rfl, h1, x, A.pg, dx, _, _, rfl, h1, PC.c1, PC.k1, look_kept _ _, fun y dy hy hdy ne2 => ?_⟩
      have s2 : Same H1 (upd (upd H1 dy (.own y)) y (.ins A.cp dy [])) := (sNew hdy _).trans (sNew ((upd_ne (Ne.symm ne2)).trans hy) _)
      have back2 : ∀ {H'}, SameX y (upd (upd H1 dy (.own y)) y (.ins A.cp dy [])) H' → Same H1 H' := fun z b u e => z b u (ne_of_none e hy) (s2 b u e)
      refine ⟨y, dy, T, true, arrI ps, ws, rfl, upd_same, s2 _ _ hT, hw.same s2, hb.arr, fun ok2 r2 H2 T2 ws2 sx2 h2 hT2 hw2 => ⟨rfl, ?_⟩, fun nk cls d H2 sh sx2 => ?_⟩
      · refine ok true _ ⟨okp, .inr ⟨hr, ok2, r2, rfl, rfl⟩⟩ H2 _ (s1.trans (back2 sx2)) ⟨y, dy, T2, ws2, rfl, ?_, hT2, hw2⟩
        rw [r2]
        exact h2
      · refine ko (fun ⟨cv, ks, z⟩ => ?_) cls d H2 sh (s1.trans (back2 sx2))
        rcases z.2 with y | y
        · exact y.1 hr
        · exact nk ⟨y.2.1, y.2.2.1⟩
end
end K82
set_option Elab.async false
set_option linter.all false
set_option maxRecDepth 100000
set_option maxHeartbeats 400000
namespace K82
open PySem PySem.Spec PyProof.Rows L2 GenW K82G ClX
/-- an own error without own __init__ -/
structure Op (K : PySem.W.Frag) (mg : Str → Option Value) (x : Str) (C : Addr) : Prop where
  nm : mg x = some (.ref C)
  exi : ∃ bmB newId initId, ExcBaseFacts "ValueError" newId initId bmB ∧ PySem.W.excIn K C bmB newId = true
  kp : PySem.W.keepIn K (.ref C) = true
  exC : PySem.W.subIn K (.ref C) (.type "BaseException") = some true
  tyC : PySem.W.typeIn K (.ref C) = some (.type "type")
theorem pmk_op {X : Cx} {x m : Str} {C : Addr} {j : Nat} {p p2 pos : Pos} (O : Op X.K X.mg x C) (hg : Gl X x) (hdb : (x == ("__debug__" : Str)) = false := by decide) : L2N.PMk X (.Call (.Name x p) [.Constant (.str m) j p2] [] pos) (fun _ H Q => Q (.ref C) none H) := by
  obtain ⟨bmB, newId, initId, F, q⟩ := O.exi
  exact L2N.pmk_own F q O.nm O.kp (raises_own O.exC O.tyC) hg hdb
/-- a map's six numbers -/
structure Six where
  a : Int
  b : Int
  c : Int
  d : Int
  e : Int
  f : Int
def Six.l (s : Six) : List Int := [s.a, s.b, s.c, s.d, s.e, s.f]
def Six.vs (s : Six) : List V := [.int s.a, .int s.b, .int s.c, .int s.d, .int s.e, .int s.f]
def Six.bd (n : Nat) (s : Six) : Prop := Bd n s.a ∧ Bd n s.b ∧ Bd n s.c ∧ Bd n s.d
def Six.det (s : Six) : Int := s.a * s.d - s.b * s.c
def Six.ok (s : Six) : Prop := (if s.det < 0 then -s.det else s.det) = 1
def mapF (T : Addr) : List (Str × V) := putF "six" (.ref T) []
structure MapC (K : PySem.W.Frag) (mg : Str → Option Value) (A : Cl) : Prop where
  c : Cls K A.gm
  s : NoAttr K A.gm "six"
  nm : mg "GridMap" = some (.ref A.gm)
section
variable {P : Program} {w : World} {K : PySem.W.Frag} {mg : Str → Option Value} {base : Heap} {A : Cl}
def spGInit (A : Cl) : Sp := fun vs H Q E => ∃ (x dx : Addr) (s : Six), vs = .ref x :: s.vs ∧ H x = some (.ins A.gm dx []) ∧ s.bd 1100 ∧
  (s.ok → ∀ H' T, SameX x H H' → H' x = some (.ins A.gm dx (mapF T)) → H' T = some (.tup s.vs) → Q .non H') ∧ (¬ s.ok → ∀ cls d H', Shp A cls → Same H H' → E cls d H')
abbrev stG : Stmt := inClass (topS 21) 1
abbrev N21 : List Str := ["self", "a", "b", "c", "d", "e", "f", "number"]
abbrev P21 : List Str := ["self", "a", "b", "c", "d", "e", "f"]
theorem sc21 : FnScope N21 P21 (defScope stG) := ⟨rfl, rfl, rfl, by decide +kernel, rfl, by decide +kernel, by decide +kernel⟩
theorem ok_map_init (MC : MapC K mg A) (Fr : Free mg) {f : Addr} {fd : FuncData} (F : FunD K "__init__" "GridMap.__init__" (defArgs stG) (defBody stG) (defScope stG) [.int 0, .int 0] [] f fd) (cI : Ca P w K mg base CX0 2 "check_integer" spCheckInt [.non]) (oM : Op K mg "InvalidMap" A.im) :
    FnOk P w K mg base (L2N.CX P w) 3 f fd P21 (spGInit A) := by
  refine F.ok sc21 (fun vs H Q E h => ?_) fun cdv Ar outer s H vs Q E hr h => ?_
  · obtain ⟨x, dx, s, rfl, _⟩ := h
    rfl
  · obtain ⟨x, dx, ⟨a, b, c, d, e, g⟩, rfl, hx, ⟨ba, bb, bc, bd⟩, ok, ko⟩ := h
    have tk : L2N.Takes (cxOf (L2N.CX P w) P w K mg base N21 "GridMap.__init__" (defScope stG) f cdv Ar outer s H E) (fun cls d _ H' => E cls d H') := L2N.takes_of rfl rfl rfl rfl
    refine ⟨_, pss_cons (ps_for (passes_of rfl) rfl (pi_tup (pe_tup (pa_cons (pv 1) (pa_cons (pv 2) (pa_cons (pv 3) (pa_cons (pv 4) (pa_cons (pv 5) (pa_cons (pv 6) pa_nil)))))))) (pg_name (i := 7) sc21.nd rfl (Or.inl rfl)) (pss_one (ps_expr (pe_ca0 cI hr (by decide) (pa_cons (pv 7) pa_nil)))))
      (pss_cons (ps_if (pt_cmpR op_ne (pe_callB call_abs (by rfl) Fr.abs (by decide +kernel) (pa_cons (pe_op op_sub (pe_op op_mulW (pv 1) (pv 4)) (pe_op op_mulW (pv 2) (pv 3))) pa_nil)) pe_int (nomark _)) (pss_one (L2N.ps_raise rfl tk (pmk_op oM (by rfl)))) pss_nil)
      (pss_one (ps_fld (pv 0) (pe_tup (pa_cons (pv 1) (pa_cons (pv 2) (pa_cons (pv 3) (pa_cons (pv 4) (pa_cons (pv 5) (pa_cons (pv 6) pa_nil))))))) rfl))), ?_⟩
    refine ⟨_, rfl, _, rfl, _, rfl, _, rfl, _, rfl, _, rfl, by show 6 ≤ sizeLine; decide, fun t ht => ?_⟩
    have st : Same H (upd H t (.tup [.int a, .int b, .int c, .int d, .int e, .int g])) := sNew ht _
    refine ⟨t, rfl, ⟨_, SqT.of upd_same⟩, ?_⟩
    refine for_tup (K := K) (a := t) (xs := [.int a, .int b, .int c, .int d, .int e, .int g]) (fun i σ H' => (∃ y, σ = [some (.ref x), some (.int a), some (.int b), some (.int c), some (.int d), some (.int e), some (.int g), y]) ∧ Same (upd H t (.tup [.int a, .int b, .int c, .int d, .int e, .int g])) H')
      ⟨⟨_, rfl⟩, Same.refl _⟩ (fun i σ H' _ h => SqT.of (h.2 _ _ upd_same)) ?_ ?_
    · rintro i v σ H' hi ⟨⟨y, rfl⟩, s1⟩
      obtain ⟨n, rfl⟩ : ∃ n : Int, v = .int n := by
        have m := List.mem_of_getElem? hi
        simp at m
        rcases m with z | z | z | z | z | z <;> exact ⟨_, z⟩
      exact ⟨_, rfl, n, rfl, ⟨_, rfl⟩, s1⟩
    · rintro σ H' ⟨⟨y, rfl⟩, s1⟩
      have s2 := st.trans s1
      have hx2 := s2 _ _ hx
      refine ⟨_, rfl, _, rfl, _, _, rfl, rfl, ba.wide bd (by decide) (by decide) (by decide), _, rfl, _, rfl, _, _, rfl, rfl, bb.wide bc (by decide) (by decide) (by decide), _, _, rfl, rfl, _, rfl, rfl, _, rfl, ?_⟩
      rw [dec_int]
      refine ite2 (fun z => ?_) fun z => ?_
      · refine ko (fun y => ?_) _ _ _ (.inr (.inr (.inr (.inl rfl)))) s2
        have y' : (if a * d - b * c < 0 then -(a * d - b * c) else a * d - b * c) = 1 := y
        rw [y'] at z
        simp at z
      · have y' : (if a * d - b * c < 0 then -(a * d - b * c) else a * d - b * c) = 1 := by simpa using z
        refine ⟨_, rfl, _, rfl, _, rfl, _, rfl, _, rfl, _, rfl, by show 6 ≤ sizeLine; decide, fun T hT => ?_⟩
        have s3 := s2.trans (sNew hT (.tup [.int a, .int b, .int c, .int d, .int e, .int g]))
        have Tx : T ≠ x := fun z => by rw [z, hx2] at hT; cases hT
        refine ⟨_, rfl, x, A.gm, dx, [], rfl, s3 _ _ hx, MC.c, MC.s, by decide, ?_⟩
        exact ok y' _ T (fun b u n h => (upd_ne n).trans (s3 b u h)) upd_same ((upd_ne Tx).trans upd_same)
end
end K82
set_option Elab.async false
set_option linter.all false
set_option maxRecDepth 100000
set_option maxHeartbeats 400000
set_option exponentiation.threshold 2000
namespace K82
open PySem PySem.Spec PyProof.Rows L2
/-! ### texts of numbers -/
def tI (n : Int) : Str := Str.ofString (toString n)
theorem tl_tI (n : Int) : TL.tl (tI n) = (if n < 0 then [45] else []) ++ TL.numL n.natAbs := by
  cases n with
  | ofNat m =>
    rw [if_neg (show ¬ (Int.ofNat m) < 0 from Int.not_lt.mpr (Int.natCast_nonneg m))]
    exact TL.tl_num m
  | negSucc m =>
    rw [if_pos (Int.negSucc_lt_zero m)]
    have e : toString (Int.negSucc m) = "-" ++ Nat.repr (m + 1) := rfl
    unfold tI
    rw [e]
    show (Str.ofString _).cps.toList = _
    rw [signs_ofString, String.toList_append, List.map_append, Nat.toList_repr]
    rfl
theorem bd_log {n : Int} (h : Bd 1100 n) : n.natAbs.log2 < 1920 := by
  by_cases z : n.natAbs = 0
  · rw [z]; decide
  · exact Nat.lt_trans ((Nat.log2_lt z).mpr h) (by decide)
theorem big_pow : (2 : Nat) ^ 1100 ≤ 10 ^ 332 := by decide +kernel
theorem big_pow2 : (10 : Nat) ^ 300 ≤ 2 ^ 1000 := by decide +kernel
theorem tI_len {n : Int} (h : Bd 1100 n) : (tI n).length ≤ 333 := by
  rw [TL.len_tl, tl_tI, List.length_append]
  have h1 : (TL.numL n.natAbs).length ≤ 332 := TL.numL_len (by decide) (Nat.lt_of_lt_of_le h big_pow)
  have h2 : (if n < 0 then [45] else ([] : List Nat)).length ≤ 1 := by split <;> decide
  omega
/-- a number that the library reads -/
def Small (n : Int) : Prop := n.natAbs < 10 ^ 300
theorem Small.bd {n : Int} (h : Small n) : Bd 1000 n := Nat.lt_of_lt_of_le h big_pow2
/-- the signs behind the minus -/
def digL (t : List Nat) : List Nat := match t with
  | 45 :: r => r
  | r => r
theorem digL_neg (r : List Nat) : digL (45 :: r) = r := rfl
theorem digL_pos {t : List Nat} (h : t.head? ≠ some 45) : digL t = t := by
  cases t with
  | nil => rfl
  | cons c r =>
    unfold digL
    split
    · rename_i e
      exact absurd (congrArg List.head? e) (by simpa using h)
    · rfl
structure Canon (t : List Nat) : Prop where
  lo : 1 ≤ (digL t).length
  hi : (digL t).length ≤ 300
  dg : NumText.AllDigits (digL t)
  z : ¬ ((digL t).head? = some 48 ∧ t ≠ [48])
theorem numL_head {n : Nat} (h : (TL.numL n).head? = some 48) : n = 0 := by
  by_cases h10 : n < 10
  · rw [TL.numL_lt h10] at h
    have e : 48 + n = 48 := Option.some.inj h
    omega
  · rw [TL.numL_step (by omega)] at h
    have hne := TL.numL_ne (n / 10)
    have h' : (TL.numL (n / 10)).head? = some 48 := by
      cases q : TL.numL (n / 10) with
      | nil => exact absurd q hne
      | cons c r =>
        rw [q] at h
        exact h
    have := numL_head h'
    omega
termination_by n
theorem digL_tI (n : Int) : digL (TL.tl (tI n)) = TL.numL n.natAbs := by
  rw [tl_tI]
  by_cases h : n < 0
  · rw [if_pos h]
    exact digL_neg _
  · rw [if_neg h, List.nil_append]
    refine digL_pos fun e => ?_
    have m : 45 ∈ TL.numL n.natAbs := List.mem_of_mem_head? e
    exact TL.numL_free (.inl (by decide)) m
theorem canon_tI {n : Int} (h : Small n) : Canon (TL.tl (tI n)) := by
  have hl : (TL.numL n.natAbs).length ≤ 300 := TL.numL_len (by decide) h
  refine ⟨?_, by rw [digL_tI]; exact hl, by rw [digL_tI]; exact TL.numL_digits _, fun ⟨e, ne⟩ => ?_⟩
  · rw [digL_tI]
    cases q : TL.numL n.natAbs with
    | nil => exact absurd q (TL.numL_ne _)
    | cons c r => simp
  · rw [digL_tI] at e
    have z := numL_head e
    have n0 : n = 0 := by omega
    subst n0
    exact ne (by rw [tl_tI]; decide)
theorem digits_fold : ∀ (cs : List Nat) (a : Nat), NumText.AllDigits cs → cs.foldl (fun acc c => acc * 10 + (c - 48)) a < (a + 1) * 10 ^ cs.length
  | [], a, _ => by
    show a < (a + 1) * 10 ^ 0
    omega
  | c :: cs, a, h => by
    have h1 := digits_fold cs (a * 10 + (c - 48)) h.tail
    have h2 := h.head
    rw [List.foldl_cons, List.length_cons, Nat.pow_succ]
    refine Nat.lt_of_lt_of_le h1 ?_
    have e : (a + 1) * (10 ^ cs.length * 10) = ((a + 1) * 10) * 10 ^ cs.length := by
      rw [Nat.mul_comm (10 ^ cs.length) 10, Nat.mul_assoc]
    rw [e]
    exact Nat.mul_le_mul_right _ (by omega)
theorem digits_lt (cs : List Nat) (h : NumText.AllDigits cs) : NumText.digitsVal cs < 10 ^ cs.length := by
  have q := digits_fold cs 0 h
  unfold NumText.digitsVal
  omega
theorem numL_back {cs : List Nat} (h : NumText.AllDigits cs) (h1 : 1 ≤ cs.length) (h0 : cs.length = 1 ∨ cs.head? ≠ some 48) : TL.numL (NumText.digitsVal cs) = cs := by
  have q := NumText.toDigits_digitsVal (cs.length - 1) cs (by omega) h (by
    rcases h0 with z | z
    · exact .inl (by omega)
    · cases cs with
      | nil => simp at h1
      | cons c r =>
        have hc := h.head
        exact .inr ⟨c, r, rfl, by
          have : c ≠ 48 := fun y => z (by rw [y]; rfl)
          omega⟩)
  unfold TL.numL
  rw [q, List.map_map]
  have e : ∀ c ∈ cs, (Char.toNat ∘ Char.ofNat) c = c := fun c hc => by
    have r := h c hc
    have v : c.isValidChar := .inl (by omega)
    show (Char.ofNat c).toNat = c
    unfold Char.ofNat
    rw [dif_pos v]
    rfl
  rw [List.map_congr_left e, List.map_id']
/-- what is canonical is some number's text -/
theorem canon_num {t : Str} (h : Canon (TL.tl t)) : ∃ n, PySem.intText? t = some n ∧ t = tI n ∧ Small n := by
  have hv : NumText.digitsVal (digL (TL.tl t)) < 10 ^ 300 := Nat.lt_of_lt_of_le (digits_lt _ h.dg) (Nat.pow_le_pow_right (by decide) h.hi)
  have hne : digL (TL.tl t) ≠ [] := fun z => by
    have := h.lo
    rw [z] at this
    simp at this
  by_cases hm : (TL.tl t).head? = some 45
  · obtain ⟨r, er⟩ : ∃ r, TL.tl t = 45 :: r := by
      cases q : TL.tl t with
      | nil => rw [q] at hm; cases hm
      | cons c r =>
        rw [q] at hm
        exact ⟨r, by rw [show c = 45 from Option.some.inj hm]⟩
    rw [er, digL_neg] at hv hne
    have dg := h.dg
    have hi := h.hi
    have lo := h.lo
    have z := h.z
    rw [er, digL_neg] at dg hi lo z
    have hd : r.head? ≠ some 48 := fun e => z ⟨e, by simp⟩
    have back := numL_back dg lo (.inr hd)
    have pos : 0 < NumText.digitsVal r := by
      cases r with
      | nil => exact absurd rfl hne
      | cons c r' =>
        have hc := dg.head
        exact NumText.digitsVal_pos (by
          have : c ≠ 48 := fun y => hd (by rw [y]; rfl)
          omega)
    refine ⟨-((NumText.digitsVal r : Nat) : Int), intText_neg er dg hne (by rw [TL.len_tl, er, List.length_cons]; omega), TL.ext_tl ?_, ?_⟩
    · rw [tl_tI, if_pos (by omega), er, Int.natAbs_neg, Int.natAbs_natCast, back]
      rfl
    · show (-((NumText.digitsVal r : Nat) : Int)).natAbs < _
      rw [Int.natAbs_neg, Int.natAbs_natCast]
      exact hv
  · have ed := digL_pos hm
    have dg := h.dg
    have hi := h.hi
    have lo := h.lo
    have z := h.z
    rw [ed] at dg hi lo z hv hne
    have back : TL.numL (NumText.digitsVal (TL.tl t)) = TL.tl t := numL_back dg lo (by
      by_cases e : (TL.tl t).head? = some 48
      · refine .inl ?_
        have q : TL.tl t = [48] := Classical.not_not.mp fun y => z ⟨e, y⟩
        rw [q]
        rfl
      · exact .inr e)
    refine ⟨((NumText.digitsVal (TL.tl t) : Nat) : Int), intText_digits dg hne (by rw [TL.len_tl]; omega), TL.ext_tl ?_, ?_⟩
    · rw [tl_tI, if_neg (by omega), List.nil_append, Int.natAbs_natCast, back]
    · show ((NumText.digitsVal (TL.tl t) : Nat) : Int).natAbs < _
      rw [Int.natAbs_natCast]
      exact hv
end K82
set_option Elab.async false
set_option linter.all false
set_option maxRecDepth 100000
set_option maxHeartbeats 400000
namespace K82
open PySem PySem.Spec PyProof.Rows L2 GenW K82G ClX
def tPt (p : Int × Int) : Str := ((Str.empty ++ tI p.1) ++ ",") ++ tI p.2
def tPts (ps : List (Int × Int)) : Str := Txt.join " " (ps.map tPt)
/-- an instance's class is its type -/
structure IsC (K : PySem.W.Frag) (C : Addr) : Prop where
  c : Cls K C
  cl : PySem.W.findIn K (.ref C) "__class__" = some (some (.builtin "object.__class__"))
  sp : PySem.W.specialIn K (.builtin "object.__class__") "__get__" = some (some (.builtin "getset_descriptor.__get__"))
  tk : PySem.W.takesIn K (.builtin "object.__class__") = some true
  ob : PySem.W.mroIn K C (.type "object") = some true
theorem IsC.ty {K : PySem.W.Frag} {C a dx : Addr} {fs : List (Str × V)} {H : Hp} (i : IsC K C) (e : H a = some (.ins C dx fs)) : TyX K H (.ref a) (.ref C) := .base (.ins e i.c i.cl i.sp i.tk i.ob)
section
variable {P : Program} {w : World} {K : PySem.W.Frag} {mg : Str → Option Value} {base : Heap} {A : Cl}
/-! ### format_integer, format_point -/
def spFmtI : Sp := fun vs H Q _ => ∃ n : Int, vs = [.int n] ∧ Bd 1100 n ∧ Q (.str (tI n)) H
theorem sc45 : FnScope ["number"] ["number"] (defScope (topS 45)) := ⟨rfl, rfl, rfl, by decide +kernel, rfl, by decide +kernel, by decide +kernel⟩
theorem ok_fmt_int (Fr : Free mg) (D : Df K mg "format_integer" 45) (cI : Ca P w K mg base CX0 2 "check_integer" spCheckInt [.non]) : Ca P w K mg base CX0 3 "format_integer" spFmtI [] := by
  refine ca_of D sc45 (fun vs H Q E h => ?_) (fun _ _ _ _ _ _ us hl => match us, hl with | [_], _ => rfl) (fun f cdv Ar outer s H vs Q E hr h => ?_)
  · obtain ⟨n, rfl, _⟩ := h
    rfl
  · obtain ⟨n, rfl, b, q⟩ := h
    exact ⟨_, pss_cons (ps_expr (pe_ca0 cI hr (by decide) (pa_cons (pv 0) pa_nil))) (pss_one (ps_ret (pe_callTy call_str_int (by rfl) Fr.str (by decide +kernel) (pa_cons (pv 0) pa_nil)))), _, rfl, n, rfl, _, rfl, n, rfl, bd_log b, q⟩
def spFmtP : Sp := fun vs H Q _ => ∃ (p : Int × Int) (v : V), vs = [v] ∧ PtAt H p v ∧ BdP 1100 p ∧ ∀ H', Same H H' → Q (.str (tPt p)) H'
theorem sc46 : FnScope ["point"] ["point"] (defScope (topS 46)) := ⟨rfl, rfl, rfl, by decide +kernel, rfl, by decide +kernel, by decide +kernel⟩
theorem len_app (a b : Str) : (a ++ b).length = a.length + b.length := Str.length_append a b
theorem ok_fmt_pt (D : Df K mg "format_point" 46) (cP : Ca P w K mg base CX0 3 "check_point" spCheckPoint []) : Ca P w K mg base CX0 4 "format_point" spFmtP [] := by
  refine ca_of D sc46 (fun vs H Q E h => ?_) (fun _ _ _ _ _ _ us hl => match us, hl with | [_], _ => rfl) (fun f cdv Ar outer s H vs Q E hr h => ?_)
  · obtain ⟨p, v, rfl, _⟩ := h
    rfl
  · obtain ⟨p, v, rfl, hp, b, q⟩ := h
    refine ⟨_, pss_cons (ps_expr (pe_ca0 cP hr (by decide) (pa_cons (pv 0) pa_nil))) (pss_one (ps_ret (pe_joined (PJ.cons (pe_fmt (pe_ix ix_tup (pv 0) pe_int (fun _ _ => rfl))) (PJ.cons pe_str (PJ.cons (pe_fmt (pe_ix ix_tup (pv 0) pe_int (fun _ _ => rfl))) PJ.nil)))))), ?_⟩
    refine ⟨_, rfl, p, v, rfl, hp, fun H1 s1 => ?_⟩
    obtain ⟨a, rfl, ha⟩ := hp
    have l1 := tI_len b.1
    have l2 := tI_len b.2
    have l0 : Str.empty.length = 0 := rfl
    have lc : (Str.ofString ",").length = 1 := rfl
    have sq := SqT.of (K := K) (s1 _ _ ha)
    refine ⟨_, rfl, a, _, 0, _, rfl, rfl, sq, rfl, .inr ⟨_, rfl, bd_log b.1, _, rfl, ?_, _, rfl, ?_, _, rfl, a, _, 1, _, rfl, rfl, sq, rfl, .inr ⟨_, rfl, bd_log b.2, _, rfl, ?_, q H1 s1⟩⟩⟩
    · show (Str.empty ++ tI p.1).length ≤ _
      rw [len_app, sizeLine_eq]
      omega
    · show ((Str.empty ++ tI p.1) ++ Str.ofString ",").length ≤ _
      rw [len_app, len_app, sizeLine_eq]
      omega
    · show (((Str.empty ++ tI p.1) ++ Str.ofString ",") ++ tI p.2).length ≤ _
      rw [len_app, len_app, len_app, sizeLine_eq]
      omega
theorem tPt_len {p : Int × Int} (b : BdP 1100 p) : (tPt p).length ≤ 667 := by
  have l1 := tI_len b.1
  have l2 := tI_len b.2
  have l0 : Str.empty.length = 0 := rfl
  have lc : (Str.ofString ",").length = 1 := rfl
  unfold tPt
  rw [len_app, len_app, len_app]
  omega
/-! ### format_points -/
def spFmtPs : Sp := fun vs H Q _ => ∃ (c : Addr) (tp : Bool) (ps : List (Int × Int)) (us : List V), vs = [.ref c] ∧ H c = some (boxU tp us) ∧ Pts H ps us ∧ BdL 1100 ps ∧ ps ≠ [] ∧ ps.length ≤ 4000 ∧ ∀ H', Same H H' → Q (.str (tPts ps)) H'
abbrev N47 : List Str := ["points", "point"]
theorem sc47 : FnScope N47 ["points"] (defScope (topS 47)) := ⟨rfl, rfl, rfl, by decide +kernel, rfl, by decide +kernel, by decide +kernel⟩
theorem take_get {ps : List (Int × Int)} {i : Nat} (h : i < ps.length) : ps.take (i + 1) = ps.take i ++ [ps.getD i (0, 0)] := by
  rw [List.take_succ, List.getElem?_eq_getElem h, List.getD_eq_getElem?_getD, List.getElem?_eq_getElem h]
  rfl
theorem sum_le {l : List Nat} {k : Nat} (h : ∀ x ∈ l, x ≤ k) : l.sum ≤ l.length * k := by
  induction l with
  | nil => simp
  | cons a l ih =>
    have h1 := h a (by simp)
    have h2 := ih fun x hx => h x (by simp [hx])
    rw [List.sum_cons, List.length_cons, Nat.succ_mul]
    omega
theorem join_fit {ps : List (Int × Int)} (b : BdL 1100 ps) (h : ps.length ≤ 4000) : ((ps.map tPt).map (·.length)).sum + (ps.map tPt).length * (Str.ofString " ").length ≤ 16777216 := by
  have h1 := sum_le (l := (ps.map tPt).map (·.length)) (k := 667) fun x hx => by
    obtain ⟨y, hy, rfl⟩ := List.mem_map.mp hx
    obtain ⟨p, hp, rfl⟩ := List.mem_map.mp hy
    exact tPt_len (b p hp)
  have lc : (Str.ofString " ").length = 1 := rfl
  rw [lc]
  simp only [List.length_map] at *
  omega
theorem ok_fmt_pts (Fr : Free mg) (D : Df K mg "format_points" 47) (cC : Ca P w K mg base CX0 3 "check_points" spChkPts []) (cP : Ca P w K mg base CX0 4 "format_point" spFmtP []) : Ca P w K mg base CX0 5 "format_points" spFmtPs [] := by
  refine ca_of D sc47 (fun vs H Q E h => ?_) (fun _ _ _ _ _ _ us hl => match us, hl with | [_], _ => rfl) (fun f cdv Ar outer s H vs Q E hr h => ?_)
  · obtain ⟨c, tp, ps, us, rfl, _⟩ := h
    rfl
  · obtain ⟨c, tp, ps, us, rfl, hc, hp, hb, hne, hn, q⟩ := h
    have ne0 : (((us.length : Nat) : Int) == 0) = false := by
      rw [beq_eq_false_iff_ne, hp.len]
      intro z
      exact hne (List.length_eq_zero_iff.mp (by omega))
    cases tp with
    | false =>
      refine ⟨_, pss_cons (ps_expr (pe_ca0 cC hr (by decide) (pa_cons (pv 0) pa_nil))) (pss_cons (ps_if (pt_cmpR op_eq (pe_callB call_lenB (by rfl) Fr.len (by decide +kernel) (pa_cons (pv 0) pa_nil)) pe_int (nomark _)) pss_never pss_nil)
        (pss_one (ps_ret (pe_bm PySem.F.plainAttrs_str PySem.F.slot_str_join PySem.F.type_str_join mt_join pe_str (pa_cons (pe_lc (own := [("point", 1)]) (g := gName 1) rfl sc47.nd (pi_list (pv 0)) (blkOk_by (own := [("point", 1)]) (N := N47) (sc := defScope (topS 47)) (by decide +kernel))
          (fun _ _ _ _ _ => pg_name (i := 1) sc47.nd rfl (Or.inl rfl)) (fun _ _ _ _ _ => pts_nil) (fun _ _ _ _ _ => pe_ca0 cP hr (by decide) (pa_cons (pv 1) pa_nil))) pa_nil))))), ?_⟩
      refine ⟨_, rfl, c, false, ps, us, rfl, hc, hp, fun H1 s1 => ⟨_, rfl, c, us, false, rfl, box_sq (s1 _ _ hc), rfl, _, rfl, ?_⟩⟩
      rw [dec_int, ne0]
      refine iteF ⟨rfl, _, rfl, c, rfl, ⟨us, SqL.of (s1 _ _ hc)⟩, fun D hD => ?_⟩
      refine lc_list (K := K) (a := c) (xs := us) (fun i H' => Same H1 H' ∧ H' D = some (.lst (((ps.take i).map tPt).map V.str))) ⟨sNew hD _, upd_same⟩ (fun i H' _ h => SqL.of (h.1 _ _ (s1 _ _ hc))) ?_ ?_
      · rintro i x H' hx ⟨s2, hd⟩
        have hi : i < us.length := (List.getElem?_eq_some_iff.mp hx).1
        have hi' : i < ps.length := by rw [← hp.len]; exact hi
        have ex : x = us.getD i .non := by
          rw [getD_some hi] at hx
          exact (Option.some.inj hx).symm
        have z := (hp.pt i hi').same (s1.trans s2)
        rw [← ex] at z
        refine ⟨rfl, _, rfl, _, x, rfl, z, hb.at hi', fun H3 s3 => ⟨_, s3 _ _ hd, ?_, sPut (s2.trans s3) hD, ?_⟩⟩
        · rw [List.length_map, List.length_map, List.length_take, sizeLine_eq]
          omega
        · rw [upd_same, take_get hi', List.map_append, List.map_append]
          rfl
      · rintro H' ⟨s2, hd⟩
        rw [hp.len, List.take_length] at hd
        exact ⟨_, D, _, rfl, rfl, .inl (SqL.of hd), join_fit hb hn, q H' (s1.trans s2)⟩
    | true =>
      refine ⟨_, pss_cons (ps_expr (pe_ca0 cC hr (by decide) (pa_cons (pv 0) pa_nil))) (pss_cons (ps_if (pt_cmpR op_eq (pe_callB call_lenB (by rfl) Fr.len (by decide +kernel) (pa_cons (pv 0) pa_nil)) pe_int (nomark _)) pss_never pss_nil)
        (pss_one (ps_ret (pe_bm PySem.F.plainAttrs_str PySem.F.slot_str_join PySem.F.type_str_join mt_join pe_str (pa_cons (pe_lc (own := [("point", 1)]) (g := gName 1) rfl sc47.nd (pi_tup (pv 0)) (blkOk_by (own := [("point", 1)]) (N := N47) (sc := defScope (topS 47)) (by decide +kernel))
          (fun _ _ _ _ _ => pg_name (i := 1) sc47.nd rfl (Or.inl rfl)) (fun _ _ _ _ _ => pts_nil) (fun _ _ _ _ _ => pe_ca0 cP hr (by decide) (pa_cons (pv 1) pa_nil))) pa_nil))))), ?_⟩
      refine ⟨_, rfl, c, true, ps, us, rfl, hc, hp, fun H1 s1 => ⟨_, rfl, c, us, true, rfl, box_sq (s1 _ _ hc), rfl, _, rfl, ?_⟩⟩
      rw [dec_int, ne0]
      refine iteF ⟨rfl, _, rfl, c, rfl, ⟨us, SqT.of (s1 _ _ hc)⟩, fun D hD => ?_⟩
      refine lc_tup (K := K) (a := c) (xs := us) (fun i H' => Same H1 H' ∧ H' D = some (.lst (((ps.take i).map tPt).map V.str))) ⟨sNew hD _, upd_same⟩ (fun i H' _ h => SqT.of (h.1 _ _ (s1 _ _ hc))) ?_ ?_
      · rintro i x H' hx ⟨s2, hd⟩
        have hi : i < us.length := (List.getElem?_eq_some_iff.mp hx).1
        have hi' : i < ps.length := by rw [← hp.len]; exact hi
        have ex : x = us.getD i .non := by
          rw [getD_some hi] at hx
          exact (Option.some.inj hx).symm
        have z := (hp.pt i hi').same (s1.trans s2)
        rw [← ex] at z
        refine ⟨rfl, _, rfl, _, x, rfl, z, hb.at hi', fun H3 s3 => ⟨_, s3 _ _ hd, ?_, sPut (s2.trans s3) hD, ?_⟩⟩
        · rw [List.length_map, List.length_map, List.length_take, sizeLine_eq]
          omega
        · rw [upd_same, take_get hi', List.map_append, List.map_append]
          rfl
      · rintro H' ⟨s2, hd⟩
        rw [hp.len, List.take_length] at hd
        exact ⟨_, D, _, rfl, rfl, .inl (SqL.of hd), join_fit hb hn, q H' (s1.trans s2)⟩
end
end K82
set_option Elab.async false
set_option linter.all false
set_option maxRecDepth 100000
set_option maxHeartbeats 400000
namespace K82
open PySem PySem.Spec PyProof.Rows L2 GenW K82G ClX
/-- the classes as types -/
structure Kit (K : PySem.W.Frag) (A : Cl) : Prop where
  p : IsC K A.pg
  c : IsC K A.cp
  m : IsC K A.gm
  pp : PySem.W.kitOne K (.ref A.pg) (.ref A.pg) = some true
  cp : PySem.W.kitOne K (.ref A.cp) (.ref A.pg) = some true
  pc : PySem.W.kitOne K (.ref A.pg) (.ref A.cp) = some false
  cc : PySem.W.kitOne K (.ref A.cp) (.ref A.cp) = some true
  mm : PySem.W.kitOne K (.ref A.gm) (.ref A.gm) = some true
def MapAt (A : Cl) (H : Hp) (s : Six) (v : V) : Prop := ∃ (a dx T : Addr), v = .ref a ∧ H a = some (.ins A.gm dx (mapF T)) ∧ H T = some (.tup s.vs)
def tSix (s : Six) : Str := (("[" : Str) ++ Txt.join " " (s.l.map tI)) ++ "]"
def Six.bd6 (n : Nat) (s : Six) : Prop := ∀ x ∈ s.l, Bd n x
section
variable {P : Program} {w : World} {K : PySem.W.Frag} {mg : Str → Option Value} {base : Heap} {A : Cl}
def spChkPoly (A : Cl) : Sp := fun vs H Q _ => ∃ (cv : Bool) (ks : List (Int × Int)) (v : V), vs = [v] ∧ PolyAt A H cv ks v ∧ Q .non H
theorem sc40 : FnScope ["value"] ["value"] (defScope (topS 40)) := ⟨rfl, rfl, rfl, by decide +kernel, rfl, by decide +kernel, by decide +kernel⟩
theorem ok_chk_poly (Fr : Free mg) (Kt : Kit K A) (PC : PolyC K mg A) (D : Df K mg "check_polygon" 40) : Ca P w K mg base CX0 1 "check_polygon" (spChkPoly A) [] := by
  refine ca_of D sc40 (fun vs H Q E h => ?_) (fun _ _ _ _ _ _ us hl => match us, hl with | [_], _ => rfl) (fun f cdv Ar outer s H vs Q E hr h => ?_)
  · obtain ⟨cv, ks, v, rfl, _⟩ := h
    rfl
  · obtain ⟨cv, ks, v, rfl, ⟨a, dx, T, ws, rfl, ha, hT, hw⟩, q⟩ := h
    refine ⟨_, pss_one (ps_if (pt_not (pt_val (pe_callB call_isi (by rfl) Fr.isi (by decide +kernel) (pa_cons (pv 0) (pa_cons (pe_glob (v := .ref A.pg) (by rfl) PC.nm rfl) pa_nil))))) pss_never pss_nil), ?_⟩
    cases cv with
    | true => exact ⟨_, rfl, _, _, _, _, true, rfl, .own A.pg, Kt.c.ty ha, Kt.cp, true, rfl, iteF q⟩
    | false => exact ⟨_, rfl, _, _, _, _, true, rfl, .own A.pg, Kt.p.ty ha, Kt.pp, true, rfl, iteF q⟩
def spFmtPoly (A : Cl) : Sp := fun vs H Q _ => ∃ (cv : Bool) (ks : List (Int × Int)) (v : V), vs = [v] ∧ PolyAt A H cv ks v ∧ BdL 1100 ks ∧ ks ≠ [] ∧ ks.length ≤ 4000 ∧ ∀ H', Same H H' → Q (.str (tPts ks)) H'
theorem sc48 : FnScope ["polygon"] ["polygon"] (defScope (topS 48)) := ⟨rfl, rfl, rfl, by decide +kernel, rfl, by decide +kernel, by decide +kernel⟩
theorem ok_fmt_poly (PC : PolyC K mg A) (D : Df K mg "format_polygon" 48) (cC : Ca P w K mg base CX0 1 "check_polygon" (spChkPoly A) []) (cF : Ca P w K mg base CX0 5 "format_points" spFmtPs [])
    (pK : PropC P w K mg base A.pg "corners" (spFld (K := K) "kept")) (pK2 : PropC P w K mg base A.cp "corners" (spFld (K := K) "kept")) : Ca P w K mg base CX0 6 "format_polygon" (spFmtPoly A) [] := by
  refine ca_of D sc48 (fun vs H Q E h => ?_) (fun _ _ _ _ _ _ us hl => match us, hl with | [_], _ => rfl) (fun f cdv Ar outer s H vs Q E hr h => ?_)
  · obtain ⟨cv, ks, v, rfl, _⟩ := h
    rfl
  · obtain ⟨cv, ks, v, rfl, hv, hb, hne, hn, q⟩ := h
    cases cv with
    | true =>
      refine ⟨_, pss_cons (ps_expr (pe_ca0 cC hr (by decide) (pa_cons (pv 0) pa_nil))) (pss_one (ps_ret (pe_ca0 cF hr (by decide) (pa_cons (pe_pp pK2 (hr.mono (by decide)) (pv 0)) pa_nil)))), ?_⟩
      refine ⟨_, rfl, true, ks, v, rfl, hv, ?_⟩
      obtain ⟨a, dx, T, ws, rfl, ha, hT, hw⟩ := hv
      exact ⟨_, rfl, a, dx, _, rfl, ha, a, A.cp, dx, _, _, rfl, ha, PC.c2, PC.k2, look_kept _ _, T, true, ks, ws, rfl, hT, hw, hb, hne, hn, q⟩
    | false =>
      refine ⟨_, pss_cons (ps_expr (pe_ca0 cC hr (by decide) (pa_cons (pv 0) pa_nil))) (pss_one (ps_ret (pe_ca0 cF hr (by decide) (pa_cons (pe_pp pK (hr.mono (by decide)) (pv 0)) pa_nil)))), ?_⟩
      refine ⟨_, rfl, false, ks, v, rfl, hv, ?_⟩
      obtain ⟨a, dx, T, ws, rfl, ha, hT, hw⟩ := hv
      exact ⟨_, rfl, a, dx, _, rfl, ha, a, A.pg, dx, _, _, rfl, ha, PC.c1, PC.k1, look_kept _ _, T, true, ks, ws, rfl, hT, hw, hb, hne, hn, q⟩
/-! ### maps -/
def spChkMap (A : Cl) : Sp := fun vs H Q _ => ∃ (s : Six) (v : V), vs = [v] ∧ MapAt A H s v ∧ Q .non H
theorem sc22 : FnScope ["value"] ["value"] (defScope (topS 22)) := ⟨rfl, rfl, rfl, by decide +kernel, rfl, by decide +kernel, by decide +kernel⟩
theorem ok_chk_map (Fr : Free mg) (Kt : Kit K A) (MC : MapC K mg A) (D : Df K mg "check_map" 22) : Ca P w K mg base CX0 1 "check_map" (spChkMap A) [] := by
  refine ca_of D sc22 (fun vs H Q E h => ?_) (fun _ _ _ _ _ _ us hl => match us, hl with | [_], _ => rfl) (fun f cdv Ar outer s H vs Q E hr h => ?_)
  · obtain ⟨x, v, rfl, _⟩ := h
    rfl
  · obtain ⟨x, v, rfl, ⟨a, dx, T, rfl, ha, hT⟩, q⟩ := h
    exact ⟨_, pss_one (ps_if (pt_not (pt_val (pe_callB call_isi (by rfl) Fr.isi (by decide +kernel) (pa_cons (pv 0) (pa_cons (pe_glob (v := .ref A.gm) (by rfl) MC.nm rfl) pa_nil))))) pss_never pss_nil),
      _, rfl, _, _, _, _, true, rfl, .own A.gm, Kt.m.ty ha, Kt.mm, true, rfl, iteF q⟩
abbrev stGn : Stmt := inClass (topS 21) 6
theorem sc21n : FnScope ["self"] ["self"] (defScope stGn) := ⟨rfl, rfl, rfl, by decide +kernel, rfl, by decide +kernel, by decide +kernel⟩
theorem ok_numbers {f : Addr} {fd : FuncData} (F : FunD K "numbers" "GridMap.numbers" (defArgs stGn) (defBody stGn) (defScope stGn) [] [] f fd) : FnOk P w K mg base CX0 1 f fd ["self"] (spFld (K := K) "six") := by
  refine F.ok sc21n (fun vs H Q E h => ?_) fun cdv Ar outer s H vs Q E hr h => ?_
  · obtain ⟨a, C, dx, fs, v, rfl, _⟩ := h
    rfl
  · obtain ⟨a, C, dx, fs, v, rfl, ha, hc, hn, hl, q⟩ := h
    exact ⟨_, pss_one (ps_ret (pe_fld (pv 0) rfl)), _, rfl, a, C, dx, fs, v, rfl, ha, hc, hn, hl, q⟩
theorem look_six (T : Addr) : (mapF T).lookup ("six" : Str) = some (.ref T) := by
  unfold mapF
  rw [lookup_putF, if_pos rfl]
def spFmtMap (A : Cl) : Sp := fun vs H Q _ => ∃ (s : Six) (v : V), vs = [v] ∧ MapAt A H s v ∧ s.bd6 1100 ∧ ∀ H', Same H H' → Q (.str (tSix s)) H'
abbrev N49 : List Str := ["grid_map", "number"]
theorem sc49 : FnScope N49 ["grid_map"] (defScope (topS 49)) := ⟨rfl, rfl, rfl, by decide +kernel, rfl, by decide +kernel, by decide +kernel⟩
theorem six_len (s : Six) : s.l.length = 6 := rfl
theorem six_vs (s : Six) : s.vs = s.l.map V.int := rfl
theorem join_len (y : Str) : ∀ xs : List Str, (Txt.join y xs).length ≤ (xs.map (·.length)).sum + xs.length * y.length := by
  intro xs
  rw [TL.join_eq]
  induction xs with
  | nil => exact Nat.zero_le _
  | cons x xs ih =>
    cases xs with
    | nil =>
      show x.length ≤ _
      simp
    | cons z r =>
      show (x ++ y ++ Str.join y (z :: r)).length ≤ _
      rw [len_app, len_app]
      simp only [List.map_cons, List.sum_cons, List.length_cons] at ih ⊢
      rw [Nat.succ_mul]
      omega
theorem ok_fmt_map (Fr : Free mg) (MC : MapC K mg A) (D : Df K mg "format_map" 49) (cC : Ca P w K mg base CX0 1 "check_map" (spChkMap A) []) (pN : PropC P w K mg base A.gm "numbers" (spFld (K := K) "six")) : Ca P w K mg base CX0 3 "format_map" (spFmtMap A) [] := by
  refine ca_of D sc49 (fun vs H Q E h => ?_) (fun _ _ _ _ _ _ us hl => match us, hl with | [_], _ => rfl) (fun f cdv Ar outer s H vs Q E hr h => ?_)
  · obtain ⟨x, v, rfl, _⟩ := h
    rfl
  · obtain ⟨x, v, rfl, hv, hb, q⟩ := h
    refine ⟨_, pss_cons (ps_expr (pe_ca0 cC hr (by decide) (pa_cons (pv 0) pa_nil))) (pss_one (ps_ret (pe_op op_add_str (pe_op op_add_str pe_str (pe_bm PySem.F.plainAttrs_str PySem.F.slot_str_join PySem.F.type_str_join mt_join pe_str
      (pa_cons (pe_lc (own := [("number", 1)]) (g := gName 1) rfl sc49.nd (pi_tup (pe_pp pN hr (pv 0))) (blkOk_by (own := [("number", 1)]) (N := N49) (sc := defScope (topS 49)) (by decide +kernel))
          (fun _ _ _ _ _ => pg_name (i := 1) sc49.nd rfl (Or.inl rfl)) (fun _ _ _ _ _ => pts_nil) (fun _ _ _ _ _ => pe_callTy call_str_int (by rfl) Fr.str (by decide +kernel) (pa_cons (pv 1) pa_nil))) pa_nil))) pe_str))), ?_⟩
    refine ⟨_, rfl, x, v, rfl, hv, ?_⟩
    obtain ⟨a, dx, T, rfl, ha, hT⟩ := hv
    refine ⟨rfl, _, rfl, a, dx, _, rfl, ha, a, A.gm, dx, _, _, rfl, ha, MC.c, MC.s, look_six _, T, rfl, ⟨_, SqT.of hT⟩, fun D hD => ?_⟩
    have ls : x.vs.length = 6 := rfl
    refine lc_tup (K := K) (a := T) (xs := x.vs) (fun i H' => Same H H' ∧ H' D = some (.lst (((x.l.take i).map tI).map V.str))) ⟨sNew hD _, upd_same⟩ (fun i H' _ h => SqT.of (h.1 _ _ hT)) ?_ ?_
    · rintro i y H' hx ⟨s2, hd⟩
      have hi : i < 6 := (List.getElem?_eq_some_iff.mp hx).1
      have hi' : i < x.l.length := hi
      rw [six_vs, List.getElem?_map, List.getElem?_eq_getElem hi'] at hx
      obtain rfl : y = V.int x.l[i] := (Option.some.inj hx).symm
      refine ⟨rfl, _, rfl, _, rfl, bd_log (hb _ (List.getElem_mem hi')), _, hd, ?_, sPut s2 hD, ?_⟩
      · rw [List.length_map, List.length_map, List.length_take, sizeLine_eq]
        omega
      · rw [upd_same, List.take_succ, List.getElem?_eq_getElem hi', List.map_append, List.map_append]
        rfl
    · rintro H' ⟨s2, hd⟩
      rw [show x.vs.length = x.l.length from rfl, List.take_length] at hd
      have lt : ∀ y ∈ (x.l.map tI).map (·.length), y ≤ 333 := fun y hy => by
        obtain ⟨z, hz, rfl⟩ := List.mem_map.mp hy
        obtain ⟨n, hn, rfl⟩ := List.mem_map.mp hz
        exact tI_len (hb n hn)
      have sm := sum_le lt
      have l1 : ((x.l.map tI).map (·.length)).length = 6 := rfl
      have l2 : (x.l.map tI).length = 6 := rfl
      have lc : (Str.ofString " ").length = 1 := rfl
      have lb : (Str.ofString "[").length = 1 := rfl
      have le : (Str.ofString "]").length = 1 := rfl
      have jl := join_len (Str.ofString " ") (x.l.map tI)
      rw [l1] at sm
      rw [l2, lc] at jl
      refine ⟨_, D, _, rfl, rfl, .inl (SqL.of hd), ?_, _, _, rfl, rfl, ?_, _, _, rfl, rfl, ?_, q H' s2⟩
      · rw [l2, lc]
        omega
      · rw [lb, sizeLine_eq]
        omega
      · show (Str.ofString "[" ++ Txt.join (Str.ofString " ") (x.l.map tI)).length + (Str.ofString "]").length ≤ _
        rw [len_app, lb, le, sizeLine_eq]
        omega
end
end K82
set_option Elab.async false
set_option linter.all false
set_option maxRecDepth 100000
set_option maxHeartbeats 400000
namespace K82
open PySem PySem.Spec PyProof.Rows L2 GenW K82G ClX
theorem starts1 (t : Str) (c : Nat) : Txt.startswith t ⟨#[c]⟩ = decide ((TL.tl t).head? = some c) := by
  have q := StrLaws.subAt_one t c 0
  rw [Bool.eq_iff_iff, decide_eq_true_eq, List.head?_eq_getElem?]
  unfold Txt.startswith
  rw [Bool.and_eq_true, decide_eq_true_eq]
  exact q
theorem ends1 (t : Str) (c : Nat) : Txt.endswith t ⟨#[c]⟩ = decide ((TL.tl t).getLast? = some c) := by
  have q := StrLaws.subAt_one t c (t.length - 1)
  have l1 : (⟨#[c]⟩ : Str).length = 1 := rfl
  have ls : (TL.tl t).length = t.length := (TL.len_tl t).symm
  rw [Bool.eq_iff_iff, decide_eq_true_eq, List.getLast?_eq_getElem?, ls]
  unfold Txt.endswith
  rw [Bool.and_eq_true, decide_eq_true_eq, ← q, l1]
  constructor
  · rintro ⟨h1, h2⟩
    exact ⟨by omega, h2⟩
  · rintro ⟨h1, h2⟩
    refine ⟨?_, h2⟩
    have z := q.mp ⟨h1, h2⟩
    have := (List.getElem?_eq_some_iff.mp z).1
    omega
/-- a comprehension over a text -/
theorem lc_signs {x : Str} {g : TG} {tt : TT} {te : TE} {vs : List Nat} {σ : L2.St} {H1 : Hp} {D : Addr} {Qd : Hp → Prop} (Pv : Nat → Hp → Prop) (h0 : Pv 0 (upd H1 D (.lst [])))
    (hs : ∀ i c H, x.cps.toList[i]? = some c → Pv i H → g (.str ⟨#[c]⟩) (wipe σ vs) H fun σ2 H2 => wipe σ2 vs = wipe σ vs ∧ tt σ2 H2 fun b H3 =>
      if b = true then te σ2 H3 fun y H4 => ∃ acc, H4 D = some (.lst acc) ∧ acc.length < sizeLine ∧ Pv (i + 1) (upd H4 D (.lst (acc ++ [y]))) else Pv (i + 1) H3) (hd : ∀ H, Pv x.cps.toList.length H → Qd H) :
    ∃ W : Nat → Nat → Hp → Prop, (∃ m, W 0 m (upd H1 D (.lst []))) ∧ ∀ i m H, W i m H →
      ((Its x).stop i H ∧ Qd H) ∨ ((Its x).go i H ∧ ∃ Nx : Hp → Prop, (∀ H', Nx H' → ∃ m', m' < m ∧ W (i + 1) m' H') ∧ ∀ y H', (Its x).yld i H y H' → g y (wipe σ vs) H' fun σ2 H2 => wipe σ2 vs = wipe σ vs ∧ tt σ2 H2 fun b H3 =>
        if b = true then te σ2 H3 fun y H4 => ∃ acc, H4 D = some (.lst acc) ∧ acc.length < sizeLine ∧ Nx (upd H4 D (.lst (acc ++ [y]))) else Nx H3) := by
  have sz : x.cps.size = x.cps.toList.length := by simp
  refine ⟨fun i m H => m = x.cps.size - i ∧ i ≤ x.cps.size ∧ Pv i H, ⟨x.cps.size, by simp, Nat.zero_le _, h0⟩, ?_⟩
  rintro i m H ⟨rfl, hi, p⟩
  rcases Nat.lt_or_ge i x.cps.size with hlt | hge
  · refine .inr ⟨hlt, Pv (i + 1), fun H' p' => ⟨x.cps.size - (i + 1), by omega, rfl, hlt, p'⟩, fun y H' z => ?_⟩
    obtain ⟨rfl, c, hc, rfl⟩ := z
    exact hs i c H' (by simpa using hc) p
  · have e : i = x.cps.size := by omega
    subst e
    exact .inl ⟨Nat.le_refl _, hd H (sz ▸ p)⟩
section
variable {P : Program} {w : World} {K : PySem.W.Frag} {mg : Str → Option Value} {base : Heap} {A : Cl}
/-! ### integer_of -/
/-- the text of a number that is read -/
def IsI (t : Str) (n : Int) : Prop := t = tI n ∧ Small n
def spIntOf : Sp := fun vs H Q _ => ∃ t : Str, vs = [.str t] ∧ t.length ≤ 2000 ∧ (∀ n, IsI t n → ∀ H', Same H H' → Q (.int n) H') ∧ ((¬ ∃ n, IsI t n) → ∀ H', Same H H' → Q .non H')
abbrev N50 : List Str := ["text", "digits", "sign"]
theorem sc50 : FnScope N50 ["text"] (defScope (topS 50)) := ⟨rfl, rfl, rfl, by decide +kernel, rfl, by decide +kernel, by decide +kernel⟩
theorem ok_integer_of (Fr : Free mg) (D : Df K mg "integer_of" 50) (hM : ∃ u, mg "MAX_DIGITS" = some u ∧ RelV (.int 300) u) (hD : ∃ u, mg "DIGITS" = some u ∧ RelV (.str "0123456789") u) : Ca P w K mg base CX0 1 "integer_of" spIntOf [] := by
  refine ca_of D sc50 (fun vs H Q E h => ?_) (fun _ _ _ _ _ _ us hl => match us, hl with | [_], _ => rfl) (fun f cdv Ar outer s H vs Q E hr h => ?_)
  · obtain ⟨t, rfl, _⟩ := h
    rfl
  · obtain ⟨t, rfl, hl, ok, ko⟩ := h
    refine ⟨_, pss_cons (ps_set (i := 1) sc50.nd rfl (Or.inl rfl) (pe_ifExp (pt_val (pe_bm PySem.F.plainAttrs_str PySem.F.slot_str_startswith PySem.F.type_str_startswith mt_startswith (pv 0) (pa_cons pe_str pa_nil))) (pe_slice sl_str (pv 0) (po_some pe_int) po_none) (pv 0)))
      (pss_cons (ps_if (PW.pt (pw_or (pt_not (pt_chain op_le op_le pe_int (pe_callB call_len_str (by rfl) Fr.len (by decide +kernel) (pa_cons (pv 1) pa_nil)) (C8.pe_gc (by rfl) hM)))
        (pw_or1 (pt_not (pt_val (pe_callB (cr_all rfl) (by rfl) Fr.all (by decide +kernel) (pa_cons (pe_lc (own := [("sign", 2)]) (g := gName 2) rfl sc50.nd (pi_str (pv 1)) (blkOk_by (own := [("sign", 2)]) (N := N50) (sc := defScope (topS 50)) (by decide +kernel))
          (fun _ _ _ _ _ => pg_name (i := 2) sc50.nd rfl (Or.inl rfl)) (fun _ _ _ _ _ => pts_nil) (fun _ _ _ _ _ => pe_cmpR op_in_sign (pv 2) (C8.pe_gc (by rfl) hD) rfl)) pa_nil))))))) (pss_one (ps_ret pe_non)) pss_nil)
      (pss_cons (ps_if (PW.pt (pw_and (pt_cmpR op_eq (pe_ix ix_str (pv 1) pe_int (fun _ _ => rfl)) pe_str (nomark _)) (pw_and1 (pt_cmpR op_ne (pv 0) pe_str (nomark _))))) (pss_one (ps_ret pe_non)) pss_nil)
      (pss_one (ps_ret (pe_callTy call_int_str (by rfl) Fr.int (by decide +kernel) (pa_cons (pv 0) pa_nil)))))), ?_⟩
    have bad : ¬ Canon (TL.tl t) → ∀ H', Same H H' → Q .non H' := fun nc => ko fun ⟨n, e, sm⟩ => nc (by rw [e]; exact canon_tI sm)
    have zl : t.length ≤ sizeLine := by rw [sizeLine_eq]; omega
    have core : ∀ d : Str, TL.tl d = digL (TL.tl t) → d.length ≤ t.length → tSeq
      (tIfS (tOr (tNot (tTest (tChain (rI0 fun i j => .bl (decide (i ≤ j))) (rI0 fun i j => .bl (decide (i ≤ j))) (tC (.int 1)) (tCB (fun xs H Q => ∃ z : Str, xs = [V.str z] ∧ z.length ≤ sizeLine ∧ Q (V.int ↑z.length) H) (tCons (tVar 1) tNil)) (tC (V.int 300)))))
          (tNot (tB (tCB (rAll K) (tCons (tLc (iStr (tVar 1)) (gName 2) tYes (tOp (fun x y H Q => ∃ (c : Nat) (z : Str), x = V.str { cps := #[c] } ∧ y = V.str z ∧ Q (V.bl (decide (c ∈ z.cps.toList))) H) (tVar 2) (tC (V.str "0123456789"))) (List.map (fun x => x.snd) [(("sign" : Str), 2)])) tNil)))))
        (tRet (tC V.non)) tNext)
      (tSeq (tIfS (tAnd (tTest (tOp rEq (tOp rIxS (tVar 1) (tC (V.int 0))) (tC (V.str "0")))) (tTest (tOp rNe (tVar 0) (tC (V.str "0"))))) (tRet (tC V.non)) tNext)
        (tRet (tCB (fun xs H Q => ∃ (a : Str) (n : Int), xs = [V.str a] ∧ intText? a = some n ∧ a.length ≤ 640 ∧ Q (V.int n) H) (tCons (tVar 0) tNil))))
      { nx := fun x H' => Q V.non H', rt := Q } [some (.str t), some (.str d), none] H := fun d hd hdl => by
      have ld : (digL (TL.tl t)).length = d.length := by rw [← hd, TL.len_tl]
      refine ⟨_, rfl, d, rfl, Nat.le_trans hdl zl, _, _, rfl, rfl, _, rfl, ?_⟩
      refine ite2 (fun h1 => ?_) fun h1 => ?_
      · have lo : 1 ≤ d.length := by
          have := of_decide_eq_true h1
          omega
        refine ⟨_, _, rfl, rfl, _, rfl, ?_⟩
        refine ite2 (fun h2 => ?_) fun h2 => ?_
        · refine iteT (bad (fun c => ?_) H (Same.refl _))
          have := c.hi
          rw [ld] at this
          have h3 : decide (((d.length : Nat) : Int) ≤ 300) = true := decide_eq_true (by omega)
          rw [h3] at h2
          exact absurd h2 (by decide)
        · have hi : d.length ≤ 300 := by
            by_cases z : d.length ≤ 300
            · exact z
            · refine absurd ?_ h2
              rw [decide_eq_false (show ¬ (((d.length : Nat) : Int) ≤ 300) by omega)]
              rfl
          refine ⟨_, rfl, d, rfl, fun D' hD' => ?_⟩
          refine lc_signs (fun i H' => Same H H' ∧ H' D' = some (.lst ((((TL.tl d).take i).map fun c => decide (c ∈ (Str.ofString "0123456789").cps.toList)).map V.bl))) ⟨sNew hD' _, upd_same⟩ ?_ ?_
          · rintro i c H' hc ⟨s1, hd1⟩
            have hi2 : i < (TL.tl d).length := (List.getElem?_eq_some_iff.mp hc).1
            refine ⟨rfl, _, rfl, c, _, rfl, rfl, _, hd1, ?_, sPut s1 hD', ?_⟩
            · rw [List.length_map, List.length_map, List.length_take, sizeLine_eq]
              have := TL.len_tl d
              omega
            · rw [upd_same, List.take_succ, show (TL.tl d)[i]? = some c from hc, List.map_append, List.map_append]
              rfl
          · rintro H' ⟨s1, hd1⟩
            rw [List.take_length] at hd1
            refine ⟨D', _, rfl, SqL.of hd1, _, rfl, ?_⟩
            have hset : ∀ c, c ∈ (Str.ofString "0123456789").cps.toList ↔ 48 ≤ c ∧ c ≤ 57 := fun c => by
              rw [show (Str.ofString "0123456789").cps.toList = [48, 49, 50, 51, 52, 53, 54, 55, 56, 57] from by decide +kernel]
              simp
              omega
            by_cases dg : NumText.AllDigits (TL.tl d)
            · have ea : (((TL.tl d).map fun c => decide (c ∈ (Str.ofString "0123456789").cps.toList)).all id) = true := by
                rw [List.all_map, List.all_eq_true]
                intro c hc
                exact decide_eq_true ((hset c).mpr (dg c hc))
              rw [ea]
              refine iteF ?_
              obtain ⟨c0, r0, er0⟩ : ∃ c r, TL.tl d = c :: r := by
                cases q : TL.tl d with
                | nil =>
                  have := TL.len_tl d
                  rw [q] at this
                  simp at this
                  omega
                | cons c r => exact ⟨c, r, rfl⟩
              refine ⟨_, rfl, d, 0, c0, rfl, rfl, Nat.le_trans hdl zl, (by rw [show d.cps.toList = c0 :: r0 from er0]; exact atI_nat (j := 0) rfl), rfl, _, rfl, ?_⟩
              have z48 : Str.ofString "0" = ⟨#[48]⟩ := by decide +kernel
              have c48 : V.str ⟨#[c0]⟩ = V.str (Str.ofString "0") ↔ c0 = 48 := by
                rw [z48]
                constructor
                · intro y
                  have y2 : (⟨#[c0]⟩ : Str) = ⟨#[48]⟩ := V.str.inj y
                  have y3 : #[c0] = #[48] := congrArg Str.cps y2
                  simpa using y3
                · rintro rfl
                  rfl
              have t48 : V.str t = V.str (Str.ofString "0") ↔ TL.tl t = [48] := by
                constructor
                · intro y
                  rw [V.str.inj y, z48]
                · intro y
                  rw [show t = Str.ofString "0" from TL.ext_tl (by rw [y, z48])]
              have canon : ¬ (c0 = 48 ∧ TL.tl t ≠ [48]) → Canon (TL.tl t) := fun y => ⟨by rw [ld]; exact lo, by rw [ld]; exact hi, by rw [← hd]; exact dg, fun ⟨y1, y2⟩ => y ⟨by
                rw [← hd, er0] at y1
                exact Option.some.inj y1, y2⟩⟩
              have good : Canon (TL.tl t) → tRet (tCB (fun xs H Q => ∃ (a : Str) (n : Int), xs = [V.str a] ∧ intText? a = some n ∧ a.length ≤ 640 ∧ Q (V.int n) H) (tCons (tVar 0) tNil)) { nx := fun x H' => Q V.non H', rt := Q } [some (.str t), some (.str d), none] H' := fun cn => by
                obtain ⟨n, e1, e2, e3⟩ := canon_num cn
                refine ⟨_, rfl, t, n, rfl, e1, ?_, ok n ⟨e2, e3⟩ H' s1⟩
                rw [e2]
                have := tI_len (e3.bd.mono (show 1000 ≤ 1100 by decide))
                omega
              refine ite2 (fun h3 => ?_) fun h3 => ?_
              · have c0e := c48.mp (of_decide_eq_true h3)
                refine ⟨_, rfl, rfl, _, rfl, ?_⟩
                refine ite2 (fun h4 => ?_) fun h4 => ?_
                · refine bad (fun c => c.z ⟨by rw [← hd, er0, c0e]; rfl, fun y => ?_⟩) H' s1
                  rw [decide_eq_true (t48.mpr y)] at h4
                  exact absurd h4 (by decide)
                · refine good (canon fun ⟨_, y⟩ => h4 ?_)
                  rw [decide_eq_false (fun z => y (t48.mp z))]
                  rfl
              · exact iteF (good (canon fun ⟨y, _⟩ => h3 (decide_eq_true (c48.mpr y))))
            · have ea : (((TL.tl d).map fun c => decide (c ∈ (Str.ofString "0123456789").cps.toList)).all id) = false := by
                rw [Bool.eq_false_iff]
                intro z
                rw [List.all_map, List.all_eq_true] at z
                exact dg fun c hc => (hset c).mp (of_decide_eq_true (z c hc))
              rw [ea]
              exact iteT (bad (fun c => dg (by rw [hd]; exact c.dg)) H' s1)
      · refine ⟨_, rfl, iteT (iteT (bad (fun c => h1 ?_) H (Same.refl _)))⟩
        have := c.lo
        rw [ld] at this
        exact decide_eq_true (by omega)
    have m45 : Str.ofString "-" = ⟨#[45]⟩ := by decide +kernel
    refine ⟨_, rfl, rfl, t, _, rfl, rfl, _, rfl, ?_⟩
    have es : Txt.startswith t (Str.ofString "-") = decide ((TL.tl t).head? = some 45) := by rw [m45]; exact starts1 t 45
    rw [es]
    refine ite2 (fun h => ?_) fun h => ?_
    · have hh := of_decide_eq_true h
      obtain ⟨r, er⟩ : ∃ r, TL.tl t = 45 :: r := by
        cases q : TL.tl t with
        | nil => rw [q] at hh; cases hh
        | cons c r =>
          rw [q] at hh
          exact ⟨r, by rw [show c = 45 from Option.some.inj hh]⟩
      have lt1 : 1 ≤ t.length := by rw [TL.len_tl, er]; simp
      have e1 : HT.sIx t.length 0 (some (1 : Int)) = 1 := (HT.sIx_nat _ _ 1).trans (Nat.min_eq_left lt1)
      have ec : TL.tl (cutS t (some 1) none) = r := by
        show ((t.cps.toList.drop (HT.sIx t.length 0 (some 1))).take (HT.sIx t.length t.length none - HT.sIx t.length 0 (some 1))) = r
        rw [e1, HT.sIx_none, show t.cps.toList = 45 :: r from er, List.drop_succ_cons, List.drop_zero]
        exact List.take_of_length_le (by rw [TL.len_tl, er, List.length_cons]; omega)
      refine ⟨_, rfl, _, rfl, t, rfl, zl, ?_⟩
      exact core _ (by rw [ec, er, digL_neg]) (by rw [TL.len_tl, ec, TL.len_tl, er, List.length_cons]; omega)
    · exact ⟨_, rfl, core t (by rw [digL_pos (fun y => h (decide_eq_true y))]) (Nat.le_refl _)⟩
end
end K82
set_option Elab.async false
set_option linter.all false
set_option maxRecDepth 100000
set_option maxHeartbeats 400000
namespace K82
open PySem PySem.Spec PyProof.Rows L2 GenW K82G ClX
open Classical in
noncomputable def readI (t : Str) : Option Int := if h : ∃ n, IsI t n then some h.choose else none
theorem tI_inj {m n : Int} (h : tI m = tI n) : m = n := by
  have e : TL.tl (tI m) = TL.tl (tI n) := congrArg TL.tl h
  have d : TL.numL m.natAbs = TL.numL n.natAbs := by rw [← digL_tI, ← digL_tI, e]
  have a := TL.numL_inj d
  rw [tl_tI, tl_tI, d] at e
  have no : ∀ k : Nat, (TL.numL k).head? ≠ some 45 := fun k q => TL.numL_free (.inl (by decide)) (List.mem_of_mem_head? q)
  by_cases hm : m < 0
  · by_cases hn : n < 0
    · omega
    · rw [if_pos hm, if_neg hn] at e
      exact absurd (by rw [List.nil_append] at e; rw [← e]; rfl) (no n.natAbs)
  · by_cases hn : n < 0
    · rw [if_neg hm, if_pos hn] at e
      exact absurd (by rw [List.nil_append] at e; rw [e]; rfl) (no n.natAbs)
    · omega
theorem readI_of {t : Str} {n : Int} (h : IsI t n) : readI t = some n := by
  have hx : ∃ n, IsI t n := ⟨n, h⟩
  unfold readI
  rw [dif_pos hx]
  have q := hx.choose_spec
  rw [tI_inj (q.1.symm.trans h.1)]
theorem readI_none {t : Str} (h : ¬ ∃ n, IsI t n) : readI t = none := by
  unfold readI
  rw [dif_neg h]
theorem readI_is {t : Str} {n : Int} (h : readI t = some n) : IsI t n := by
  unfold readI at h
  split at h
  · rename_i hx
    have q := hx.choose_spec
    rw [Option.some.inj h] at q
    exact q
  · cases h
def optI : Option Int → V
  | none => .non
  | some n => .int n
/-- all of them, or nothing -/
def allSome {α : Type} : List (Option α) → Option (List α)
  | [] => some []
  | none :: _ => none
  | some a :: r => (allSome r).map (a :: ·)
theorem allSome_none {α : Type} : ∀ {l : List (Option α)}, allSome l = none ↔ none ∈ l
  | [] => by simp [allSome]
  | none :: r => by simp [allSome]
  | some a :: r => by simp [allSome, allSome_none (l := r)]
theorem allSome_some {α : Type} : ∀ {l : List (Option α)} {xs : List α}, allSome l = some xs ↔ l = xs.map some
  | [], xs => by
    cases xs <;> simp [allSome]
  | none :: r, xs => by
    cases xs <;> simp [allSome]
  | some a :: r, xs => by
    cases xs with
    | nil => simp [allSome]
    | cons b ys =>
      have q := allSome_some (l := r) (xs := ys)
      simp only [allSome, Option.map_eq_some_iff, List.map_cons, List.cons.injEq, Option.some.injEq]
      constructor
      · rintro ⟨zs, e, rfl, rfl⟩
        exact ⟨rfl, q.mp e⟩
      · rintro ⟨rfl, e⟩
        exact ⟨ys, q.mpr e, rfl, rfl⟩
theorem join_part {y : Str} : ∀ {xs : List Str} {x : Str}, x ∈ xs → x.length ≤ (Str.join y xs).length
  | [x], z, h => by
    rw [List.mem_singleton.mp h]
    exact Nat.le_refl _
  | x :: w :: r, z, h => by
    show z.length ≤ (x ++ y ++ Str.join y (w :: r)).length
    rw [len_app, len_app]
    rcases List.mem_cons.mp h with q | q
    · rw [q]
      omega
    · have := join_part (y := y) q
      omega
theorem join_count {y : Str} (hy : y.length = 1) : ∀ (xs : List Str), xs.length ≤ (Str.join y xs).length + 1
  | [] => Nat.zero_le _
  | [x] => by
    show 1 ≤ x.length + 1
    omega
  | x :: w :: r => by
    have q := join_count hy (w :: r)
    show (w :: r).length + 1 ≤ (x ++ y ++ Str.join y (w :: r)).length + 1
    rw [len_app, len_app]
    omega
theorem split_part {t m x : Str} (h : x ∈ Txt.split t m) : x.length ≤ t.length := by
  have q := join_part (y := m) h
  rw [StrLaws.join_split] at q
  exact q
theorem split_count {t m : Str} (hm : m.length = 1) : (Txt.split t m).length ≤ t.length + 1 := by
  have q := join_count hm (Txt.split t m)
  rw [StrLaws.join_split] at q
  exact q
section
variable {P : Program} {w : World} {K : PySem.W.Frag} {mg : Str → Option Value} {base : Heap} {A : Cl}
/-! ### integers_of -/
noncomputable def readIs (t m : Str) : Option (List Int) := allSome ((Txt.split t m).map readI)
def spIntsOf : Sp := fun vs H Q _ => ∃ t m : Str, vs = [.str t, .str m] ∧ t.length ≤ 2000 ∧ m.length = 1 ∧ (readIs t m = none → ∀ H', Same H H' → Q .non H') ∧
  (∀ ns, readIs t m = some ns → ∀ H' L, Same H H' → H L = none → H' L = some (.lst (ns.map V.int)) → Q (.ref L) H')
abbrev N51 : List Str := ["text", "mark", "numbers", "part"]
theorem sc51 : FnScope N51 ["text", "mark"] (defScope (topS 51)) := ⟨rfl, rfl, rfl, by decide +kernel, rfl, by decide +kernel, by decide +kernel⟩
def optD : Option Int → PyData
  | none => .none
  | some n => .int n
theorem optI_dp {K : PySem.W.Frag} {H : Hp} (o : Option Int) : Dp K H (optI o) (optD o) := by
  cases o with
  | none => exact .non
  | some n => exact .int n
theorem optIs_dp {K : PySem.W.Frag} {H : Hp} : ∀ os : List (Option Int), DpAll K H (os.map optI) (os.map optD)
  | [] => .nil
  | o :: os => .cons (optI_dp o) (optIs_dp os)
theorem optD_lay : ∀ os : List (Option Int), PyData.canLayAll0 (os.map optD) = true
  | [] => by simp [PyData.canLayAll0]
  | none :: os => by simp [PyData.canLayAll0, optD, PyData.canLay0, optD_lay os]
  | some n :: os => by simp [PyData.canLayAll0, optD, PyData.canLay0, optD_lay os]
theorem optD_depth : ∀ os : List (Option Int), PyData.depthAll (os.map optD) ≤ 1
  | [] => by simp [PyData.depthAll]
  | o :: os => by
    have h1 := optD_depth os
    have h2 : (optD o).depth ≤ 1 := by cases o <;> simp [optD, PyData.depth]
    simp only [List.map_cons, PyData.depthAll]
    omega
theorem optD_shaped (os : List (Option Int)) : SeqAt.shaped (.list (os.map optD)) = true := by
  have h1 := optD_depth os
  have h2 : PyData.depth (.list (os.map optD)) ≤ 64 := by
    simp only [PyData.depth]
    omega
  unfold SeqAt.shaped
  rw [decide_eq_true h2, Bool.and_true]
  simp only [PyData.canLay0]
  exact optD_lay os
theorem optD_any : ∀ os : List (Option Int), ((os.map optD).any fun z => PyData.eqv z .none) = decide (none ∈ os)
  | [] => by simp
  | none :: os => by simp [optD, PyData.eqv]
  | some n :: os => by
    rw [List.map_cons, List.any_cons, optD_any os]
    simp [optD, PyData.eqv]
theorem ok_integers_of (D : Df K mg "integers_of" 51) (cI : Ca P w K mg base CX0 1 "integer_of" spIntOf []) : Ca P w K mg base CX0 2 "integers_of" spIntsOf [] := by
  refine ca_of D sc51 (fun vs H Q E h => ?_) (fun _ _ _ _ _ _ us hl => match us, hl with | [_, _], _ => rfl) (fun f cdv Ar outer s H vs Q E hr h => ?_)
  · obtain ⟨t, m, rfl, _⟩ := h
    rfl
  · obtain ⟨t, m, rfl, hl, hm, ko, ok⟩ := h
    refine ⟨_, pss_cons (ps_setLc (i := 2) (own := [("part", 3)]) (g := gName 3) rfl sc51.nd rfl rfl rfl (pi_list (pe_bm PySem.F.plainAttrs_str PySem.F.slot_str_split PySem.F.type_str_split mt_split (pv 0) (pa_cons (pv 1) pa_nil)))
        (blkOk_by (own := [("part", 3)]) (N := N51) (sc := defScope (topS 51)) (by decide +kernel)) (fun _ _ _ _ _ => pg_name (i := 3) sc51.nd rfl (Or.inl rfl)) (fun _ _ _ _ _ => pts_nil) (fun _ _ _ _ _ => pe_ca0 cI hr (by decide) (pa_cons (pv 3) pa_nil)))
      (pss_one (ps_ret (pe_ifExp (pt_cmpR (op_inD (room65 hr)) pe_non (pv 2) rfl) pe_non (pv 2)))), ?_⟩
    have hmz : (m.length == 0) = false := by rw [hm]; rfl
    refine ⟨_, rfl, rfl, _, rfl, t, m, rfl, rfl, hmz, (by rw [sizeLine_eq]; omega), fun p hp => ?_⟩
    have sp := sNew hp (.lst ((Txt.split t m).map V.str))
    refine ⟨p, rfl, ⟨_, SqL.of upd_same⟩, fun D hD => ?_⟩
    have hD0 : H D = none := by
      by_cases z : D = p
      · rw [z]; exact hp
      · rw [← hD, upd_ne z]
    have cnt := split_count (t := t) hm
    refine lc_list (K := K) (a := p) (xs := (Txt.split t m).map V.str) (fun i H' => Same (upd H p (.lst ((Txt.split t m).map V.str))) H' ∧ H' D = some (.lst ((((Txt.split t m).take i).map readI).map optI))) ⟨sNew hD _, upd_same⟩ (fun i H' _ h => SqL.of (h.1 _ _ upd_same)) ?_ ?_
    · rintro i x H' hx ⟨s1, hd⟩
      rw [List.getElem?_map] at hx
      cases q : (Txt.split t m)[i]? with
      | none => rw [q] at hx; cases hx
      | some z =>
        rw [q] at hx
        obtain rfl : x = V.str z := (Option.some.inj hx).symm
        have mem : z ∈ Txt.split t m := List.mem_of_getElem? q
        have fin : ∀ H3, Same H' H3 → ∀ o, readI z = o → ∃ acc, H3 D = some (.lst acc) ∧ acc.length < sizeLine ∧ (Same (upd H p (.lst ((Txt.split t m).map V.str))) (upd H3 D (.lst (acc ++ [optI o]))) ∧ upd H3 D (.lst (acc ++ [optI o])) D = some (.lst ((((Txt.split t m).take (i + 1)).map readI).map optI))) := fun H3 s3 o ho => by
          refine ⟨_, s3 _ _ hd, ?_, sPut (s1.trans s3) hD, ?_⟩
          · rw [List.length_map, List.length_map, List.length_take, sizeLine_eq]
            omega
          · rw [upd_same, List.take_succ, q, List.map_append, List.map_append, ← ho]
            rfl
        refine ⟨rfl, _, rfl, z, rfl, Nat.le_trans (split_part mem) hl, fun n hn H3 s3 => fin H3 s3 (some n) (readI_of hn), fun hn H3 s3 => fin H3 s3 none (readI_none hn)⟩
    · rintro H' ⟨s1, hd⟩
      rw [List.length_map, List.take_length] at hd
      have s2 := sp.trans s1
      refine ⟨_, rfl, .none, ((Txt.split t m).map readI).map optD, .non, .lst (SqL.of hd) (optIs_dp _), rfl, optD_shaped _, _, rfl, ?_⟩
      rw [optD_any]
      refine ite2 (fun z => ?_) fun z => ?_
      · exact ko (allSome_none.mpr (of_decide_eq_true z)) H' s2
      · have nn : ¬ none ∈ (Txt.split t m).map readI := fun y => z (decide_eq_true y)
        cases q : readIs t m with
        | none => exact absurd (allSome_none.mp q) nn
        | some ns =>
          refine ⟨_, rfl, ok ns q H' D s2 hD0 ?_⟩
          rw [hd, allSome_some.mp q, List.map_map]
          rfl
end
end K82
set_option Elab.async false
set_option linter.all false
set_option maxRecDepth 100000
set_option maxHeartbeats 400000
namespace K82
open PySem PySem.Spec PyProof.Rows L2 GenW K82G ClX
section
variable {prog : Program} {w : World} {A : Around} {E : Value → Shared → Prop}
theorem draw_list {it l : Addr} {items : Array Value} (hne : l ≠ it) : ∀ (n i : Nat) (s : Shared) (Q : List Value → Shared → Prop), s.heap.IsListIter it l i → s.heap.IsList l items → i + n ≤ items.size →
    (∀ h', h'.IsListIter it l (i + n) → Heap.SameBut it s.heap h' → Q ((items.toList.drop i).take n) { s with heap := h' }) → wpAny (model prog w) A (draw (.ref it) n) Q E s := by
  intro n
  induction n with
  | zero =>
    intro i s Q hit _ _ hQ
    have z := hQ s.heap hit (Heap.SameBut.refl ..)
    rw [List.take_zero] at z
    exact wpAny_pure z
  | succ n ih =>
    intro i s Q hit hl hle hQ
    have lt : i < items.size := by omega
    have lt' : i < items.toList.length := by simpa using lt
    show wpAny _ _ (pyNext (.ref it) >>= _) Q E s
    refine wpAny_bind (wpAny_pyNext_list_item hit hl (x := items[i]) (by simp [lt]) fun h1 hit1 sb1 => ?_)
    refine wpAny_bind (wpAny_holding (ih (i + 1) _ _ hit1 (hl.extBut sb1.extBut hne) (by omega) fun h2 hit2 sb2 => wpAny_pure ?_))
    have z := hQ h2 (by rw [show i + (n + 1) = i + 1 + n by omega]; exact hit2) (sb1.trans sb2)
    rw [List.drop_eq_getElem_cons lt', List.take_succ_cons] at z
    simpa using z
theorem unpack_list {l : Addr} {items : Array Value} {s : Shared} {Q : List Value → Shared → Prop} (hh : A.handled = none) (hl : s.heap.IsList l items)
    (hQ : ∀ h', (∀ b o, s.heap.get? b = some o → h'.get? b = some o) → Q items.toList { s with heap := h' }) : wpAny (model prog w) A (unpackItems (.ref l) items.size none) Q E s := by
  have lt : l < s.heap.objs.size := by obtain ⟨o, ho, _⟩ := id hl; exact Heap.lt_size ho
  have ne : l ≠ s.heap.objs.size := Nat.ne_of_lt lt
  unfold unpackItems notIterableAtAll
  refine wpAny_bind (wpAny_bind (wpAny_specialOf hl.typeIs slot_list_iter.lookup (wpAny_pure ?_)))
  simp only [Bool.false_eq_true, if_false]
  refine wpAny_bind (wpAny_holding (wpAny_pyIter_list hl ?_))
  have hl1 : (s.heap.push { cls := .type "list_iterator", data := .fields #[.ref l, .int 0 0] }).IsList l items := hl.at fun o q => Heap.get?_push_of_some _ q
  refine wpAny_bind (wpAny_holding (draw_list ne items.size 0 _ _ ⟨_, Heap.get?_push_size _ rfl, rfl, rfl⟩ hl1 (by omega) fun h1 hit1 sb1 => ?_))
  rw [List.drop_zero, List.take_of_length_le (by simp), if_neg (by simp)]
  have hl2 : h1.IsList l items := hl1.extBut sb1.extBut ne
  refine wpAny_bind (wpAny_holding (wpAny_pyNext_list_end hh hit1 hl2 (by simp) fun h2 x2 => ?_))
  simp only [Option.isSome_none, Bool.false_eq_true, if_false]
  refine wpAny_pure (hQ h2 fun b o q => ?_)
  have nb : b ≠ s.heap.objs.size := Nat.ne_of_lt (Heap.lt_size q)
  exact x2 b o nb (sb1.extBut b o nb (Heap.get?_push_of_some _ q))
end
/-- match e: case [x, y]: .. over None or a list -/
def tMatch2 (K : PySem.W.Frag) (te : TE) (i j : Nat) (tb : TS) : TS := fun D σ H => te σ H fun v H1 => (v = .non ∧ D.nx σ H1) ∨
  ∃ (l : Addr) (xs : List V), v = .ref l ∧ SqL K H1 l xs ∧ ((xs.length ≠ 2 ∧ D.nx σ H1) ∨ ∃ a b, xs = [a, b] ∧ tb D ((σ.set i (some a)).set j (some b)) H1)
theorem ps_match2 {X : Cx} {subj : Expr} {te : TE} {x y : Str} {i j : Nat} {p1 p2 p3 pos : Pos} {body : List Stmt} {tb : TS} (hc : X.calm = true) (he : PE X subj te) (hN : X.N.Nodup) (hi : X.N[i]? = some x) (hj : X.N[j]? = some y) (hx : Loc X.env.scope x) (hy : Loc X.env.scope y) (hfn : X.fn x = true ∧ X.fn y = true) (hb : PSs X body tb) :
    PS X (.Match subj [⟨.MatchSequence [.MatchAs none (some x) p1, .MatchAs none (some y) p2] p3, none, body⟩] pos) (tMatch2 X.K te i j tb) := by
  refine ⟨fun pins s σ H D I h => ?_⟩
  refine wpAny_Match (thn (he.run pins s σ H _ I h) fun v s1 ⟨z, H1, I1, r1, q1⟩ => wpAny_matchCases_cons ?_)
  rcases q1 with ⟨rfl, q⟩ | ⟨l, xs, rfl, hs, q⟩
  · obtain rfl : v = Value.none := r1
    refine wpAny_matchPattern_Sequence (wpAny_collectionFlag (T := "NoneType") (by first | exact typeIs_none | rfl | exact Shared.typeIs_none _) flag_seq_None ?_)
    exact wpAny_matchCases_nil ⟨σ, H1, I1, q⟩
  · obtain rfl : v = Value.ref l := r1
    obtain ⟨its, rv, hl, hz⟩ := I1.list hs
    have hfit : ((its.toArray.size : Nat) : Int) < 2 ^ 63 := by
      have := rv.length
      have := sizeLine_eq
      simp
      omega
    rcases q with ⟨hn, q⟩ | ⟨a, b, rfl, q⟩
    · refine matchSeq_list_miss hl.isList hfit (by simp; rw [← rv.length]; exact hn) ?_
      exact wpAny_matchCases_nil ⟨σ, H1, I1.tok _, q⟩
    · obtain ⟨u1, u2, rfl, ra, rb⟩ := vals2 rv
      refine matchSeq_list_hit hl.isList hfit rfl ?_
      refine unpack_list (items := #[u1, u2]) (I1.ok.hd hc) hl.isList fun h' kp => ?_
      refine wpAny_matchEach_cons (wpAny_matchPattern_Capture ?_)
      refine wpAny_matchEach_cons (wpAny_matchPattern_Capture ?_)
      refine wpAny_matchEach_nil ?_
      have I2 : Inv X pins σ H1 { s1 with heap := h', toks := s1.toks + 1 + 1 } := I1.kept kp
      refine wpAny_assignInOrder_more (wpAny_bindName (store_ok I2 hN hi hx ra (fun s2 I3 => ?_) (.inl hfn.1)))
      refine wpAny_assignInOrder_more (wpAny_bindName (store_ok I3 hN hj hy rb (fun s3 I4 => ?_) (.inl hfn.2)))
      refine wpAny_assignInOrder_none ?_
      exact hb.run pins s3 _ H1 D I4 q
end K82
set_option Elab.async false
set_option linter.all false
set_option maxRecDepth 100000
set_option maxHeartbeats 400000
namespace K82
open PySem PySem.Spec PyProof.Rows L2 GenW K82G ClX
noncomputable def readPt (t : Str) : Option (Int × Int) := match readIs t "," with
  | some [x, y] => some (x, y)
  | _ => none
noncomputable def readPts (t : Str) : Option (List (Int × Int)) := allSome ((Txt.split t " ").map readPt)
def OptP (H : Hp) (o : Option (Int × Int)) (v : V) : Prop := match o with
  | none => v = .non
  | some p => PtAt H p v
theorem OptP.same {H H' : Hp} {o : Option (Int × Int)} {v : V} (h : OptP H o v) (s : Same H H') : OptP H' o v := by
  cases o with
  | none => exact h
  | some p => exact PtAt.same h s
def optPD : Option (Int × Int) → PyData
  | none => .none
  | some p => ptD p
theorem optPD_lay : ∀ os : List (Option (Int × Int)), PyData.canLayAll0 (os.map optPD) = true
  | [] => by simp [PyData.canLayAll0]
  | none :: os => by simp [PyData.canLayAll0, optPD, PyData.canLay0, optPD_lay os]
  | some p :: os => by simp [PyData.canLayAll0, optPD, ptD_lay p, optPD_lay os]
theorem optPD_depth : ∀ os : List (Option (Int × Int)), PyData.depthAll (os.map optPD) ≤ 1
  | [] => by simp [PyData.depthAll]
  | o :: os => by
    have h1 := optPD_depth os
    have h2 : (optPD o).depth ≤ 1 := by
      cases o with
      | none => simp [optPD, PyData.depth]
      | some p => exact Nat.le_of_eq (ptD_depth p)
    simp only [List.map_cons, PyData.depthAll]
    omega
theorem optPD_shaped (os : List (Option (Int × Int))) : SeqAt.shaped (.list (os.map optPD)) = true := by
  have h1 := optPD_depth os
  have h2 : PyData.depth (.list (os.map optPD)) ≤ 64 := by
    simp only [PyData.depth]
    omega
  unfold SeqAt.shaped
  rw [decide_eq_true h2, Bool.and_true]
  simp only [PyData.canLay0]
  exact optPD_lay os
theorem optPD_any : ∀ os : List (Option (Int × Int)), ((os.map optPD).any fun z => PyData.eqv z .none) = decide (none ∈ os)
  | [] => by simp
  | none :: os => by simp [optPD, PyData.eqv]
  | some p :: os => by
    rw [List.map_cons, List.any_cons, optPD_any os]
    simp [optPD, ptD, PyData.eqv]
inductive OptPs (H : Hp) : List (Option (Int × Int)) → List V → Prop
  | nil : OptPs H [] []
  | snoc {os : List (Option (Int × Int))} {vs : List V} {o : Option (Int × Int)} {v : V} (r : OptPs H os vs) (h : OptP H o v) : OptPs H (os ++ [o]) (vs ++ [v])
theorem OptPs.same {H H' : Hp} {os : List (Option (Int × Int))} {vs : List V} (h : OptPs H os vs) (s : Same H H') : OptPs H' os vs := by
  induction h with
  | nil => exact .nil
  | snoc r h ih => exact .snoc ih (h.same s)
theorem dp_app {K : PySem.W.Frag} {H : Hp} : ∀ {vs ws : List V} {ds es : List PyData}, DpAll K H vs ds → DpAll K H ws es → DpAll K H (vs ++ ws) (ds ++ es)
  | [], _, _, _, .nil, h => h
  | _ :: _, _, _, _, .cons a b, h => .cons a (dp_app b h)
theorem OptPs.dp {K : PySem.W.Frag} {H : Hp} {os : List (Option (Int × Int))} {vs : List V} (h : OptPs H os vs) : DpAll K H vs (os.map optPD) := by
  induction h with
  | nil => exact .nil
  | @snoc os vs o v r h ih =>
    rw [List.map_append]
    refine dp_app ih (.cons ?_ .nil)
    cases o with
    | none =>
      rw [show v = .non from h]
      exact .non
    | some p => exact pt_dp h
theorem OptPs.len {H : Hp} {os : List (Option (Int × Int))} {vs : List V} (h : OptPs H os vs) : vs.length = os.length := by
  induction h with
  | nil => rfl
  | snoc r h ih => rw [List.length_append, List.length_append, ih]; rfl
theorem OptPs.get {H : Hp} {os : List (Option (Int × Int))} {vs : List V} (h : OptPs H os vs) : ∀ i, i < os.length → OptP H (os.getD i none) (vs.getD i .non) := by
  induction h with
  | nil => exact fun i hi => absurd hi (Nat.not_lt_zero _)
  | @snoc os vs o v r h ih =>
    intro i hi
    rw [List.length_append, List.length_singleton] at hi
    rcases Nat.lt_succ_iff_lt_or_eq.mp hi with y | y
    · rw [List.getD_eq_getElem?_getD, List.getD_eq_getElem?_getD, List.getElem?_append_left y, List.getElem?_append_left (by rw [r.len]; exact y), ← List.getD_eq_getElem?_getD, ← List.getD_eq_getElem?_getD]
      exact ih i y
    · subst y
      rw [List.getD_eq_getElem?_getD, List.getD_eq_getElem?_getD, List.getElem?_append_right (Nat.le_refl _), List.getElem?_append_right (by rw [r.len]; exact Nat.le_refl _), r.len, Nat.sub_self]
      exact h
theorem OptPs.pts {H : Hp} {ps : List (Int × Int)} {vs : List V} (h : OptPs H (ps.map some) vs) : Pts H ps vs := by
  refine ⟨by rw [h.len, List.length_map], fun i hi => ?_⟩
  have q := h.get i (by rw [List.length_map]; exact hi)
  rw [List.getD_eq_getElem?_getD, List.getElem?_map, List.getElem?_eq_getElem hi] at q
  rw [show ps.getD i (0, 0) = ps[i] by rw [List.getD_eq_getElem?_getD, List.getElem?_eq_getElem hi]; rfl]
  exact q
section
variable {P : Program} {w : World} {K : PySem.W.Frag} {mg : Str → Option Value} {base : Heap} {A : Cl}
def spPtOf : Sp := fun vs H Q _ => ∃ t : Str, vs = [.str t] ∧ t.length ≤ 2000 ∧ ∀ H' v, Same H H' → OptP H' (readPt t) v → Q v H'
abbrev N52 : List Str := ["text", "x", "y"]
theorem sc52 : FnScope N52 ["text"] (defScope (topS 52)) := ⟨rfl, rfl, rfl, by decide +kernel, rfl, by decide +kernel, by decide +kernel⟩
theorem ok_point_of (D : Df K mg "point_of" 52) (cI : Ca P w K mg base CX0 2 "integers_of" spIntsOf []) : Ca P w K mg base CX0 3 "point_of" spPtOf [] := by
  refine ca_of D sc52 (fun vs H Q E h => ?_) (fun _ _ _ _ _ _ us hl => match us, hl with | [_], _ => rfl) (fun f cdv Ar outer s H vs Q E hr h => ?_)
  · obtain ⟨t, rfl, _⟩ := h
    rfl
  · obtain ⟨t, rfl, hl, q⟩ := h
    refine ⟨_, pss_cons (ps_match2 (i := 1) (j := 2) rfl (pe_ca0 cI hr (by decide) (pa_cons (pv 0) (pa_cons pe_str pa_nil))) sc52.nd rfl rfl (Or.inl rfl) (Or.inl rfl) ⟨rfl, rfl⟩ (pss_one (ps_ret (pe_tup (pa_cons (pv 1) (pa_cons (pv 2) pa_nil)))))) (pss_one (ps_ret pe_non)), ?_⟩
    refine ⟨_, rfl, t, _, rfl, hl, rfl, fun hn H' s1 => .inl ⟨rfl, q H' _ s1 ?_⟩, fun ns hn H' L s1 hL0 hL => .inr ⟨L, _, rfl, SqL.of hL, ?_⟩⟩
    · have e : readPt t = none := by unfold readPt; rw [show readIs t "," = none from hn]
      rw [e]
      rfl
    · by_cases h2 : ns.length = 2
      · obtain ⟨x, y, rfl⟩ : ∃ x y, ns = [x, y] := by
          match ns, h2 with
          | [x, y], _ => exact ⟨x, y, rfl⟩
        have e : readPt t = some (x, y) := by unfold readPt; rw [show readIs t "," = some [x, y] from hn]
        refine .inr ⟨_, _, rfl, _, rfl, _, rfl, by show 2 ≤ sizeLine; decide, fun p hp => ?_⟩
        refine q _ _ (s1.trans (sNew hp _)) ?_
        rw [e]
        exact ⟨p, rfl, upd_same⟩
      · refine .inl ⟨by rw [List.length_map]; exact h2, ?_⟩
        have e : readPt t = none := by
          unfold readPt
          rw [show readIs t "," = some ns from hn]
          match ns, h2 with
          | [], _ => rfl
          | [a], _ => rfl
          | [a, b], h => exact absurd rfl h
          | a :: b :: c :: r, _ => rfl
        refine q H' _ s1 ?_
        rw [e]
        rfl
/-! ### points_of_text -/
def spPtsOf : Sp := fun vs H Q _ => ∃ t : Str, vs = [.str t] ∧ t.length ≤ 2000 ∧ (readPts t = none → ∀ H', Same H H' → Q .non H') ∧
  (∀ ps, readPts t = some ps → ∀ H' L ws, Same H H' → H' L = some (.lst ws) → Pts H' ps ws → Q (.ref L) H')
abbrev N53 : List Str := ["text", "points", "part"]
theorem sc53 : FnScope N53 ["text"] (defScope (topS 53)) := ⟨rfl, rfl, rfl, by decide +kernel, rfl, by decide +kernel, by decide +kernel⟩
theorem ok_points_of (D : Df K mg "points_of_text" 53) (cP : Ca P w K mg base CX0 3 "point_of" spPtOf []) : Ca P w K mg base CX0 4 "points_of_text" spPtsOf [] := by
  refine ca_of D sc53 (fun vs H Q E h => ?_) (fun _ _ _ _ _ _ us hl => match us, hl with | [_], _ => rfl) (fun f cdv Ar outer s H vs Q E hr h => ?_)
  · obtain ⟨t, rfl, _⟩ := h
    rfl
  · obtain ⟨t, rfl, hl, ko, ok⟩ := h
    refine ⟨_, pss_cons (ps_setLc (i := 1) (own := [("part", 2)]) (g := gName 2) rfl sc53.nd rfl rfl rfl (pi_list (pe_bm PySem.F.plainAttrs_str PySem.F.slot_str_split PySem.F.type_str_split mt_split (pv 0) (pa_cons pe_str pa_nil)))
        (blkOk_by (own := [("part", 2)]) (N := N53) (sc := defScope (topS 53)) (by decide +kernel)) (fun _ _ _ _ _ => pg_name (i := 2) sc53.nd rfl (Or.inl rfl)) (fun _ _ _ _ _ => pts_nil) (fun _ _ _ _ _ => pe_ca0 cP hr (by decide) (pa_cons (pv 2) pa_nil)))
      (pss_one (ps_ret (pe_ifExp (pt_cmpR (op_inD (room65 hr)) pe_non (pv 1) rfl) pe_non (pv 1)))), ?_⟩
    refine ⟨_, rfl, rfl, t, _, rfl, rfl, rfl, (by rw [sizeLine_eq]; omega), fun p hp => ?_⟩
    have sp := sNew hp (.lst ((Txt.split t " ").map V.str))
    refine ⟨p, rfl, ⟨_, SqL.of upd_same⟩, fun D hD => ?_⟩
    have cnt := split_count (t := t) (m := " ") rfl
    refine lc_list (K := K) (a := p) (xs := (Txt.split t " ").map V.str) (fun i H' => Same (upd H p (.lst ((Txt.split t " ").map V.str))) H' ∧ ∃ acc, H' D = some (.lst acc) ∧ OptPs H' (((Txt.split t " ").take i).map readPt) acc) ⟨sNew hD _, [], upd_same, .nil⟩ (fun i H' _ h => SqL.of (h.1 _ _ upd_same)) ?_ ?_
    · rintro i x H' hx ⟨s1, acc, hd, ha⟩
      rw [List.getElem?_map] at hx
      cases q : (Txt.split t " ")[i]? with
      | none => rw [q] at hx; cases hx
      | some z =>
        rw [q] at hx
        obtain rfl : x = V.str z := (Option.some.inj hx).symm
        have mem : z ∈ Txt.split t " " := List.mem_of_getElem? q
        refine ⟨rfl, _, rfl, z, rfl, Nat.le_trans (split_part mem) hl, fun H3 v s3 hv => ⟨_, s3 _ _ hd, ?_, sPut (s1.trans s3) hD, _, upd_same, ?_⟩⟩
        · rw [ha.len, List.length_map, List.length_take, sizeLine_eq]
          omega
        · have a1 := (ha.same s3).snoc hv
          have e : ((Txt.split t " ").take (i + 1)).map readPt = ((Txt.split t " ").take i).map readPt ++ [readPt z] := by
            rw [List.take_succ, q, List.map_append]
            rfl
          rw [e]
          have put : ∀ {os : List (Option (Int × Int))} {vs : List V}, OptPs H3 os vs → OptPs (upd H3 D (.lst (acc ++ [v]))) os vs := fun {os vs} h => by
            induction h with
            | nil => exact .nil
            | @snoc os vs o u r h ih =>
              refine .snoc ih ?_
              cases o with
              | none => exact h
              | some p =>
                obtain ⟨b, rb, hb⟩ := h
                exact ⟨b, rb, (upd_ne (fun y => by rw [y, s3 _ _ hd] at hb; cases hb)).trans hb⟩
          exact put a1
    · rintro H' ⟨s1, acc, hd, ha⟩
      rw [List.length_map, List.take_length] at ha
      have s2 := sp.trans s1
      refine ⟨_, rfl, .none, ((Txt.split t " ").map readPt).map optPD, .non, .lst (SqL.of hd) ha.dp, rfl, optPD_shaped _, _, rfl, ?_⟩
      rw [optPD_any]
      refine ite2 (fun z => ?_) fun z => ?_
      · exact ko (allSome_none.mpr (of_decide_eq_true z)) H' s2
      · have nn : ¬ none ∈ (Txt.split t " ").map readPt := fun y => z (decide_eq_true y)
        cases q : readPts t with
        | none => exact absurd (allSome_none.mp q) nn
        | some ps =>
          refine ⟨_, rfl, ok ps q H' D acc s2 hd ?_⟩
          rw [allSome_some.mp q] at ha
          exact ha.pts
end
end K82
set_option Elab.async false
set_option linter.all false
set_option maxRecDepth 100000
set_option maxHeartbeats 400000
namespace K82
open PySem PySem.Spec PyProof.Rows L2 GenW K82G ClX
def midS (t : Str) : Str := cutS t (some 1) (some (-1))
noncomputable def readSix (t : Str) : Option Six := if (TL.tl t).head? = some 91 ∧ (TL.tl t).getLast? = some 93 then
    (match readIs (midS t) " " with
    | some [a, b, c, d, e, f] => some ⟨a, b, c, d, e, f⟩
    | _ => none) else none
section
variable {P : Program} {w : World} {K : PySem.W.Frag} {mg : Str → Option Value} {base : Heap} {A : Cl}
def spSixOf : Sp := fun vs H Q _ => ∃ t : Str, vs = [.str t] ∧ t.length ≤ 2000 ∧ (readSix t = none → ∀ H', Same H H' → Q .non H') ∧
  (∀ s, readSix t = some s → ∀ H' L, Same H H' → H' L = some (.lst s.vs) → Q (.ref L) H')
abbrev N54 : List Str := ["text", "numbers"]
theorem sc54 : FnScope N54 ["text"] (defScope (topS 54)) := ⟨rfl, rfl, rfl, by decide +kernel, rfl, by decide +kernel, by decide +kernel⟩
theorem midS_len (t : Str) : (midS t).length ≤ t.length := by
  unfold midS cutS
  show (((t.cps.toList.drop _).take _).toArray).size ≤ t.cps.size
  simp only [List.size_toArray, List.length_take, List.length_drop, Array.length_toList]
  omega
theorem six_of_list {ns : List Int} (h : ns.length = 6) : ∃ a b c d e f, ns = [a, b, c, d, e, f] := by
  match ns, h with
  | [a, b, c, d, e, f], _ => exact ⟨a, b, c, d, e, f, rfl⟩
theorem readSix_not {t : Str} {ns : List Int} (h : readIs (midS t) " " = some ns) (h6 : ns.length ≠ 6) : readSix t = none := by
  unfold readSix
  split
  · rw [h]
    match ns, h6 with
    | [], _ => rfl
    | [_], _ => rfl
    | [_, _], _ => rfl
    | [_, _, _], _ => rfl
    | [_, _, _, _], _ => rfl
    | [_, _, _, _, _], _ => rfl
    | [_, _, _, _, _, _], h => exact absurd rfl h
    | _ :: _ :: _ :: _ :: _ :: _ :: _ :: _, _ => rfl
  · rfl
theorem ok_six_of (Fr : Free mg) (D : Df K mg "six_of" 54) (cI : Ca P w K mg base CX0 2 "integers_of" spIntsOf []) : Ca P w K mg base CX0 3 "six_of" spSixOf [] := by
  refine ca_of D sc54 (fun vs H Q E h => ?_) (fun _ _ _ _ _ _ us hl => match us, hl with | [_], _ => rfl) (fun f cdv Ar outer s H vs Q E hr h => ?_)
  · obtain ⟨t, rfl, _⟩ := h
    rfl
  · obtain ⟨t, rfl, hl, ko, ok⟩ := h
    refine ⟨_, pss_cons (ps_if (PW.pt (pw_or (pt_not (pt_val (pe_bm PySem.F.plainAttrs_str PySem.F.slot_str_startswith PySem.F.type_str_startswith mt_startswith (pv 0) (pa_cons pe_str pa_nil))))
        (pw_or1 (pt_not (pt_val (pe_bm PySem.F.plainAttrs_str PySem.F.slot_str_endswith PySem.F.type_str_endswith mt_endswith (pv 0) (pa_cons pe_str pa_nil))))))) (pss_one (ps_ret pe_non)) pss_nil)
      (pss_cons (ps_set (i := 1) sc54.nd rfl (Or.inl rfl) (pe_ca0 cI hr (by decide) (pa_cons (pe_slice sl_str (pv 0) (po_some pe_int) (po_some (pe_un un_neg pe_int))) (pa_cons pe_str pa_nil))))
      (pss_one (ps_ret (pe_ifExp (PW.pt (pw_or (pt_cmp (pc_isN (pv 1)) rfl) (pw_or1 (pt_cmpR op_ne (pe_callB call_lenB (by rfl) Fr.len (by decide +kernel) (pa_cons (pv 1) pa_nil)) pe_int (nomark _))))) pe_non (pv 1))))), ?_⟩
    have z91 : Str.ofString "[" = ⟨#[91]⟩ := by decide +kernel
    have z93 : Str.ofString "]" = ⟨#[93]⟩ := by decide +kernel
    have es : Txt.startswith t (Str.ofString "[") = decide ((TL.tl t).head? = some 91) := by rw [z91]; exact starts1 t 91
    have ee : Txt.endswith t (Str.ofString "]") = decide ((TL.tl t).getLast? = some 93) := by rw [z93]; exact ends1 t 93
    refine ⟨_, rfl, rfl, t, _, rfl, rfl, _, rfl, ?_⟩
    rw [es]
    by_cases h1 : (TL.tl t).head? = some 91
    · rw [decide_eq_true h1]
      refine iteF ⟨_, rfl, rfl, t, _, rfl, rfl, _, rfl, ?_⟩
      rw [ee]
      by_cases h2 : (TL.tl t).getLast? = some 93
      · rw [decide_eq_true h2]
        refine iteF ?_
        have mid : readSix t = (match readIs (midS t) " " with
          | some [a, b, c, d, e, f] => some ⟨a, b, c, d, e, f⟩
          | _ => none) := if_pos ⟨h1, h2⟩
        refine ⟨_, rfl, 1, rfl, 1, rfl, _, rfl, t, rfl, (by rw [sizeLine_eq]; omega), midS t, _, rfl, Nat.le_trans (midS_len t) hl, rfl, fun hn H' s1 => ?_, fun ns hn H' L s1 hL0 hL => ?_⟩
        · refine ⟨_, rfl, true, rfl, iteT (iteT (ko ?_ H' s1))⟩
          rw [mid, show readIs (midS t) " " = none from hn]
        · refine ⟨_, rfl, _, rfl, ?_⟩
          refine iteF ⟨_, rfl, L, _, false, rfl, SqL.of hL, rfl, _, rfl, ?_⟩
          rw [dec_int]
          by_cases h6 : ns.length = 6
          · obtain ⟨a, b, c, d, e, g, rfl⟩ := six_of_list h6
            refine iteF ⟨_, rfl, ok ⟨a, b, c, d, e, g⟩ ?_ H' L s1 hL⟩
            rw [mid, show readIs (midS t) " " = some [a, b, c, d, e, g] from hn]
          · have e6 : (!((((ns.map V.int).length : Nat) : Int) == 6)) = true := by
              rw [Bool.not_eq_true', beq_eq_false_iff_ne, List.length_map]
              omega
            rw [e6]
            exact iteT (ko (readSix_not hn h6) H' s1)
      · rw [decide_eq_false h2]
        refine iteT (ko (if_neg fun z => h2 z.2) H (Same.refl _))
    · rw [decide_eq_false h1]
      exact iteT (iteT (ko (if_neg fun z => h1 z.1) H (Same.refl _)))
end
end K82
set_option Elab.async false
set_option linter.all false
set_option maxRecDepth 100000
set_option maxHeartbeats 400000
namespace K82
open PySem PySem.Spec PyProof.Rows L2 GenW K82G ClX L2H HotX
/-- the suite's own wish: the exception in the air, as it is -/
abbrev asX (X : Cx) (a : Addr) (pn : List (Addr × Obj)) (W : WX) : Cx := { suiteX X a pn with xe := fun u s' => L2.XE (suiteX X a pn) W u s' }
theorem asX_takes {X : Cx} {a : Addr} {pn : List (Addr × Obj)} {W : WX} : L2.Takes (asX X a pn W) W := fun u s' x => by
  obtain ⟨a2, B, sI, pins, σ, H, cls, d, e, I, nb, up, sky, na, os, ag, w⟩ := x
  exact ⟨a2, B, sI, pins, σ, H, cls, d, e, ⟨⟨I.ok.mod, I.ok.kind, I.ok.glob, I.ok.blt, I.ok.above, I.ok.inj, I.ok.has, I.ok.cab, I.ok.hd, I.ok.frames, I.ok.stk, I.ok.exf, I.ok.bs, I.ok.bsz, I.ok.noex, I.ok.exfs, I.ok.funs, I.ok.frf⟩, I.os, I.bare, I.base, I.loc, I.cell, I.free, I.freeC, I.pin, I.hok, I.len⟩, nb, up, sky, na, os, ag, w⟩
theorem ofAs {X : Cx} {a : Addr} {pn pn' : List (Addr × Obj)} {W : WX} {σ : L2.St} {H : Hp} {s : Shared} (I : Inv (suiteX X a pn) pn' σ H s) : Inv (asX X a pn W) pn' σ H s :=
  ⟨⟨I.ok.mod, I.ok.kind, I.ok.glob, I.ok.blt, I.ok.above, I.ok.inj, I.ok.has, I.ok.cab, I.ok.hd, I.ok.frames, I.ok.stk, I.ok.exf, I.ok.bs, I.ok.bsz, I.ok.noex, I.ok.exfs, I.ok.funs, I.ok.frf⟩, I.os, I.bare, I.base, I.loc, I.cell, I.free, I.freeC, I.pin, I.hok, I.len⟩
def wCatch (K : PySem.W.Frag) (c : Value) (i : Nat) (ts : Addr → Value → Option Addr → TS) : WX := fun cls d σ H => PySem.W.exmOne K cls c = some true ∧ ∀ a, H a = none → ts a cls d { nx := fun _ _ => False, rt := fun _ _ => False } (σ.set i (some (.ref a))) H
section
variable {X : Cx} {x n : Str} {c : Value} {i : Nat} {body suite : List Stmt} {b₀ : Stmt} {np pos pos' : Pos} {tb : WX → TS} {ts : Addr → Value → Option Addr → TS} {W : WX} {E : XK}
/-- behind noteFrame, where the exception is in the air -/
theorem air_held {M : Model} {A : Around} {E' : Value → Shared → Prop} {env : Env} {outer : List Env} {L a : Addr} {cls : Value} {d : Option Addr} {B : Heap} {s : Shared} {Q : Unit → Shared → Prop} (hfr : A.frames = some (env :: outer)) (hf : env.frame = some L)
    (sk : L2.Sky B (env :: outer) a (Zc cls d) L s.heap) (hQ : ∀ h', HandSPX.HeldZ B (env :: outer) a (Zc cls d) L h' → s.heap.UpToSlots h' → Q () { s with heap := h' }) : wpAny M A (noteFrame (.ref a) env) Q E' s := by
  rcases sk with ⟨hB, hn, hl, oe, vs, he, hz, hd, h1⟩ | fl | hh
  · exact HandSPX.look_newZ Zc.steady hfr hl hf he hB hn hd h1 hz hQ
  · exact HandSPX.looks_onZ Zc.steady hfr hf fl hQ
  · exact HandSPX.againZ hf hh.2.2.2 (hQ s.heap hh (Heap.UpToSlots.refl _))
/-- the clause's name goes while the exception is held -/
theorem held_but {B h h' : Heap} {env : Env} {outer : List Env} {L a : Addr} {cls : Value} {d : Option Addr} {m : Str → Option Value} (hf : env.frame = some L) (hh : HandSPX.HeldZ B (env :: outer) a (Zc cls d) L h) (hn : h.Ns L m) {m' : Str → Option Value} (hn' : h'.Ns L m') (sb : Heap.SameBut L h h') : HandSPX.HeldZ B (env :: outer) a (Zc cls d) L h' := by
  obtain ⟨k1, k2, k3, oe, vs, T, oT, ts, he, hz, hd, h1, hnT, hTe, hT, hdT, h3⟩ := hh
  obtain ⟨oL, esL, epL, hoL, hdL, _⟩ := hn
  obtain ⟨oL', esL', epL', hoL', hdL', _⟩ := hn'
  have notL : ∀ {b : Addr} {o : Obj} {fs : Array Value}, h.get? b = some o → o.data = .fields fs → b ≠ L := fun {b o fs} q dd y => by
    rw [y, hoL] at q
    cases q
    rw [hdL] at dd
    cases dd
  have baseL : B.get? L = none := by
    obtain ⟨hk, ⟨Le, ob, q1, q2, q3, q4⟩, _⟩ := k3
    rw [hf] at q1
    cases q1
    exact q2
  refine ⟨fun b o q => (sb.2 b (fun y => by rw [y, baseL] at q; cases q)).trans (k1 b o q), k2, ?_, oe, vs, T, oT, ts, (sb.2 a (notL he hd)).trans he, hz, hd, h1, hnT, hTe, (sb.2 T (notL hT hdT)).trans hT, hdT, h3⟩
  have all : ∀ l : List Env, h.FunFrames B l → h'.FunFrames B l := by
    intro l
    induction l with
    | nil => exact fun _ => trivial
    | cons e r ih =>
      rintro ⟨hk, ⟨Le, ob, q1, q2, q3, q4⟩, q5⟩
      refine ⟨hk, ?_, ih q5⟩
      by_cases y : Le = L
      · rw [y] at q1 q2
        exact ⟨L, oL', q1, q2, hoL', fun fs z => by rw [hdL'] at z; cases z⟩
      · exact ⟨Le, ob, q1, q2, (sb.2 Le y).trans q3, q4⟩
  exact all _ k3
theorem ps_try_asX (hs : X.stack = X.env :: X.outer) (hf : X.env.frame = some X.env.locals) (hex : X.ex = []) (hN : X.N.Nodup) (hi : X.N[i]? = some n) (hln : X.env.kindOf n = some .local) (hc : Names X x c)
    {E₁ : Value → Shared → Prop} (hx : X.xe = fun e s' => wpAny (model X.prog X.w) X.A (leaving X.env e) (fun _ s'' => L2.CX X.prog X.w X.outer X.H_0 X.s_0 E e s'') E₁ s') (hW : ∀ cls d σ H, W cls d σ H → E cls d H)
    (hb : ∀ (Wi : WX) (pn : List (Addr × Obj)) (xe : Value → Shared → Prop), L2N.Takes (X.tr pn xe) Wi → PassesOwn (model X.prog X.w) X.A X.env xe → PSs (X.tr pn xe) body (tb Wi))
    (hsu : ∀ (a : Addr) (oe : Obj) (cls : Value) (d : Option Addr) (pn : List (Addr × Obj)), L2N.Zn cls d oe → (∃ vs, oe.data = .fields vs ∧ vs[2]? = some .none) → HotC (asX X a ((a, oe) :: pn) W) → PSs (asX X a ((a, oe) :: pn) W) (b₀ :: suite) (ts a cls d)) :
    PS X (.Try body [.ExceptHandler (some (.Name x np)) (some n) (b₀ :: suite) pos'] [] [] pos) (fun D σ H => tb (wCatch X.K c i ts) D σ H) := by
  refine ⟨fun pins s σ H D I h => ?_⟩
  have okX := I.ok
  have frm : X.A.frames = some (X.env :: X.outer) := by rw [okX.frames, hs]
  refine wpAny_Try_except ?_
  refine wpAny_mono ((hb (wCatch X.K c i ts) (X.pn ++ pins) (fun e s₁ => wpAny (model X.prog X.w) X.A (noteFrame e X.env) (fun _ s₂ => wpAny (model X.prog X.w) X.A (setFlight e none) (fun _ s₃ =>
    wpAny (model X.prog X.w) X.A (handleBy e X.env [.ExceptHandler (some (.Name x np)) (some n) (b₀ :: suite) pos']) (SP X pins D) X.xe s₃) X.xe s₂) X.xe s₁) (fun u s' xx => ?_) PassesOwn.looking).run [] s σ H D (I.toTry _) h) (fun f s1 hsp => ?_) (fun e s1 he => he)
  · obtain ⟨a, B, sI, pn1, σ1, H1, cls, d, rfl, J', nb, up, sky, na, os, ag, hcat, hsuite⟩ := xx
    have J : Inv X pins σ1 H1 sI := J'.ofTry okX
    have sky' : L2.Sky B (X.env :: X.outer) a (L2N.Zn cls d) X.env.locals s'.heap := by rw [← hs]; exact sky
    show wpAny (model X.prog X.w) X.A (noteFrame (.ref a) X.env) _ _ _
    refine L2N.Sky.land L2N.Zn.steady frm hf sky' fun h3 fl3 up3 => ?_
    have J3 : Inv X pins σ1 H1 { s' with heap := h3 } := J.landed nb fl3.1 (up.trans up3) os ag
    obtain ⟨oe3, vs3, he3, hz3, hd3⟩ := fl3.there
    have offFrames : ∀ {h : Heap} {o : Obj} {vs : Array Value}, h.FunFrames B (X.env :: X.outer) → h.get? a = some o → o.data = .fields vs → a ∉ frs (X.env :: X.outer) := fun {h o vs} ff q dd hm => by
      obtain ⟨_, o', q', hnf⟩ := ff.mem hm
      rw [q] at q'
      cases q'
      exact hnf _ dd
    have out3 := offFrames fl3.2.2.1 he3 hd3
    have aL : a ≠ X.env.locals := fun z => out3 (List.mem_filterMap.mpr ⟨X.env, List.mem_cons_self, by rw [hf, z]⟩)
    have aF : a ∉ X.fs := fun hm => by
      obtain ⟨e1, he1, q⟩ := List.mem_filterMap.mp hm
      exact out3 (List.mem_filterMap.mpr ⟨e1, List.mem_cons_of_mem _ he1, q⟩)
    have S3 := J3.suite he3 hd3 na aL aF
    refine wpAny_handleBy_cons (codeAny_handlers_test ?_) (by intro q; cases q)
    have LT : PySem.W.Looks (model X.prog X.w) h3 (typeOf (.ref a)) cls := fun A Q E s k q => wpAny_typeOf_ref (k _ _ he3) (by rw [hz3.1]; exact q)
    have LM := PySem.W.exm_one (M := model X.prog X.w) (J3.kIn) LT hcat
    have test : ∀ {Q : Value → Shared → Prop} {E : Value → Shared → Prop}, Q c { s' with heap := h3 } → wpAny (model X.prog X.w) (X.A.mark (some (.ref a))) (eval (.Name x np) X.env) Q E { s' with heap := h3 } := fun {Q E} q => by
      obtain ⟨hg, hdbg, hm | ⟨hm, hv, hnn⟩⟩ := hc
      · exact ld_glob (X := X.suite a ((a, oe3) :: (X.pn ++ pins))) S3 hg hm q hdbg
      · exact ld_blt (X := X.suite a ((a, oe3) :: (X.pn ++ pins))) S3 hg hm hv q hnn hdbg
    refine test (LM.here ?_)
    refine codeAny_handlers_suite_as ?_
    refine HandSPX.lands_againZ fl3 fun h4 fl4 up4 => ?_
    have J4 : Inv X pins σ1 H1 { s' with heap := h4 } := J.landed nb fl4.1 ((up.trans up3).trans up4) os ag
    obtain ⟨oe4, vs4, he4, hz4, hd4⟩ := fl4.there
    have S4 := J4.suite he4 hd4 na aL aF
    refine store_ok (X := X.suite a ((a, oe4) :: (X.pn ++ pins))) (v := .ref a) S4 hN hi (.inl hln) rfl (fun s5 S5 => ?_) (.inr hln)
    have hot : HotC (asX X a ((a, oe4) :: (X.pn ++ pins)) W) := ⟨(a, oe4), ⟨rfl, vs4, hd4, hz4.2.2 vs4 hd4⟩, List.mem_cons_self⟩
    refine wpAny_mono ((hsu a oe4 cls d (X.pn ++ pins) hz4 ⟨vs4, hd4, hz4.2.2 vs4 hd4⟩ hot).run [] s5 _ H1 _ (ofAs (suiteX_of S5)) (hsuite a na)) (fun f s6 hsp => ?_) (fun e6 s6 z => ?_)
    · cases f with
      | next => obtain ⟨_, _, _, q⟩ := hsp; exact False.elim q
      | brk => obtain ⟨_, _, _, q⟩ := hsp; exact False.elim q
      | cont => obtain ⟨_, _, _, q⟩ := hsp; exact False.elim q
      | ret u => obtain ⟨_, _, _, _, _, q⟩ := hsp; exact False.elim q
    · obtain ⟨a2, B2, sI2, pn2, σ2, H2, cls2, d2, rfl, I2, nb2, up2, sky2, na2, os2, ag2, w2⟩ := z
      have frm2 : (X.A.mark (some (.ref a))).frames = some (X.env :: X.outer) := frm
      have sky3 : L2.Sky B2 (X.env :: X.outer) a2 (Zc cls2 d2) X.env.locals s6.heap := by rw [← hs]; exact sky2
      refine air_held frm2 hf sky3 fun h1 held1 up1 => ?_
      have J1 : Inv (suiteX X a ((a, oe4) :: (X.pn ++ pins))) pn2 σ2 H2 { s6 with heap := h1 } := I2.landed nb2 held1.1 (up2.trans up1) os2 ag2
      obtain ⟨m, hn, _⟩ := J1.loc
      refine wpAny_nameGoes_keeps hln hn (by rw [okX.kind]; rfl) fun h2 v hn2 sb2 => ?_
      have held2 := held_but hf held1 hn hn2 sb2
      obtain ⟨_, _, _, oe5, vs5, T5, oT5, ts5, he5, _, hd5, h15, _⟩ := id held2
      unfold PySem.passOn
      refine wpAny_bind (wpAny_field he5 hd5 h15 ?_)
      rw [if_neg (show ¬ ((Value.ref T5 == Value.none) = true) from by simp)]
      have fin : wpAny (model X.prog X.w) (X.A.mark (some (.ref a))) (setFlight (.ref a2) X.env.frame) (fun _ s9 => wpAny (model X.prog X.w) (X.A.mark (some (.ref a))) (throw (.ref a2) : Sem Flow) (fun _ _ => False) (notedBy (model X.prog X.w) (X.A.mark (some (.ref a))) X.env (cameBackBy (model X.prog X.w) X.A X.env X.xe)) s9)
          (notedBy (model X.prog X.w) (X.A.mark (some (.ref a))) X.env (cameBackBy (model X.prog X.w) X.A X.env X.xe)) { s6 with heap := h2, toks := s6.toks + 1 } := by
        rw [hf]
        refine HandSPX.setFlight_onZ held2 fun h7 held7 up7 => wpAny_throw (passesAt_of hx (some (.ref a)) _ _ ?_)
        rw [hx]
        refine HandSPX.leaves_heldZ hf held7 fun h8 fl8 up8 => ?_
        have notStk : ∀ b o, X.s_0.heap.get? b = some o → b ∉ X.fs → b ∉ frs X.stack := fun b o q hbf hm => by
          rcases List.mem_cons.mp (I2.stkSub b hm) with y | y
          · have q1 := Heap.lt_size q
            rw [y] at q1
            exact Nat.lt_irrefl _ (Nat.lt_of_lt_of_le q1 okX.above)
          · exact hbf y
        have noEx : ∀ b, b ∉ X.ex := fun b hbx => by rw [hex] at hbx; cases hbx
        refine ⟨a2, B2, H2, cls2, d2, rfl, fl8, I2.inGround nb2, ⟨fun b o q n hb => nb2 b o (I2.base.keep b o q n hb (noEx b)) (notStk b o q hb), fun b o q hb => ?_, fun b o q n => I2.base.free b o q n (noEx b), fun b o q hb => ?_, I2.base.tups, I2.base.frzs, I2.base.tbls⟩, na2, os2.trans I2.os, ag2, hW _ _ _ _ w2⟩
        · obtain ⟨_, o₀, q₀, hnf⟩ := okX.funs.mem hb
          rw [q] at q₀
          cases q₀
          have bL : b ≠ X.env.locals := fun y => by
            have q1 := Heap.lt_size q
            rw [y] at q1
            exact Nat.lt_irrefl _ (Nat.lt_of_lt_of_le q1 okX.above)
          obtain ⟨l1, r1⟩ := I2.base.slot b o q (okX.frf b hb) hb (noEx b)
          obtain ⟨l2, r2⟩ := up2 b _ r1 hnf
          obtain ⟨l3, r3⟩ := up1 b _ r2 hnf
          obtain ⟨l4, r4⟩ := up7 b _ ((sb2.2 b bL).trans r3) hnf
          obtain ⟨l5, r5⟩ := up8 b _ r4 hnf
          exact ⟨l5, r5⟩
        · obtain ⟨o', q1⟩ := I2.base.there b o q (noEx b)
          exact ⟨o', nb2 b o' q1 (notStk b o q hb)⟩
      first
        | exact wpAny_bind (wpAny_pure (wpAny_bind fin))
        | exact wpAny_bind fin
  · cases f with
    | next =>
      obtain ⟨σ2, H2, J2, q⟩ := hsp
      exact wpAny_execs_nil ⟨σ2, H2, J2.ofTry okX, q⟩
    | brk =>
      obtain ⟨σ2, H2, J2, q⟩ := hsp
      exact ⟨σ2, H2, J2.ofTry okX, q⟩
    | cont =>
      obtain ⟨σ2, H2, J2, q⟩ := hsp
      exact ⟨σ2, H2, J2.ofTry okX, q⟩
    | ret u =>
      obtain ⟨v, σ2, H2, J2, r, q⟩ := hsp
      exact ⟨v, σ2, H2, J2.ofTry okX, r, q⟩
end
end K82
set_option Elab.async false
set_option linter.all false
set_option maxRecDepth 100000
set_option maxHeartbeats 400000
namespace K82
open PySem PySem.Spec PyProof.Rows L2 GenW K82G ClX L2H HotX
/-- the heap behind «from y»: field 3 is y, field 4 is True -/
def causedBy (h : Heap) (a y : Addr) : Heap := (h.update a (Obj.mapFields (·.setIfInBounds 3 (.ref y)))).update a (Obj.mapFields (·.setIfInBounds 4 (.bool true)))
theorem causedBy_at {h : Heap} {a y : Addr} {oe : Obj} {vs : Array Value} (ha : h.get? a = some oe) (hd : oe.data = .fields vs) :
    (causedBy h a y).get? a = some ((oe.mapFields (·.setIfInBounds 3 (.ref y))).mapFields (·.setIfInBounds 4 (.bool true))) ∧ ((oe.mapFields (·.setIfInBounds 3 (.ref y))).mapFields (·.setIfInBounds 4 (.bool true))).data = .fields ((vs.setIfInBounds 3 (.ref y)).setIfInBounds 4 (.bool true)) := by
  have hd3 := Obj.data_mapFields hd (·.setIfInBounds 3 (.ref y))
  have ha3 := Heap.get?_update_self (Obj.mapFields (·.setIfInBounds 3 (.ref y))) ha (Obj.isFreed_of_fields hd3)
  have hd4 := Obj.data_mapFields hd3 (·.setIfInBounds 4 (.bool true))
  exact ⟨Heap.get?_update_self (Obj.mapFields (·.setIfInBounds 4 (.bool true))) ha3 (Obj.isFreed_of_fields hd4), hd4⟩
theorem causedBy_other {h : Heap} {a y b : Addr} (hne : a ≠ b) : (causedBy h a y).get? b = h.get? b := by
  unfold causedBy
  rw [Heap.get?_update_other _ _ hne, Heap.get?_update_other _ _ hne]
theorem raise_caused {prog : Program} {w : World} {A : Around} {E : Value → Shared → Prop} {env : Env} {s : Shared} {x c : Sem Value} {Q : Flow → Shared → Prop} {y : Addr}
    (h : wpAny (model prog w) A x (fun v s₁ => ∃ a oe vs cls oy vy, v = .ref a ∧ s₁.heap.get? a = some oe ∧ oe.cls = cls ∧ oe.data = .fields vs ∧ vs[1]? = some .none ∧ 4 < vs.size ∧ y ≠ a ∧ HotAt A y s₁.heap ∧
      s₁.heap.get? y = some oy ∧ oy.data = .fields vy ∧ PySem.W.Looks (model prog w) s₁.heap (isSubtype oy.cls (.type "BaseException")) true ∧ (∀ (Q' : Value → Shared → Prop), Q' (.ref y) s₁ → wpAny (model prog w) A c Q' E s₁) ∧
      PySem.W.Looks (model prog w) s₁.heap (isSubtype cls (.type "BaseException")) true ∧ PySem.W.Looks (model prog w) (causedBy s₁.heap a y) (typeOf cls) (.type "type") ∧
      E (.ref a) { s₁ with heap := (causedBy s₁.heap a y).update a (Obj.mapFields (·.setIfInBounds 2 (.ref y))) }) E s) :
    wpAny (model prog w) A (raiseStmt env (some x) (some c)) Q E s := by
  unfold raiseStmt
  dsimp only
  refine wpAny_bind (wpAny_mono h (fun v s₁ h₁ => ?_) fun _ _ x => x)
  obtain ⟨a, oe, vs, cls, oy, vy, rfl, ha, hcls, hd, h1, hi, hne, hot, hy, hyd, LY, hcs, L1, L3, hE⟩ := h₁
  have LT : PySem.W.Looks (model prog w) s₁.heap (typeOf (.ref a)) cls := fun A Q E s k q => wpAny_typeOf_ref (k _ _ ha) (by rw [hcls]; exact q)
  have LTy : PySem.W.Looks (model prog w) s₁.heap (typeOf (.ref y)) oy.cls := fun A Q E s k q => wpAny_typeOf_ref (k _ _ hy) q
  have LI : PySem.W.Looks (model prog w) s₁.heap (isInstance (.ref a) (.type "BaseException")) true := LT.andThen L1
  have LIy : PySem.W.Looks (model prog w) s₁.heap (isInstance (.ref y) (.type "BaseException")) true := LTy.andThen LY
  have hnt : ∀ {Q' : Bool → Shared → Prop}, Q' false s₁ → wpAny (model prog w) A (isType (.ref a)) Q' E s₁ := by
    intro Q' hq
    simp only [isType, loadHead]
    refine wpAny_bind (wpAny_loadPart ha ?_)
    rw [hd]; exact wpAny_pure hq
  have hnty : ∀ {Q' : Bool → Shared → Prop}, Q' false s₁ → wpAny (model prog w) A (isType (.ref y)) Q' E s₁ := by
    intro Q' hq
    simp only [isType, loadHead]
    refine wpAny_bind (wpAny_loadPart hy ?_)
    rw [hyd]; exact wpAny_pure hq
  have hd3 := Obj.data_mapFields hd (·.setIfInBounds 3 (.ref y))
  have ha3 := Heap.get?_update_self (Obj.mapFields (·.setIfInBounds 3 (.ref y))) ha (Obj.isFreed_of_fields hd3)
  obtain ⟨ha4, hd4⟩ := causedBy_at (y := y) ha hd
  have s3 : 3 < vs.size := by omega
  have s4 : 4 < (vs.setIfInBounds 3 (Value.ref y)).size := by rw [set_size]; exact hi
  have s2 : 2 < ((vs.setIfInBounds 3 (Value.ref y)).setIfInBounds 4 (Value.bool true)).size := by rw [set_size, set_size]; omega
  have h14 : ((vs.setIfInBounds 3 (Value.ref y)).setIfInBounds 4 (Value.bool true))[1]? = some Value.none := set_other (by decide) (set_other (by decide) h1)
  have hcls4 : ((oe.mapFields (·.setIfInBounds 3 (.ref y))).mapFields (·.setIfInBounds 4 (.bool true))).cls = cls := by rw [Obj.cls_mapFields, Obj.cls_mapFields]; exact hcls
  have LT4 : PySem.W.Looks (model prog w) (causedBy s₁.heap a y) (typeOf (.ref a)) cls := fun A Q E s k q => wpAny_typeOf_ref (k _ _ ha4) (by rw [hcls4]; exact q)
  have hnt4 : ∀ {Q' : Bool → Shared → Prop}, Q' false { s₁ with heap := causedBy s₁.heap a y } → wpAny (model prog w) A (isType (.ref a)) Q' E { s₁ with heap := causedBy s₁.heap a y } := by
    intro Q' hq
    simp only [isType, loadHead]
    refine wpAny_bind (wpAny_loadPart ha4 ?_)
    rw [hd4]; exact wpAny_pure hq
  have hot4 : HotAt A y (causedBy s₁.heap a y) := by
    obtain ⟨q1, o, vs', q2, q3, q4⟩ := hot
    exact ⟨q1, o, vs', by rw [causedBy_other (Ne.symm hne)]; exact q2, q3, q4⟩
  have rest : wpAny (model prog w) A (do
      let b ← isType (.ref a)
      if b = true then do
        let e ← holding [.ref a] (raisedFor (.ref a) (.ref a))
        setFlight e none
        raiseNew e
      else do
        let e ← raisedInstance (.ref a)
        setFlight e none
        raiseNew e : Sem Flow) Q E { s₁ with heap := causedBy s₁.heap a y } := by
    refine wpAny_bind (hnt4 ?_)
    simp only [Bool.false_eq_true, if_false]
    unfold raisedInstance
    refine wpAny_bind (wpAny_bind (LT4.here (wpAny_bind (L3.here ?_))))
    rw [if_pos (beq_self_eq_true _)]
    refine wpAny_pure ?_
    unfold setFlight
    refine wpAny_bind (wpAny_bind (wpAny_field ha4 hd4 h14 ?_))
    rw [if_neg (by decide)]
    refine wpAny_pure ?_
    exact raiseNew_hot hot4 hne ha4 hd4 s2 hE
  refine wpAny_bind (wpAny_holding (hcs _ (wpAny_bind (wpAny_pure ?_))))
  dsimp only
  refine wpAny_bind (wpAny_holding ?_)
  unfold excFromValue isExcClass
  refine wpAny_bind (wpAny_bind (hnt ?_))
  simp only [Bool.false_eq_true, if_false]
  refine wpAny_pure ?_
  simp only [Bool.false_eq_true, if_false]
  refine wpAny_bind (LI.here ?_)
  simp only [if_true]
  refine wpAny_pure ?_
  have nb : ¬ ((Value.ref y == Value.none) = true) := by simp
  have nb' : (Value.ref y == Value.none) = false := by simp
  simp only [nb', Bool.false_eq_true, if_false]
  refine wpAny_bind (wpAny_holding (wpAny_bind (wpAny_bind (hnty ?_))))
  simp only [Bool.false_eq_true, if_false]
  refine wpAny_pure ?_
  simp only [Bool.false_eq_true, if_false]
  refine wpAny_bind (LIy.here ?_)
  simp only [if_true]
  refine wpAny_pure ?_
  exact wpAny_bind (wpAny_setField ha hd s3 (wpAny_bind (wpAny_setField ha3 hd3 s4 rest)))
section
variable {X : Cx} {W : WX} {e : Expr} {t : L2.St → Hp → XK → Prop} {n : Str} {i : Nat} {b : Addr} {ob : Obj} {vb : Array Value} {pb pos : Pos}
/-- raise X(..) from n, the local n the exception that is handled -/
theorem ps_raiseBy (hh : X.A.handled = some (.ref b)) (hp : (b, ob) ∈ X.pn) (hd : ob.data = .fields vb) (hv : vb[2]? = some .none) (tk : L2.Takes X W)
    (hn : X.N[i]? = some n) (hln : X.env.kindOf n = some .local) (hdb : (n == ("__debug__" : Str)) = false) (he : PMk5 X e t) :
    PS X (.Raise (some e) (some (.Name n pb)) pos) (fun _ σ H => PySem.W.subIn X.K ob.cls (.type "BaseException") = some true ∧ σ[i]? = some (some (.ref b)) ∧ t σ H fun cls d H' => W cls d σ H') := by
  refine ⟨fun pins s σ H D I h => ?_⟩
  obtain ⟨hB, hσ, h⟩ := h
  show wpAny _ _ (do standAt pos; raiseStmt X.env (some (do let v ← eval e X.env; standAt pos; pure v)) (some (do let v ← eval (.Name n pb) X.env; standAt pos; pure v))) _ _ _
  refine wpAny_bind (wpAny_standAt (raise_caused (y := b) (wpAny_bind (wpAny_mono (he pins s σ H _ I h) (fun u s1 hu => wpAny_bind (wpAny_standAt (wpAny_pure ?_))) fun _ _ x => x))))
  obtain ⟨⟨a, oe, vs, sI, H', cls, d, rfl, J, k, hne, ha, hz, hda, h1, na, os, ag, r, q⟩, h5⟩ := hu
  have hi : 4 < vs.size := h5 a oe vs rfl ha hda
  have k4 : ∀ c u, sI.heap.get? c = some u → (causedBy s1.heap a b).get? c = some u := fun c u z => by
    have nab : a ≠ c := fun y => by
      rw [← y, hne] at z
      cases z
    rw [causedBy_other nab]
    exact k c u z
  obtain ⟨r1, _⟩ := r (model X.prog X.w) s1.heap (J.kIn.keeps k)
  obtain ⟨_, r2⟩ := r (model X.prog X.w) (causedBy s1.heap a b) (J.kIn.keeps k4)
  have P1 := (J.pin (b, ob) (List.mem_append_left _ hp)).1
  have nap : b ≠ a := fun z => by
    rw [z, hne] at P1
    cases P1
  obtain ⟨ha4, hd4⟩ := causedBy_at (y := b) ha hda
  have h12 : (((vs.setIfInBounds 3 (Value.ref b)).setIfInBounds 4 (Value.bool true)).setIfInBounds 2 (Value.ref b))[1]? = some Value.none := set_other (by decide) (set_other (by decide) (set_other (by decide) h1))
  refine ⟨a, oe, vs, cls, ob, vb, rfl, ha, hz.1, hda, h1, hi, nap, ⟨hh, ob, vb, k _ _ P1, hd, hv⟩, k _ _ P1, hd, PySem.W.looks_subIn (J.kIn.keeps k) hB, fun Q' q' => ?_, r1, r2, tk _ _ (XE.new J (fun c u z => ?_) hne (Heap.get?_update_self _ ha4 (Obj.isFreed_of_fields (Obj.data_mapFields hd4 _)))
    ⟨by rw [Obj.cls_mapFields, Obj.cls_mapFields, Obj.cls_mapFields]; exact hz.1, by rw [HandSPX.dict_mapFields, HandSPX.dict_mapFields, HandSPX.dict_mapFields]; exact hz.2.1⟩ (Obj.data_mapFields hd4 _) h12 na os ag q)⟩
  · obtain ⟨m, hnm, hlm⟩ := J.loc
    obtain ⟨u, ru, lu⟩ := hlm i n (.ref b) hn hσ (.inl hln)
    obtain rfl : u = Value.ref b := ru
    obtain ⟨oL, esL, epL, hoL, restL⟩ := hnm
    have hn1 : s1.heap.Ns X.env.locals m := ⟨oL, esL, epL, k _ _ hoL, restL⟩
    refine wpAny_bind ?_
    have fin : wpAny (model X.prog X.w) X.A (do standAt pos; pure (Value.ref b)) Q' X.xe s1 := wpAny_bind (wpAny_standAt (wpAny_pure q'))
    rcases lu with ⟨hk, hm⟩ | ⟨hk, _⟩
    · exact wpAny_Name (wpAny_loadName_local J.ok.kind hk hn1 hm fin) hdb
    · rw [show X.env.kindOf n = some .local from hln] at hk
      rcases hk with hk | hk <;> cases hk
  · have nab : a ≠ c := fun y => by
      rw [← y, hne] at z
      cases z
    show ((causedBy s1.heap a b).update a (Obj.mapFields (·.setIfInBounds 2 (.ref b)))).get? c = some u
    rw [Heap.get?_update_other _ _ nab]
    exact k4 c u z
end
end K82
set_option Elab.async false
set_option linter.all false
set_option maxRecDepth 100000
set_option maxHeartbeats 400000
namespace K82
open PySem PySem.Spec PyProof.Rows L2 GenW K82G ClX L2H HotX
theorem PMkN.zc {X : Cx} {e : Expr} {t : L2.St → Hp → XK → Prop} (h : L2N.PMk X e t) : L2.PMk X e t := fun pins s σ H Q I q => thn (h pins s σ H Q I q) fun _ _ ⟨a, oe, vs, sI, H', cls, d, eu, J, k, hne, ha, hz, r⟩ => ⟨a, oe, vs, sI, H', cls, d, eu, J, k, hne, ha, hz.zc, r⟩
section
variable {P : Program} {w : World} {K : PySem.W.Frag} {mg : Str → Option Value} {base : Heap} {A : Cl}
def spParsed (P : Program) (w : World) (K : PySem.W.Frag) (mg : Str → Option Value) (base : Heap) (A : Cl) : Sp := fun vs H Q E => ∃ (f : Addr) (fd : FuncData) (ps : List Str) (sp : Sp) (t part : Str), FnOk P w K mg base CX0 4 f fd ps sp ∧ PySem.W.keepIn K (.ref f) = true ∧ Binds K fd ps [] ∧
  vs = [.ref f, .str t, .str part] ∧ ∀ Q' : VK, (∀ v H1, (v = .non ∧ ∀ d H', Same H1 H' → E (.ref A.it) d H') ∨ (v ≠ .non ∧ Q v H1) → Q' v H1) → sp [.str t] H Q' E0
abbrev N55 : List Str := ["read", "text", "part", "found"]
theorem sc55 : FnScope N55 ["read", "text", "part"] (defScope (topS 55)) := ⟨rfl, rfl, rfl, by decide +kernel, rfl, by decide +kernel, by decide +kernel⟩
theorem ok_parsed (Fr : Free mg) (IT : Oe P w K mg base "InvalidText" A.it (spX1 A.it)) (D : Df K mg "parsed" 55) : Ca P w K mg base (L2.CX P w) 5 "parsed" (spParsed P w K mg base A) [] := by
  refine ca_of D sc55 (fun vs H Q E h => ?_) (fun _ _ _ _ _ _ us hl => match us, hl with | [_, _, _], _ => rfl) (fun f cdv Ar outer s H vs Q E hr h => ?_)
  · obtain ⟨f, fd, ps, sp, t, part, _, _, _, rfl, _⟩ := h
    rfl
  · obtain ⟨g, fd, ps, sp, t, part, F, hk, hb, rfl, q⟩ := h
    refine ⟨_, pss_cons (ps_set (i := 3) sc55.nd rfl (Or.inl rfl) (pe_ifExp (pt_val (pe_callB call_isi (by rfl) Fr.isi (by decide +kernel) (pa_cons (pv 1) (pa_cons (pe_bltn (v := .ty "str") (by rfl) Fr.str (by decide +kernel) rfl) pa_nil))))
        (pe_callL (i := 0) (f := g) F hr rfl (.inl rfl) hk hb .nil pass0 (pa_cons (pv 1) pa_nil)) pe_non))
      (pss_cons (ps_if (pt_cmp (pc_isN (pv 3)) rfl) (pss_one (L2.ps_raise rfl (L2.takes_of rfl rfl rfl rfl) (PMkN.zc (pmk_oe IT (hr.mono (by decide)) (by rfl) (pa_cons (pv 2) pa_nil))))) pss_nil)
      (pss_one (ps_ret (pv 3)))), ?_⟩
    refine ⟨_, rfl, _, _, .type "str", _, true, rfl, .ty "str", .base (.str t), kit_ty (by decide +kernel), true, rfl, iteT ?_⟩
    refine ⟨rfl, _, rfl, ?_⟩
    refine q _ fun v H1 hv => ?_
    refine ⟨_, rfl, _, rfl, ?_⟩
    rcases hv with ⟨rfl, ko⟩ | ⟨nv, ok⟩
    · exact iteT ⟨_, rfl, mk1 fun d H' s1 => ko d H' s1⟩
    · rw [decide_eq_false nv]
      exact iteF ⟨_, rfl, ok⟩
end
section
variable {X : Cx} {A : Cl} {k j : Nat} {xr part : Str} {spR : Sp} {E : XK} {p p1 p2 p3 pos : Pos} {j1 : Nat}
theorem pe_read (cP : Ca X.prog X.w X.K X.mg X.base (L2.CX X.prog X.w) 5 "parsed" (spParsed X.prog X.w X.K X.mg X.base A) []) (cR : Ca X.prog X.w X.K X.mg X.base CX0 k xr spR []) (hk : k ≤ 4) (hr : Room j X.A) (hj : 5 ≤ j) (hx : Passes (L2.CX X.prog X.w) X E) (hN : X.N[0]? = some ("text" : Str) := by rfl) (hv : Vis X.env.scope "text" := by exact .inl rfl)
    (hg : Gl X "parsed" := by rfl) (hgr : Gl X xr := by rfl) (hdr : (xr == ("__debug__" : Str)) = false := by rfl) :
    PE X (.Call (.Name "parsed" p) [.Name xr p1, .Name "text" p3, .Constant (.str part) j1 p2] [] pos)
      (fun σ H Q => ∃ t, σ[0]? = some (some (.str t)) ∧ ∀ Q' : VK, (∀ y H2, (y = .non ∧ ∀ d H', Same H2 H' → E (.ref A.it) d H') ∨ (y ≠ .non ∧ Q y H2) → Q' y H2) → spR [.str t] H Q' E0) := by
  obtain ⟨f, fd, ps, ds, F, hm, kp, b, d⟩ := cR.ex
  cases d
  refine ⟨fun pins s σ H Q I h => (pe_ca cP hr hj hx (pa_cons (pe_glob (v := .ref f) hgr hm rfl hdr) (pa_cons (pv 0 hN hv) (pa_cons pe_str pa_nil))) hg).run pins s σ H Q I ?_⟩
  obtain ⟨t, e, q⟩ := h
  exact ⟨_, e, f, fd, ps, spR, t, part, F.mono hk, kp, b, rfl, q⟩
end
section
variable {P : Program} {w : World} {K : PySem.W.Frag} {mg : Str → Option Value} {base : Heap} {A : Cl}
def spPInt (A : Cl) : Sp := fun vs H Q E => ∃ t : Str, vs = [.str t] ∧ t.length ≤ 2000 ∧ (∀ n, IsI t n → ∀ H', Same H H' → Q (.int n) H') ∧ ((¬ ∃ n, IsI t n) → ∀ d H', Same H H' → E (.ref A.it) d H')
def spPPt (A : Cl) : Sp := fun vs H Q E => ∃ t : Str, vs = [.str t] ∧ t.length ≤ 2000 ∧ (∀ p, readPt t = some p → ∀ H' v, Same H H' → PtAt H' p v → Q v H') ∧ (readPt t = none → ∀ d H', Same H H' → E (.ref A.it) d H')
def spPPts (A : Cl) : Sp := fun vs H Q E => ∃ t : Str, vs = [.str t] ∧ t.length ≤ 2000 ∧ (∀ ps, readPts t = some ps → ∀ H' L ws, Same H H' → H' L = some (.lst ws) → Pts H' ps ws → Q (.ref L) H') ∧ (readPts t = none → ∀ d H', Same H H' → E (.ref A.it) d H')
theorem sc56 : FnScope ["text"] ["text"] (defScope (topS 56)) := ⟨rfl, rfl, rfl, by decide +kernel, rfl, by decide +kernel, by decide +kernel⟩
theorem sc57 : FnScope ["text"] ["text"] (defScope (topS 57)) := ⟨rfl, rfl, rfl, by decide +kernel, rfl, by decide +kernel, by decide +kernel⟩
theorem sc58 : FnScope ["text"] ["text"] (defScope (topS 58)) := ⟨rfl, rfl, rfl, by decide +kernel, rfl, by decide +kernel, by decide +kernel⟩
theorem ok_parse_integer (D : Df K mg "parse_integer" 56) (cP : Ca P w K mg base (L2.CX P w) 5 "parsed" (spParsed P w K mg base A) []) (cR : Ca P w K mg base CX0 1 "integer_of" spIntOf []) : Ca P w K mg base (L2.CX P w) 6 "parse_integer" (spPInt A) [] := by
  refine ca_of D sc56 (fun vs H Q E h => ?_) (fun _ _ _ _ _ _ us hl => match us, hl with | [_], _ => rfl) (fun f cdv Ar outer s H vs Q E hr h => ?_)
  · obtain ⟨t, rfl, _⟩ := h
    rfl
  · obtain ⟨t, rfl, hl, ok, ko⟩ := h
    refine ⟨_, pss_one (ps_ret (pe_read cP cR (by decide) hr (by decide) (L2.passes_call (L2.takes_of rfl rfl rfl rfl) fun _ _ _ _ h => h))), ?_⟩
    refine ⟨t, rfl, fun Q' h => ⟨t, rfl, hl, fun n hn H' s1 => h _ _ (.inr ⟨by simp, ok n hn H' s1⟩), fun hn H' s1 => h _ _ (.inl ⟨rfl, fun d H2 s2 => ko hn d H2 (s1.trans s2)⟩)⟩⟩
theorem ok_parse_point (D : Df K mg "parse_point" 57) (cP : Ca P w K mg base (L2.CX P w) 5 "parsed" (spParsed P w K mg base A) []) (cR : Ca P w K mg base CX0 3 "point_of" spPtOf []) : Ca P w K mg base (L2.CX P w) 6 "parse_point" (spPPt A) [] := by
  refine ca_of D sc57 (fun vs H Q E h => ?_) (fun _ _ _ _ _ _ us hl => match us, hl with | [_], _ => rfl) (fun f cdv Ar outer s H vs Q E hr h => ?_)
  · obtain ⟨t, rfl, _⟩ := h
    rfl
  · obtain ⟨t, rfl, hl, ok, ko⟩ := h
    refine ⟨_, pss_one (ps_ret (pe_read cP cR (by decide) hr (by decide) (L2.passes_call (L2.takes_of rfl rfl rfl rfl) fun _ _ _ _ h => h))), ?_⟩
    refine ⟨t, rfl, fun Q' h => ⟨t, rfl, hl, fun H' v s1 hv => ?_⟩⟩
    cases e : readPt t with
    | none =>
      rw [e] at hv
      exact h _ _ (.inl ⟨hv, fun d H2 s2 => ko e d H2 (s1.trans s2)⟩)
    | some p =>
      rw [e] at hv
      have hv' : PtAt H' p v := hv
      refine h _ _ (.inr ⟨?_, ok p e H' v s1 hv'⟩)
      obtain ⟨a, rfl, _⟩ := hv'
      simp
theorem ok_parse_points (D : Df K mg "parse_points" 58) (cP : Ca P w K mg base (L2.CX P w) 5 "parsed" (spParsed P w K mg base A) []) (cR : Ca P w K mg base CX0 4 "points_of_text" spPtsOf []) : Ca P w K mg base (L2.CX P w) 6 "parse_points" (spPPts A) [] := by
  refine ca_of D sc58 (fun vs H Q E h => ?_) (fun _ _ _ _ _ _ us hl => match us, hl with | [_], _ => rfl) (fun f cdv Ar outer s H vs Q E hr h => ?_)
  · obtain ⟨t, rfl, _⟩ := h
    rfl
  · obtain ⟨t, rfl, hl, ok, ko⟩ := h
    refine ⟨_, pss_one (ps_ret (pe_read cP cR (by decide) hr (by decide) (L2.passes_call (L2.takes_of rfl rfl rfl rfl) fun _ _ _ _ h => h))), ?_⟩
    refine ⟨t, rfl, fun Q' h => ⟨t, rfl, hl, fun hn H' s1 => h _ _ (.inl ⟨rfl, fun d H2 s2 => ko hn d H2 (s1.trans s2)⟩), fun ps hn H' L ws s1 hL hp => h _ _ (.inr ⟨by simp, ok ps hn H' L ws s1 hL hp⟩)⟩⟩
end
end K82
set_option Elab.async false
set_option linter.all false
set_option maxRecDepth 100000
set_option maxHeartbeats 400000
namespace K82
open PySem PySem.Spec PyProof.Rows L2 GenW K82G ClX L2H HotX
section
variable {P : Program} {w : World} {K : PySem.W.Frag} {mg : Str → Option Value} {base : Heap} {A : Cl}
theorem FunD.okH {CX : CXT} {x qual : Str} {params : Arguments} {body : List Stmt} {scope : Scope} {dvs : List V} {kws : List (Str × V)} {f : Addr} {fd : FuncData} {N ps : List Str} {k : Nat} {sp : Sp} (F : FunD K x qual params body scope dvs kws f fd) (S : FnScope N ps scope) (len : ∀ vs H Q E, sp vs H Q E → vs.length = ps.length)
    (hbody : ∀ (cdv : Value) (A : Around) (outer : List Env) (s : Shared) (H : Hp) (vs : List V) (Q : VK) (E : XK) (p : Addr × Obj), sp vs H Q E →
      ∃ t, PSs (cxH CX P w K mg base N qual scope f cdv A outer s H E p) body t ∧ t { nx := fun _ H' => Q .non H', rt := Q } (L2.start N vs) H) : FnH P w K mg base CX (k + 1) f fd ps sp := by
  obtain ⟨oc, od, dV, kV, doc, pm, an, cdv, ct, osl, rfl, lk, hcd, _, _⟩ := F.ex
  exact fn_ofH lk hcd S len fun A outer s H vs Q E p _ _ hsp => hbody cdv A outer s H vs Q E p hsp
theorem it_hot {f : Addr} {fd : FuncData} (T : OexC K A.it) (no : PySem.W.findIn K (.ref A.it) "part" = some none) (F : FunD K "__init__" "InvalidText.__init__" (defArgs (inClass (topS 10) 0)) (defBody (inClass (topS 10) 0)) (defScope (inClass (topS 10) 0)) [] [] f fd) :
    FnH P w K mg base CX0 1 f fd ["self", "part"] (spX1 A.it) := by
  refine FunD.okH F sx_it (fun vs H Q E h => ?_) fun cdv A outer s H vs Q E p h => ?_
  · obtain ⟨a, y, rfl, _⟩ := h
    rfl
  · obtain ⟨a, y, rfl, ha, q⟩ := h
    exact ⟨_, pss_one (ps_ost (pv 0) (pv 1)), ⟨y, rfl, _, rfl, a, _, rfl, T, no, .inl ⟨ha, fun dx n ne => q dx _ n ne⟩⟩⟩
/-- the library's errors are of the one class that is caught -/
structure ShF (K : PySem.W.Frag) (mg : Str → Option Value) (A : Cl) : Prop where
  nm : mg "ShapeError" = some (.ref A.se)
  ex : ∀ cls, Shp A cls → PySem.W.exmOne K cls (.ref A.se) = some true ∧ PySem.W.subIn K cls (.type "BaseException") = some true
end
section
variable {X : Cx} {W : WX} {A : Cl} {n part : Str} {i k : Nat} {p p1 pb pos pos' : Pos} {j1 : Nat} {cls : Value} {d : Option Addr} {a : Addr} {oe : Obj} {pn : List (Addr × Obj)}
/-- the suite: raise InvalidText(part) from n -/
theorem ps_from (T : OeT X.K X.mg "InvalidText" "InvalidText.__init__" 10 A.it ["part"]) (hz : L2N.Zn cls d oe) (hf : ∃ vs, oe.data = .fields vs ∧ vs[2]? = some .none) (hot : HotC (asX X a ((a, oe) :: pn) W)) (hr : Room 2 X.A)
    (hN : X.N[i]? = some n) (hln : X.env.kindOf n = some .local) (hdb : (n == ("__debug__" : Str)) = false) (hg : Gl X "InvalidText") :
    PSs (asX X a ((a, oe) :: pn) W) [.Raise (some (.Call (.Name "InvalidText" p) [.Constant (.str part) j1 p1] [] pos')) (some (.Name n pb)) pos]
      (fun _ σ H => PySem.W.subIn X.K cls (.type "BaseException") = some true ∧ σ[i]? = some (some (.ref a)) ∧ ∀ d H', Same H H' → W (.ref A.it) d σ H') := by
  obtain ⟨vb, hd, hv⟩ := hf
  obtain ⟨fI, fd, F, iC, tI⟩ := T.ex
  have F1 : FnH X.prog X.w X.K X.mg X.base CX0 1 fI fd ["self", "part"] (spX1 A.it) := it_hot T.oex (T.no _ (by simp)) F
  have step := ps_raiseBy (X := asX X a ((a, oe) :: pn) W) (pb := pb) (pos := pos) (b := a) (ob := oe) rfl List.mem_cons_self hd hv asX_takes hN hln hdb
    (pmk5_oexH (p := p) (pos := pos') T.oex iC tI F1 (roomH_mark hr _) hot (F.bindsN fun _ _ _ _ _ _ us hl => match us, hl with | [_, _], _ => rfl) pass0 hg T.nm (pa_cons (pe_str (x := part) (j := j1) (pos := p1)) pa_nil))
  refine ⟨fun pins s σ H D I h => (pss_one step).run pins s σ H D I ?_⟩
  obtain ⟨h1, h2, h3⟩ := h
  refine ⟨by rw [hz.1]; exact h1, h2, ?_⟩
  exact mk1 (Q := fun cls d H' => W cls d σ H') fun d H' s1 => h3 d H' s1
end
section
variable {P : Program} {w : World} {K : PySem.W.Frag} {mg : Str → Option Value} {base : Heap} {A : Cl}
def spPPoly (A : Cl) : Sp := fun vs H Q E => ∃ t : Str, vs = [.str t] ∧ t.length ≤ 2000 ∧ (∀ ps cv ks, readPts t = some ps → ToR ps cv ks → ∀ H' v, Same H H' → PolyAt A H' cv ks v → Q v H') ∧ ((¬ ∃ ps cv ks, readPts t = some ps ∧ ToR ps cv ks) → ∀ d H', Same H H' → E (.ref A.it) d H') ∧ ∀ ps, readPts t = some ps → BdL 1100 ps
abbrev N59 : List Str := ["text", "points", "e"]
theorem sc59 : FnScope N59 ["text"] (defScope (topS 59)) := ⟨rfl, rfl, rfl, by decide +kernel, rfl, by decide +kernel, by decide +kernel⟩
theorem ok_parse_polygon (SF : ShF K mg A) (T : OeT K mg "InvalidText" "InvalidText.__init__" 10 A.it ["part"]) (D : Df K mg "parse_polygon" 59) (cP : Ca P w K mg base (L2.CX P w) 5 "parsed" (spParsed P w K mg base A) []) (cR : Ca P w K mg base CX0 4 "points_of_text" spPtsOf []) (cT : Ca P w K mg base (L2N.CX P w) 10 "to_polygon" (spTo A) []) : Ca P w K mg base (L2.CX P w) 11 "parse_polygon" (spPPoly A) [] := by
  refine ca_of D sc59 (fun vs H Q E h => ?_) (fun _ _ _ _ _ _ us hl => match us, hl with | [_], _ => rfl) (fun f cdv Ar outer s H vs Q E hr h => ?_)
  · obtain ⟨t, rfl, _⟩ := h
    rfl
  · obtain ⟨t, rfl, hl, ok, ko, hbd⟩ := h
    have tk : L2.Takes (cxOf (L2.CX P w) P w K mg base N59 "parse_polygon" (defScope (topS 59)) f cdv Ar outer s H E) (fun cls d _ H' => E cls d H') := L2.takes_of rfl rfl rfl rfl
    obtain ⟨fT, fdT, psT, dsT, FT, hmT, kpT, bT, dT⟩ := cT.ex
    cases dT
    refine ⟨_, pss_cons (ps_set (i := 1) sc59.nd rfl (Or.inl rfl) (pe_read cP cR (by decide) hr (by decide) (L2.passes_call tk fun _ _ _ _ h => h)))
      (pss_one (ps_try_asX (W := fun cls d _ H' => E cls d H') (i := 2) (E := E) rfl rfl rfl sc59.nd rfl rfl (c := .ref A.se) (by exact ⟨rfl, by rfl, .inl SF.nm⟩) rfl (fun _ _ _ _ h => h)
        (fun Wi pn xe tki _ => pss_one (ps_ret (pe_callSD FT hr (by rfl) hmT kpT bT .nil (fun σ => L2N.passAt tki σ) (pa_cons (pv 1) pa_nil))))
        (fun a oe cls d pn hz hf hot => ps_from (i := 2) T hz hf hot (hr.mono (by decide)) rfl rfl (by decide) (by rfl)))), ?_⟩
    refine ⟨t, rfl, fun Q' hQ => ⟨t, rfl, hl, fun hn H' s1 => hQ _ _ (.inl ⟨rfl, fun d H2 s2 => ko ?_ d H2 (s1.trans s2)⟩), fun ps hn H' L ws s1 hL hp => hQ _ _ (.inr ⟨by simp, ?_⟩)⟩⟩
    · rintro ⟨ps, cv, ks, e, _⟩
      rw [hn] at e
      cases e
    · refine ⟨_, rfl, L, false, ps, ws, rfl, hL, hp, hbd ps hn, fun cv ks h H2 v s2 hv => ok ps cv ks hn h H2 v (s1.trans s2) hv, fun hno cls d H2 hs s2 => ?_⟩
      refine ⟨(SF.ex cls hs).1, fun a ha => ⟨(SF.ex cls hs).2, rfl, fun d' H3 s3 => ko ?_ d' H3 ((s1.trans s2).trans s3)⟩⟩
      rintro ⟨ps', cv, ks, e, q⟩
      rw [hn] at e
      cases e
      exact hno ⟨cv, ks, q⟩
end
end K82
set_option Elab.async false
set_option linter.all false
set_option maxRecDepth 100000
set_option maxHeartbeats 400000
namespace K82
open PySem PySem.Spec PyProof.Rows L2 GenW K82G ClX L2H HotX
section
variable {X : Cx} {CX : CXT} {k : Nat} {f C : Addr} {sp : Sp} {K : PySem.W.Frag} {E : L2.St → XK} {x : Str} {e : Expr} {te : TE} {p p' pos : Pos}
theorem run_makeAt {pins : List (Addr × Obj)} {σ : L2.St} {H : Hp} {s : Shared} {Q : VK} {us : List Value} {vs : List V} (M : Mk X.K C f) (F : FnR X.prog X.w X.K X.mg X.base CX k f sp) (hr : Room (k + 1) X.A) (hx : PassesAt CX X σ (E σ)) (I : Inv X pins σ H s) (r : Vals vs us)
    (h : ∀ x dx, H x = Option.none → H dx = Option.none → dx ≠ x → sp (V.ref x :: vs) (upd (upd H dx (.own x)) x (.ins C dx [])) (fun v H2 => v = .non ∧ Q (.ref x) H2) (E σ)) :
    wpAny (model X.prog X.w) X.A (call (.ref C) us) (EP X pins σ Q) X.xe s := by
  have hq := h (s.heap.objs.size + 1) s.heap.objs.size (I.hok.fresh (Nat.le_succ _)) (I.hok.fresh (Nat.le_refl _)) (Nat.ne_of_lt (Nat.lt_succ_self _))
  have I2 := Inv.made (C := C) I
  have r2 : Vals (V.ref (s.heap.objs.size + 1) :: vs) (Value.ref (s.heap.objs.size + 1) :: us) := Paired.cons rfl r
  refine wpAny_call (make_map (f := f) I.kIn M.makes M.init (beq_iff_eq.mp M.fn) (codeAny_mono (F _ X.stack _ _ (Value.ref (s.heap.objs.size + 1) :: us) _ _ (E σ) (hr.make C us []) (I2.env0.make C us []) r2 hq) fun z s' hz => ?_))
  match z, hz with
  | .error e, hz => exact hx pins _ _ e s' I2 hz
  | .ok (.ret u), hz =>
    obtain ⟨v, H', I3, rv, ev, q3⟩ := I2.after hz
    cases ev
    exact ⟨rv, ⟨.ref (s.heap.objs.size + 1), H', I3, rfl, q3⟩⟩
  | .ok .next, hz => exact hz.elim
  | .ok .brk, hz => exact hz.elim
  | .ok .cont, hz => exact hz.elim
/-- C(*e) -/
theorem pe_makeStar (M : Mk X.K C f) (F : FnR X.prog X.w X.K X.mg X.base CX k f sp) (hr : Room (k + 1) X.A) (hg : Gl X x) (hm : X.mg x = some (.ref C)) (hx : ∀ σ, PassesAt CX X σ (E σ)) (he : PE X e te) (hK : X.K = K := by rfl) (hdb : (x == ("__debug__" : Str)) = false := by decide)
    (hst : starEach [.Starred e p'] X.env = [(true, eval e X.env)] := by rfl) :
    PE X (.Call (.Name x p) [.Starred e p'] [] pos) (fun σ H Q => te σ H fun y H1 => ∃ a xs, y = V.ref a ∧ SqL K H1 a xs ∧
      ∀ x dx, H1 x = Option.none → H1 dx = Option.none → dx ≠ x → sp (V.ref x :: xs) (upd (upd H1 dx (.own x)) x (.ins C dx [])) (fun v H2 => v = .non ∧ Q (.ref x) H2) (E σ)) := by
  refine ⟨fun pins s σ H Q I h => ?_⟩
  refine wpAny_Call_Name_kw (ld_glob I hg hm ?_ hdb)
  refine PySem.W.callWith_S (h₀ := X.base) I.ok.mod.kin M.kp (thn (he.run pins s σ H _ I h) fun v s1 ⟨y, H1, I1, ry, a, xs, ey, hxs, q⟩ => ?_) hst
  cases hK
  cases ey
  cases ry
  exact StX.star_lst I1 hxs fun us s2 I2 rv => ⟨I2.kIn, run_makeAt M F hr (hx σ) I2 rv q⟩
end
section
variable {P : Program} {w : World} {K : PySem.W.Frag} {mg : Str → Option Value} {base : Heap} {A : Cl}
def spPMap (A : Cl) : Sp := fun vs H Q E => ∃ t : Str, vs = [.str t] ∧ t.length ≤ 2000 ∧ (∀ s, readSix t = some s → s.ok → ∀ H' v, Same H H' → MapAt A H' s v → Q v H') ∧ ((¬ ∃ s, readSix t = some s ∧ s.ok) → ∀ d H', Same H H' → E (.ref A.it) d H') ∧ ∀ s, readSix t = some s → s.bd 1100
abbrev N60 : List Str := ["text", "numbers", "e"]
theorem sc60 : FnScope N60 ["text"] (defScope (topS 60)) := ⟨rfl, rfl, rfl, by decide +kernel, rfl, by decide +kernel, by decide +kernel⟩
theorem ok_parse_map (SF : ShF K mg A) (T : OeT K mg "InvalidText" "InvalidText.__init__" 10 A.it ["part"]) (D : Df K mg "parse_map" 60) (cP : Ca P w K mg base (L2.CX P w) 5 "parsed" (spParsed P w K mg base A) []) (cR : Ca P w K mg base CX0 3 "six_of" spSixOf []) (mG : MkC P w K mg base 3 "GridMap" A.gm (spGInit A)) : Ca P w K mg base (L2.CX P w) 6 "parse_map" (spPMap A) [] := by
  refine ca_of D sc60 (fun vs H Q E h => ?_) (fun _ _ _ _ _ _ us hl => match us, hl with | [_], _ => rfl) (fun f cdv Ar outer s H vs Q E hr h => ?_)
  · obtain ⟨t, rfl, _⟩ := h
    rfl
  · obtain ⟨t, rfl, hl, ok, ko, hbd⟩ := h
    have tk : L2.Takes (cxOf (L2.CX P w) P w K mg base N60 "parse_map" (defScope (topS 60)) f cdv Ar outer s H E) (fun cls d _ H' => E cls d H') := L2.takes_of rfl rfl rfl rfl
    obtain ⟨fG, fdG, psG, MG, FG, bG⟩ := mG.ex
    refine ⟨_, pss_cons (ps_set (i := 1) sc60.nd rfl (Or.inl rfl) (pe_read cP cR (by decide) hr (by decide) (L2.passes_call tk fun _ _ _ _ h => h)))
      (pss_one (ps_try_asX (W := fun cls d _ H' => E cls d H') (i := 2) (E := E) rfl rfl rfl sc60.nd rfl rfl (c := .ref A.se) (by exact ⟨rfl, by rfl, .inl SF.nm⟩) rfl (fun _ _ _ _ h => h)
        (fun Wi pn xe tki _ => pss_one (ps_ret (pe_makeStar (K := K) MG (FG.raw bG .nil) (hr.mono (by decide)) (by rfl) mG.nm (fun σ => L2N.passAt tki σ) (pv 1))))
        (fun a oe cls d pn hz hf hot => ps_from (i := 2) T hz hf hot (hr.mono (by decide)) rfl rfl (by decide) (by rfl)))), ?_⟩
    refine ⟨t, rfl, fun Q' hQ => ⟨t, rfl, hl, fun hn H' s1 => hQ _ _ (.inl ⟨rfl, fun d H2 s2 => ko ?_ d H2 (s1.trans s2)⟩), fun n hn H' L s1 hL => hQ _ _ (.inr ⟨by simp, ?_⟩)⟩⟩
    · rintro ⟨n, e, _⟩
      rw [hn] at e
      cases e
    · refine ⟨_, rfl, L, n.vs, rfl, SqL.of hL, fun x dx hx hdx ne => ?_⟩
      have st : Same H' (upd (upd H' dx (.own x)) x (.ins A.gm dx [])) := (sNew hdx _).trans (sNew (by rw [upd_ne (fun z => ne z.symm)]; exact hx) _)
      rw [List.append_nil]
      refine ⟨x, dx, n, rfl, upd_same, hbd n hn, fun hok H2 T2 s2 hx2 hT2 => ⟨rfl, ok n hn hok H2 _ (fun b u hb => ?_) ⟨x, dx, T2, rfl, hx2, hT2⟩⟩, fun hno cls d H2 hs s2 => ?_⟩
      · have hb' := s1 _ _ hb
        have nbx : b ≠ x := fun z => by rw [z, hx] at hb'; cases hb'
        exact s2 b u nbx (st _ _ hb')
      · refine ⟨(SF.ex cls hs).1, fun a ha => ⟨(SF.ex cls hs).2, rfl, fun d' H3 s3 => ko ?_ d' H3 (((s1.trans st).trans s2).trans s3)⟩⟩
        rintro ⟨n', e, q⟩
        rw [hn] at e
        cases e
        exact hno q
end
end K82
set_option Elab.async false
set_option linter.all false
set_option maxRecDepth 100000
set_option maxHeartbeats 400000
namespace K82
open PySem PySem.Spec PyProof.Rows L2 GenW K82G ClX
/-! ### shown data -/
def dPt (p : Int × Int) : PyData := .tuple [.int p.1, .int p.2]
def dPts (ps : List (Int × Int)) : PyData := .list (ps.map dPt)
theorem showable_pt {p : Int × Int} (h1 : p.1.natAbs.log2 < 1920) (h2 : p.2.natAbs.log2 < 1920) : (dPt p).showable = true := by
  show (decide _ && (decide _ && true)) = true
  rw [decide_eq_true h1, decide_eq_true h2]
  rfl
theorem pt_short {p : Int × Int} (h : BdP 1100 p) : (dPt p).shown.length ≤ 673 := by
  have h1 : (tI p.1).length ≤ 333 := tI_len h.1
  have h2 : (tI p.2).length ≤ 333 := tI_len h.2
  have e := tupleText_len_le [tI p.1, tI p.2]
  show (tupleText [tI p.1, tI p.2]).length ≤ 673
  simp only [List.map_cons, List.map_nil, List.sum_cons, List.sum_nil, List.length_cons, List.length_nil] at e
  omega
theorem shownAll_map (ps : List (Int × Int)) : PyData.shownAll (ps.map dPt) = ps.map fun p => (dPt p).shown := by
  induction ps with
  | nil => rfl
  | cons p r ih => exact congrArg (List.cons _) ih
theorem sum_le_mul {l : List Str} {c : Nat} (h : ∀ t ∈ l, t.length ≤ c) : (l.map (·.length)).sum ≤ l.length * c := by
  induction l with
  | nil => exact Nat.zero_le _
  | cons t r ih =>
    have h1 := h t List.mem_cons_self
    have h2 := ih fun x hx => h x (List.mem_cons_of_mem _ hx)
    rw [List.map_cons, List.sum_cons, List.length_cons, Nat.succ_mul]
    omega
theorem pts_short {ps : List (Int × Int)} (h : BdL 1100 ps) (hn : ps.length ≤ 1000) : (dPts ps).shown.length ≤ 700000 := by
  have e := listText_len_le (PyData.shownAll (ps.map dPt))
  rw [shownAll_map] at e
  have e2 := sum_le_mul (l := ps.map fun p => (dPt p).shown) (c := 673) (fun t ht => by
    obtain ⟨p, hp, rfl⟩ := List.mem_map.mp ht
    exact pt_short (h p hp))
  rw [List.length_map] at e e2
  show (listText (PyData.shownAll (ps.map dPt))).length ≤ 700000
  rw [shownAll_map]
  omega
theorem showable_pts {ps : List (Int × Int)} (h : BdL 1100 ps) : (dPts ps).showable = true := by
  show PyData.showableAll (ps.map dPt) = true
  induction ps with
  | nil => rfl
  | cons p r ih =>
    show ((dPt p).showable && PyData.showableAll (r.map dPt)) = true
    rw [showable_pt (bd_log (h p List.mem_cons_self).1) (bd_log (h p List.mem_cons_self).2), ih fun x hx => h x (List.mem_cons_of_mem _ hx)]
    rfl
theorem noDict_pts (ps : List (Int × Int)) : (dPts ps).hasDict = false := by
  show PyData.hasDictAll (ps.map dPt) = false
  induction ps with
  | nil => rfl
  | cons p r ih => exact ih
theorem depth_pts (ps : List (Int × Int)) : (dPts ps).depth ≤ 3 := by
  have h : PyData.depthAll (ps.map dPt) ≤ 2 := by
    induction ps with
    | nil => exact Nat.zero_le _
    | cons p r ih => exact Nat.max_le.mpr ⟨by simp [dPt, PyData.depth, PyData.depthAll], ih⟩
  simp only [dPts, PyData.depth]
  omega
section
variable {X : Cx} {pins : List (Addr × Obj)} {σ : L2.St} {H : Hp} {s : Shared}
theorem reads_pt (I : Inv X pins σ H s) {p : Int × Int} {v : V} {u : Value} (h : PtAt H p v) (r : RelV v u) : ∃ a, u = .ref a ∧ Reads s.heap u (dPt p) [] := by
  obtain ⟨a, rfl, h⟩ := h
  obtain rfl : u = .ref a := r
  obtain ⟨its, ri, ⟨o, ho, hc, n, hd⟩, hz⟩ := I.tuple (SqT.of h)
  match its, ri with
  | [x, y], .cons rx (.cons ry .nil) =>
    obtain ⟨t1, rfl⟩ := (show ∃ t, x = Value.int p.1 t from rx)
    obtain ⟨t2, rfl⟩ := (show ∃ t, y = Value.int p.2 t from ry)
    exact ⟨a, rfl, .tuple ho hc hd (by simpa using ReadsAll.cons (.int _ _) (.cons (.int _ _) .nil))⟩
theorem reads_each (I : Inv X pins σ H s) : ∀ {ps : List (Int × Int)} {ws : List V} {us : List Value}, Pts H ps ws → Vals ws us → ∃ as, ReadsAll s.heap us (ps.map dPt) as
  | [], [], _, _, .nil => ⟨_, .nil⟩
  | [], _ :: _, _, h, _ => by cases h.len
  | _ :: _, [], _, h, _ => by cases h.len
  | p :: ps, w :: ws, _, h, .cons r rs => by
    obtain ⟨a, rfl, h1⟩ := reads_pt I (p := p) (h.pt 0 (Nat.succ_pos _)) r
    obtain ⟨as, h2⟩ := reads_each I (ps := ps) (ws := ws) ⟨Nat.succ.inj h.len, fun i hi => h.pt (i + 1) (Nat.succ_lt_succ hi)⟩ rs
    exact ⟨_, .cons h1 h2⟩
theorem reads_pts (I : Inv X pins σ H s) {L : Addr} {ps : List (Int × Int)} {ws : List V} (hL : H L = some (.lst ws)) (h : Pts H ps ws) : ∃ as, Reads s.heap (.ref L) (dPts ps) as := by
  obtain ⟨its, ri, ⟨o, n, ho, hc, hk, hd⟩, hz⟩ := I.list (SqL.of hL)
  obtain ⟨as, hr⟩ := reads_each I h ri
  exact ⟨_, .list ho hc hd (by simpa using hr)⟩
/-- repr(p), a pair of ints -/
theorem call_repr_pt (hg : X.A.guards = some []) (hu : X.A.units + 70 < cLine) : CallR X (.builtin "repr") (fun xs H Q => ∃ p v, xs = [v] ∧ PtAt H p v ∧ BdP 1100 p ∧ Q (.str (dPt p).shown) H) := by
  intro pins s σ H xs us Q I r h
  obtain ⟨p, v, rfl, hp, hb, q⟩ := h
  obtain ⟨u, rfl, ru⟩ := vals1 r
  obtain ⟨a, rfl, rd⟩ := reads_pt I hp ru
  have hd : (dPt p).depth + 1 ≤ 70 := by simp [dPt, PyData.depth, PyData.depthAll]
  refine repr_of_reads' rd (showable_pt (bd_log hb.1) (bd_log hb.2)) (fun z => by cases z) hg (by omega) (fun _ _ e => e) (fun h' u tk hk => ⟨.str _, H, I.kept (t' := tk) hk, ⟨_, rfl⟩, q⟩) (Nat.le_trans (pt_short hb) (by decide))
/-- repr(ps), a list of pairs -/
theorem call_repr_pts (hg : X.A.guards = some []) (hu : X.A.units + 70 < cLine) : CallR X (.builtin "repr") (fun xs H Q => ∃ L ps ws, xs = [.ref L] ∧ H L = some (.lst ws) ∧ Pts H ps ws ∧ BdL 1100 ps ∧ ps.length ≤ 1000 ∧ Q (.str (dPts ps).shown) H) := by
  intro pins s σ H xs us Q I r h
  obtain ⟨L, ps, ws, rfl, hL, hp, hb, hn, q⟩ := h
  obtain ⟨u, rfl, ru⟩ := vals1 r
  cases ru
  obtain ⟨as, rd⟩ := reads_pts I hL hp
  have hd := depth_pts ps
  refine repr_of_reads' rd (showable_pts hb) (fun z => by rw [noDict_pts] at z; cases z) hg (by omega) (fun _ _ e => e) (fun h' u tk hk => ⟨.str _, H, I.kept (t' := tk) hk, ⟨_, rfl⟩, q⟩) (Nat.le_trans (pts_short hb hn) (by decide))
/-- {e!r}, a list of pairs -/
theorem pe_fmtPts (hg : X.A.guards = some []) (hu : X.A.units + 70 < cLine) {e : Expr} {te : TE} {pos : Pos} (he : PE X e te) : PE X (.FormattedValue e 114 none pos)
    (fun σ H Q => te σ H fun v H1 => ∃ L ps ws, v = .ref L ∧ H1 L = some (.lst ws) ∧ Pts H1 ps ws ∧ BdL 1100 ps ∧ ps.length ≤ 1000 ∧ Q (.str (dPts ps).shown) H1) := by
  refine ⟨fun pins s σ H Q I h => ?_⟩
  refine wpAny_FormattedValue_repr (thn (he.run pins s σ H _ I h) fun v s1 hv => ?_)
  obtain ⟨x, H1, I1, r1, L, ps, ws, rfl, hL, hp, hb, hn, q⟩ := hv
  cases r1
  obtain ⟨as, rd⟩ := reads_pts I1 hL hp
  have hd := depth_pts ps
  have hz : (dPts ps).shown.length ≤ sizeLine := Nat.le_trans (pts_short hb hn) (by decide)
  refine pyReprObj_of_reads rd (showable_pts hb) (fun z => by rw [noDict_pts] at z; cases z) hg (by omega) (fun _ _ e => e) (fun h' u tk hk => ?_) hz
  have I2 := I1.kept (t' := tk) hk
  exact wpAny_formatField_str ⟨.str _, H1, I2.tok _, ⟨_, rfl⟩, q⟩ ⟨.str _, H1, I2.tok _, ⟨_, rfl⟩, q⟩ hz
end
end K82
set_option Elab.async false
set_option linter.all false
set_option maxRecDepth 100000
set_option maxHeartbeats 400000
namespace K82
open PySem PySem.Spec PyProof.Rows L2 GenW K82G ClX
/-- a promise where no repr is under way -/
def FnG (P : Program) (w : World) (K : PySem.W.Frag) (mg : Str → Option Value) (base : Heap) (CX : CXT) (k : Nat) (f : Addr) (sp : Sp) : Prop :=
  ∀ (A : Around) (outer : List Env) (s : Shared) (H : Hp) (us : List Value) (vs : List V) (Q : VK) (E : XK), Room k A → A.guards = some [] → Env0 P w K mg base A outer s H → Vals vs us → sp vs H Q E →
    codeAny (model P w) A (.call (.ref f) ⟨us, []⟩) (CR CX outer P w H s Q E) s
section
variable {P : Program} {w : World} {K : PySem.W.Frag} {mg : Str → Option Value} {base : Heap} {A : Cl}
theorem fnG_of {CX : CXT} {x qual : Str} {params : Arguments} {body : List Stmt} {scope : Scope} {dvs : List V} {kws : List (Str × V)} {f : Addr} {fd : FuncData} {N ps : List Str} {k : Nat} {sp : Sp} (F : FunD K x qual params body scope dvs kws f fd) (S : FnScope N ps scope) (len : ∀ vs H Q E, sp vs H Q E → vs.length = ps.length) (hb : Binds K fd ps [])
    (hbody : ∀ (cdv : Value) (A : Around) (outer : List Env) (s : Shared) (H : Hp) (vs : List V) (Q : VK) (E : XK), A.guards = some [] → Room k (A.deeper (envOfC qual scope s.heap.objs.size f cdv)) → sp vs H Q E →
      ∃ t, PSs (cxOf CX P w K mg base N qual scope f cdv A outer s H E) body t ∧ t { nx := fun _ H' => Q .non H', rt := Q } (L2.start N vs) H) : FnG P w K mg base CX (k + 1) f sp := by
  intro A outer s H us vs Q E hr hg e0 r hsp
  obtain ⟨oc, od, dV, kV, doc, pm, an, cdv, ct, osl, rfl, lk, hcd, _, _⟩ := F.ex
  have hl := len _ _ _ _ hsp
  have KX : K.In s.heap := e0.mod.kin.keeps fun b o e => (e0.bs b o e).1
  have lim : s.heap.NoLimit := e0.mod.nolimit.keeps fun b o e => (e0.bs b o e).1
  have hul : (us ++ []).length = ps.length := by rw [List.append_nil, ← r.length]; exact hl
  have bnd := hb s us KX hul
  rw [List.append_nil] at bnd
  have hkind : ∀ y ∈ ps.zip us, scope.names.lookup y.1 = some .local ∨ (scope.names.lookup y.1 = some .cell ∧ ((cellsFrom (s.heap.objs.size + 1) scope.names []).lookup y.1).isSome = true) := fun y hy =>
    (S.par y.1 (List.of_mem_zip hy).1).elim .inl fun q => .inr ⟨q, PySem.W.cellsFrom_some _ _ _ (.inl q)⟩
  refine codeAny_call_function hr.depth (KX _ _ lk) rfl S.co S.gen rfl (PySem.W.codeRec_of KX hcd) (bnd _ _ _ _ (wpAny_newFunctionEnv_cells S.kind hkind fun env he s1 x => ?_))
  cases he
  obtain ⟨t, ht, hq⟩ := hbody cdv A outer s H vs Q E hg (hr.deeper _) hsp
  have I : Inv (cxOf CX P w K mg base N qual scope f cdv A outer s H E) [] (L2.start N vs) H s1 := inv_start S hr.hd e0 hl r x
  refine ⟨lim.keeps x.toInCall.keep, codeAny_func (wpAny_mono (ht.run [] s1 _ H _ I hq) (fun fl s' hs => ?_) fun e s' hs => hs)⟩
  cases fl with
  | ret u => obtain ⟨v, σ', H', J, rv, q⟩ := hs; exact ⟨v, H', J.os, J.bare, J.base, J.hok, rv, q⟩
  | next => obtain ⟨σ', H', J, q⟩ := hs; exact ⟨.non, H', J.os, J.bare, J.base, J.hok, rfl, q⟩
  | brk => obtain ⟨_, _, _, q⟩ := hs; exact q.elim
  | cont => obtain ⟨_, _, _, q⟩ := hs; exact q.elim
/-! ### __repr__ -/
def rSix (s : Six) : Str := ((((((((((((Str.empty ++ "GridMap(") ++ tI s.a) ++ ", ") ++ tI s.b) ++ ", ") ++ tI s.c) ++ ", ") ++ tI s.d) ++ ", ") ++ tI s.e) ++ ", ") ++ tI s.f) ++ ")"
def rPoly (cv : Bool) (ks : List (Int × Int)) : Str := ((Str.empty ++ (if cv = true then ("ConvexPolygon(" : Str) else "Polygon(")) ++ (dPts ks).shown) ++ ")"
def spMapRep (A : Cl) : Sp := fun vs H Q _ => ∃ (s : Six) (v : V), vs = [v] ∧ MapAt A H s v ∧ s.bd6 1100 ∧ ∀ H', Same H H' → Q (.str (rSix s)) H'
def spPolyRep (A : Cl) (cv : Bool) : Sp := fun vs H Q _ => ∃ (ks : List (Int × Int)) (v : V), vs = [v] ∧ PolyAt A H cv ks v ∧ BdL 1100 ks ∧ ks.length ≤ 1000 ∧ ∀ H', Same H H' → Q (.str (rPoly cv ks)) H'
abbrev stGr : Stmt := inClass (topS 21) 3
abbrev stPr : Stmt := inClass (topS 38) 4
abbrev stCr : Stmt := inClass (topS 39) 1
abbrev NGr : List Str := ["self", "a", "b", "c", "d", "e", "f"]
theorem scGr : FnScope NGr ["self"] (defScope stGr) := ⟨rfl, rfl, rfl, by decide +kernel, rfl, by decide +kernel, by decide +kernel⟩
theorem scPr : FnScope ["self"] ["self"] (defScope stPr) := ⟨rfl, rfl, rfl, by decide +kernel, rfl, by decide +kernel, by decide +kernel⟩
theorem scCr : FnScope ["self"] ["self"] (defScope stCr) := ⟨rfl, rfl, rfl, by decide +kernel, rfl, by decide +kernel, by decide +kernel⟩
theorem ok_poly_repr (PC : PolyC K mg A) (Fr : Free mg) {f : Addr} {fd : FuncData} (F : FunD K "__repr__" "Polygon.__repr__" (defArgs stPr) (defBody stPr) (defScope stPr) [] [] f fd) : FnG P w K mg base CX0 1 f (spPolyRep A false) := by
  refine fnG_of F scPr (fun vs H Q E h => ?_) (F.bindsN fun _ _ _ _ _ _ us hl => match us, hl with | [_], _ => rfl) fun cdv Ar outer s H vs Q E hg hr h => ?_
  · obtain ⟨ks, v, rfl, _⟩ := h
    rfl
  · obtain ⟨ks, v, rfl, ⟨a, dx, T, ws, rfl, ha, hT, hw⟩, hb, hn, q⟩ := h
    have hu : (Ar.deeper (envOfC "Polygon.__repr__" (defScope stPr) s.heap.objs.size f cdv)).units + 70 < cLine := by have := hr.un; omega
    refine ⟨_, pss_one (ps_ret (pe_joined (.cons pe_str (.cons (pe_fmtPts hg hu (pe_callTy call_list_of (by rfl) Fr.list (by decide +kernel) (pa_cons (pe_fld (pv 0) rfl) pa_nil))) (.cons pe_str .nil))))), ?_⟩
    have z1 := pts_short hb hn
    refine ⟨_, rfl, by decide +kernel, ?_⟩
    refine ⟨_, rfl, a, _, dx, _, _, rfl, ha, PC.c1, PC.k1, look_kept _ _, T, ws, rfl, .inr (SqT.of hT), fun L hL => ?_⟩
    refine ⟨L, ks, ws, rfl, upd_same, hw.same (sNew hL _), hb, hn, _, rfl, ?_, _, rfl, ?_, q _ (sNew hL _)⟩
    · have e : ((Str.empty ++ ("Polygon(" : Str)) : Str).length = 8 := by decide +kernel
      rw [strLen_append, sizeLine_eq, e]
      omega
    · have e : ((Str.empty ++ ("Polygon(" : Str)) : Str).length = 8 := by decide +kernel
      have e2 : ((")" : Str)).length = 1 := by decide +kernel
      rw [strLen_append, strLen_append, sizeLine_eq, e, e2]
      omega
theorem ok_conv_repr (PC : PolyC K mg A) (Fr : Free mg) {f : Addr} {fd : FuncData} (F : FunD K "__repr__" "ConvexPolygon.__repr__" (defArgs stCr) (defBody stCr) (defScope stCr) [] [] f fd) : FnG P w K mg base CX0 1 f (spPolyRep A true) := by
  refine fnG_of F scCr (fun vs H Q E h => ?_) (F.bindsN fun _ _ _ _ _ _ us hl => match us, hl with | [_], _ => rfl) fun cdv Ar outer s H vs Q E hg hr h => ?_
  · obtain ⟨ks, v, rfl, _⟩ := h
    rfl
  · obtain ⟨ks, v, rfl, ⟨a, dx, T, ws, rfl, ha, hT, hw⟩, hb, hn, q⟩ := h
    have hu : (Ar.deeper (envOfC "ConvexPolygon.__repr__" (defScope stCr) s.heap.objs.size f cdv)).units + 70 < cLine := by have := hr.un; omega
    refine ⟨_, pss_one (ps_ret (pe_joined (.cons pe_str (.cons (pe_fmtPts hg hu (pe_callTy call_list_of (by rfl) Fr.list (by decide +kernel) (pa_cons (pe_fld (pv 0) rfl) pa_nil))) (.cons pe_str .nil))))), ?_⟩
    have z1 := pts_short hb hn
    refine ⟨_, rfl, by decide +kernel, ?_⟩
    refine ⟨_, rfl, a, _, dx, _, _, rfl, ha, PC.c2, PC.k2, look_kept _ _, T, ws, rfl, .inr (SqT.of hT), fun L hL => ?_⟩
    refine ⟨L, ks, ws, rfl, upd_same, hw.same (sNew hL _), hb, hn, _, rfl, ?_, _, rfl, ?_, q _ (sNew hL _)⟩
    · have e : ((Str.empty ++ ("ConvexPolygon(" : Str)) : Str).length = 14 := by decide +kernel
      rw [strLen_append, sizeLine_eq, e]
      omega
    · have e : ((Str.empty ++ ("ConvexPolygon(" : Str)) : Str).length = 14 := by decide +kernel
      have e2 : ((")" : Str)).length = 1 := by decide +kernel
      rw [strLen_append, strLen_append, sizeLine_eq, e, e2]
      omega
theorem ok_map_repr (MC : MapC K mg A) {f : Addr} {fd : FuncData} (F : FunD K "__repr__" "GridMap.__repr__" (defArgs stGr) (defBody stGr) (defScope stGr) [] [] f fd) : FnG P w K mg base CX0 1 f (spMapRep A) := by
  refine fnG_of F scGr (fun vs H Q E h => ?_) (F.bindsN fun _ _ _ _ _ _ us hl => match us, hl with | [_], _ => rfl) fun cdv Ar outer s H vs Q E hg hr h => ?_
  · obtain ⟨n, v, rfl, _⟩ := h
    rfl
  · obtain ⟨⟨a, b, c, d, e, g⟩, v, rfl, ⟨x, dx, T, rfl, hx, hT⟩, hb, q⟩ := h
    have bd : ∀ n ∈ [a, b, c, d, e, g], n.natAbs.log2 < 1920 ∧ (tI n).length ≤ 333 := fun n hn => ⟨bd_log (hb n hn), tI_len (hb n hn)⟩
    obtain ⟨ba, bb, bc, bd', be, bg⟩ : (a.natAbs.log2 < 1920 ∧ (tI a).length ≤ 333) ∧ (b.natAbs.log2 < 1920 ∧ (tI b).length ≤ 333) ∧ (c.natAbs.log2 < 1920 ∧ (tI c).length ≤ 333) ∧ (d.natAbs.log2 < 1920 ∧ (tI d).length ≤ 333) ∧ (e.natAbs.log2 < 1920 ∧ (tI e).length ≤ 333) ∧ (g.natAbs.log2 < 1920 ∧ (tI g).length ≤ 333) :=
      ⟨bd a (by simp), bd b (by simp), bd c (by simp), bd d (by simp), bd e (by simp), bd g (by simp)⟩
    refine ⟨_, pss_cons (ps_asg (pe_fld (pv 0) rfl) (pg_tup rfl (pgs_cons (pg_name (i := 1) scGr.nd rfl (Or.inl rfl)) (pgs_cons (pg_name (i := 2) scGr.nd rfl (Or.inl rfl)) (pgs_cons (pg_name (i := 3) scGr.nd rfl (Or.inl rfl)) (pgs_cons (pg_name (i := 4) scGr.nd rfl (Or.inl rfl)) (pgs_cons (pg_name (i := 5) scGr.nd rfl (Or.inl rfl)) (pgs_cons (pg_name (i := 6) scGr.nd rfl (Or.inl rfl)) pgs_nil))))))))
      (pss_one (ps_ret (pe_joined (.cons pe_str (.cons (pe_fmt (pv 1)) (.cons pe_str (.cons (pe_fmt (pv 2)) (.cons pe_str (.cons (pe_fmt (pv 3)) (.cons pe_str (.cons (pe_fmt (pv 4)) (.cons pe_str (.cons (pe_fmt (pv 5)) (.cons pe_str (.cons (pe_fmt (pv 6)) (.cons pe_str .nil)))))))))))))))), ?_⟩
    refine ⟨_, rfl, x, _, dx, _, _, rfl, hx, MC.c, MC.s, look_six _, T, _, rfl, SqT.of hT, rfl, ?_⟩
    have l0 : ((Str.empty ++ ("GridMap(" : Str)) : Str).length = 8 := by decide +kernel
    have l1 : ((", " : Str)).length = 2 := by decide +kernel
    have l2 : ((")" : Str)).length = 1 := by decide +kernel
    have le : ∀ {n : Nat}, n ≤ 3000 → n ≤ sizeLine := fun h => Nat.le_trans h (by decide)
    have gr : ∀ {x y : Str} {n m : Nat}, x.length ≤ n → y.length ≤ m → (x ++ y).length ≤ n + m := fun {x y n m} h k => by rw [strLen_append]; omega
    have k1 : ((", " : Str)).length ≤ 2 := Nat.le_of_eq l1
    have e0 : ((Str.empty ++ ("GridMap(" : Str)) : Str).length ≤ 8 := Nat.le_of_eq l0
    have e1 := gr e0 ba.2
    have e2 := gr e1 k1
    have e3 := gr e2 bb.2
    have e4 := gr e3 k1
    have e5 := gr e4 bc.2
    have e6 := gr e5 k1
    have e7 := gr e6 bd'.2
    have e8 := gr e7 k1
    have e9 := gr e8 be.2
    have e10 := gr e9 k1
    have e11 := gr e10 bg.2
    have e12 := gr e11 (Nat.le_of_eq l2)
    refine ⟨_, _, rfl, _, _, rfl, _, _, rfl, _, _, rfl, _, _, rfl, _, _, rfl, rfl, ?_⟩
    refine ⟨_, rfl, le (Nat.le_trans e0 (by decide)), ?_⟩
    refine ⟨_, rfl, .inr ⟨a, rfl, ba.1, tI a, rfl, le (Nat.le_trans e1 (by decide)), ?_⟩⟩
    refine ⟨_, rfl, le (Nat.le_trans e2 (by decide)), ?_⟩
    refine ⟨_, rfl, .inr ⟨b, rfl, bb.1, tI b, rfl, le (Nat.le_trans e3 (by decide)), ?_⟩⟩
    refine ⟨_, rfl, le (Nat.le_trans e4 (by decide)), ?_⟩
    refine ⟨_, rfl, .inr ⟨c, rfl, bc.1, tI c, rfl, le (Nat.le_trans e5 (by decide)), ?_⟩⟩
    refine ⟨_, rfl, le (Nat.le_trans e6 (by decide)), ?_⟩
    refine ⟨_, rfl, .inr ⟨d, rfl, bd'.1, tI d, rfl, le (Nat.le_trans e7 (by decide)), ?_⟩⟩
    refine ⟨_, rfl, le (Nat.le_trans e8 (by decide)), ?_⟩
    refine ⟨_, rfl, .inr ⟨e, rfl, be.1, tI e, rfl, le (Nat.le_trans e9 (by decide)), ?_⟩⟩
    refine ⟨_, rfl, le (Nat.le_trans e10 (by decide)), ?_⟩
    refine ⟨_, rfl, .inr ⟨g, rfl, bg.1, tI g, rfl, le (Nat.le_trans e11 (by decide)), ?_⟩⟩
    exact ⟨_, rfl, le (Nat.le_trans e12 (by decide)), q _ (Same.refl _)⟩
end
end K82
set_option Elab.async false
set_option linter.all false
set_option maxRecDepth 100000
set_option maxHeartbeats 400000
namespace K82
open PySem PySem.Spec PyProof.Rows L2 GenW K82G ClX
section
variable {X : Cx} {C fR : Addr} {k : Nat} {sp : Sp}
/-- repr(x), x an instance of a class of the text that has its own __repr__ -/
theorem call_repr_own (hs : PySem.W.findIn X.K (.ref C) "__repr__" = some (some (.ref fR))) (hf : PySem.W.isFn X.K (.ref fR) = true) (F : FnG X.prog X.w X.K X.mg X.base CX0 k fR sp) (hr : Room (k + 1) X.A) (hg : X.A.guards = some []) :
    CallR X (.builtin "repr") (fun xs H Q => ∃ a dx fs, xs = [.ref a] ∧ H a = some (.ins C dx fs) ∧ sp [.ref a] H (fun v H' => ∃ t, v = .str t ∧ Q v H') E0) := by
  intro pins s σ H xs us Q I r h
  obtain ⟨a, dx, fs, rfl, ha, q⟩ := h
  obtain ⟨u, rfl, ru⟩ := vals1 r
  cases ru
  obtain ⟨mA, O, _⟩ := ins_get I.hok ha
  obtain ⟨od, J, _⟩ := O.look
  obtain ⟨m, hfr⟩ := I.fr
  refine PySem.W.repr_K (by show X.A.units + 1 < cLine; have := hr.un; omega) hfr I.mod.kin J hs hf (wpAny_call ?_)
  have e0 := I.env0
  refine codeAny_mono (F X.A.in1 X.stack s H [.ref a] [.ref a] _ E0 hr.in1 hg ⟨e0.frames, e0.mod, e0.bs, e0.bsz, e0.funs, e0.frf, e0.hok, e0.bare⟩ (.cons rfl .nil) q) fun z s' hz => ?_
  match z, hz with
  | .error e, hz => exact hz.elim
  | .ok (.ret u), hz =>
    obtain ⟨v, H', I3, rv, t, ev, q3⟩ := I.after hz
    cases ev
    obtain ⟨tk, rfl⟩ := (show ∃ tk, u = Value.str t tk from rv)
    exact ⟨.str t, H', I3, ⟨tk, rfl⟩, q3⟩
  | .ok .next, hz => exact hz.elim
  | .ok .brk, hz => exact hz.elim
  | .ok .cont, hz => exact hz.elim
end
end K82
set_option Elab.async false
set_option linter.all false
set_option maxRecDepth 100000
set_option maxHeartbeats 400000
namespace K82
open PySem PySem.Spec PyProof.Rows L2 GenW K82G ClX
/-! ### drawn numbers -/
def PoolAt (H : Hp) (p : Addr) : Prop := ∃ a b : Int, H p = some (.lst [.int a, .int b]) ∧ 0 ≤ b ∧ b < 2147483647
theorem SameX.refl (a : Addr) (H : Hp) : SameX a H H := fun _ _ _ h => h
theorem SameX.trans {a : Addr} {H H1 H2 : Hp} (s : SameX a H H1) (t : SameX a H1 H2) : SameX a H H2 := fun b u n e => t b u n (s b u n e)
theorem SameX.of {a : Addr} {H H' : Hp} (s : Same H H') : SameX a H H' := fun b u _ e => s b u e
theorem SameX.put {a : Addr} {H H' : Hp} {u : HO} (s : SameX a H H') : SameX a H (upd H' a u) := fun b v n e => (upd_ne n).trans (s b v n e)
theorem SameX.same {a : Addr} {H H' : Hp} (s : SameX a H H') (h : H a = none) : Same H H' := fun b u e => s b u (ne_of_none e h) e
theorem PoolAt.same {H H' : Hp} {p : Addr} (h : PoolAt H p) (s : Same H H') : PoolAt H' p := by
  obtain ⟨a, b, e, r⟩ := h
  exact ⟨a, b, s _ _ e, r⟩
theorem atI_in {xs : List V} {i : Int} (h0 : 0 ≤ i) (h1 : i < xs.length) : atI xs i = some (xs.getD i.toNat .non) := by
  have hi : i.toNat < xs.length := by omega
  unfold atI ixN
  rw [if_pos h0, if_pos h1]
  exact getD_some hi
section
variable {P : Program} {w : World} {K : PySem.W.Frag} {mg : Str → Option Value} {base : Heap} {A : Cl}
def spPool (K : PySem.W.Frag) : Sp := fun vs H Q _ => ∃ (a : Addr) (k : Int) (ns : List Int), vs = [.ref a, .int k] ∧ SqL K H a (ns.map V.int) ∧ 0 ≤ k ∧ k < 100 ∧ ∀ H' p, Same H H' → H p = none → PoolAt H' p → Q (.ref p) H'
abbrev N62 : List Str := ["_law_script", "_law_k", "_law_cell", "_law_seed"]
theorem sc62 : FnScope N62 ["_law_script", "_law_k"] (defScope (topS 62)) := ⟨rfl, rfl, rfl, by decide +kernel, rfl, by decide +kernel, by decide +kernel⟩
theorem eqv_no : PyData.eqv (.list []) (.list []) = true := by simp [PyData.eqv, PyData.eqvAll]
theorem room64 {k : Nat} {A : Around} (r : Room k A) : A.units + 64 < cLine := by
  have := r.un
  omega
theorem dp_ints {K : PySem.W.Frag} {H : Hp} : ∀ ns : List Int, DpAll K H (ns.map V.int) (ns.map PyData.int)
  | [] => .nil
  | n :: r => .cons (.int n) (dp_ints r)
theorem ints_shaped (ns : List Int) : SeqAt.shaped (.list (ns.map PyData.int)) = true := by
  have e := optD_shaped (ns.map some)
  rw [List.map_map] at e
  exact e
theorem pos_m : (0 : Int) < 2147483647 := by decide
theorem pos_n : (0 : Int) < 2147483629 := by decide
theorem b01 (k : Bool) : -(2 ^ 64) < (if k = true then (1 : Int) else 0) ∧ (if k = true then (1 : Int) else 0) < 2 ^ 64 := by
  cases k <;> decide
theorem ok_pool (Fr : Free mg) (D : Df K mg "_law_pool" 62) : Ca P w K mg base CX0 1 "_law_pool" (spPool K) [] := by
  refine ca_of D sc62 (fun vs H Q E h => ?_) (fun _ _ _ _ _ _ us hl => match us, hl with | [_, _], _ => rfl) (fun f cdv Ar outer s H vs Q E hr h => ?_)
  · obtain ⟨a, k, ns, rfl, _⟩ := h
    rfl
  · obtain ⟨a, k, ns, rfl, hs, k0, k1, q⟩ := h
    refine ⟨_, pss_cons (ps_set (i := 2) sc62.nd rfl (Or.inl rfl) pe_int)
      (C8.pss_cut (ps_if (pt_cmpR (op_neD (room64 hr)) (pv 0) (pe_lst pa_nil) (nomark _)) (pss_one (ps_set (i := 2) sc62.nd rfl (Or.inl rfl) (pe_ix ix_list (pv 0) (pe_op op_mod (pv 1) (pe_callB call_len_seq (by rfl) Fr.len (by decide +kernel) (pa_cons (pv 0) pa_nil))) (fun _ _ => rfl)))) pss_nil)
      (pss_cons (ps_set (i := 3) sc62.nd rfl (Or.inl rfl) (pe_op op_mod (pe_op op_mul (pe_op op_add (pe_op op_add (pe_op op_mod (pv 2) pe_int) (pe_op op_mul pe_int (pv 1))) pe_int) pe_int) pe_int))
      (pss_one (ps_ret (pe_lst (pa_cons (pe_op op_mul (pe_callB call_abs (by rfl) Fr.abs (by decide +kernel) (pa_cons (pv 2) pa_nil)) (pe_callTy call_int1 (by rfl) Fr.int (by decide +kernel) (pa_cons (pe_cmpR op_ge (pe_callB call_abs (by rfl) Fr.abs (by decide +kernel) (pa_cons (pv 2) pa_nil)) (pe_op op_pow pe_int pe_int) (nomark _)) pa_nil))) (pa_cons (pv 3) pa_nil))))))), ?_⟩
    refine ⟨fun σ H' => (∃ c : Int, σ = [some (.ref a), some (.int k), some (.int c), none]) ∧ Same H H', ?_, ?_⟩
    · refine ⟨_, rfl, by show 0 ≤ sizeLine; decide, fun l hl => ?_⟩
      have st : Same H (upd H l (.lst [])) := sNew hl _
      have hs1 : SqL K (upd H l (.lst [])) a (ns.map V.int) := Same.seq st hs
      refine ⟨_, _, .lst hs1 (dp_ints ns), .lst (SqL.of upd_same) .nil, ints_shaped ns, ints_shaped [], ?_⟩
      refine ⟨_, rfl, ?_⟩
      refine ite2 (fun hne => ?_) fun _ => ⟨⟨0, rfl⟩, st⟩
      have hn : ns ≠ [] := by
        rintro rfl
        have e := eqv_no
        rw [List.map_nil, e] at hne
        exact absurd hne (by decide)
      have hl0 : 0 < (ns.map V.int).length := by
        rw [List.length_map]
        exact List.length_pos_iff.mpr hn
      have b0 := Int.emod_nonneg k (b := ((ns.map V.int).length : Int)) (by omega)
      have b1 := Int.emod_lt_of_pos k (b := ((ns.map V.int).length : Int)) (by omega)
      have at1 := atI_in b0 b1
      have e1 : (ns.map V.int).getD (k % ((ns.map V.int).length : Int)).toNat .non = .int (ns.getD (k % ((ns.map V.int).length : Int)).toNat 0) := by
        have hi : (k % ((ns.map V.int).length : Int)).toNat < ns.length := by
          rw [List.length_map] at b0 b1 ⊢
          omega
        rw [List.getD_eq_getElem?_getD, List.getD_eq_getElem?_getD, List.getElem?_map, List.getElem?_eq_getElem hi]
        rfl
      rw [e1] at at1
      refine ⟨_, rfl, _, rfl, _, rfl, a, _, rfl, .inl hs1, _, _, rfl, rfl, (by omega), a, _, _, _, rfl, rfl, hs1, at1, ⟨⟨_, rfl⟩, st⟩⟩
    · rintro σ H' ⟨⟨c, rfl⟩, s1⟩
      refine ⟨_, rfl, _, _, rfl, rfl, pos_n, _, rfl, _, _, rfl, rfl, .inl (by decide), _, _, rfl, rfl, _, _, rfl, rfl, _, _, rfl, rfl, .inr (by decide), _, _, rfl, rfl, pos_m, ?_⟩
      refine ⟨_, rfl, _, rfl, _, rfl, _, rfl, _, _, rfl, rfl, ⟨by decide, by decide, by decide⟩, _, _, rfl, rfl, .inr ⟨_, rfl, ?_⟩⟩
      refine ⟨_, _, rfl, rfl, .inr ?_, _, rfl, by show 2 ≤ sizeLine; decide, fun p hp => ?_⟩
      · exact b01 _
      · exact q _ p (s1.trans (sNew hp _)) (s1.free hp) ⟨_, _, upd_same, Int.emod_nonneg _ (by decide), Int.emod_lt_of_pos _ (by decide)⟩

/-! ### _law_take -/

def spTake : Sp := fun vs H Q _ => ∃ (p : Addr) (n : Int), vs = [.ref p, .int n] ∧ PoolAt H p ∧ 0 < n ∧ n.natAbs < 2 ^ 90 ∧ ∀ (d : Int) (H' : Hp), 0 ≤ d → d < n → PoolAt H' p → SameX p H H' → Q (.int d) H'
abbrev N63 : List Str := ["_law_pool_here", "_law_bound", "_law_digit"]
theorem sc63 : FnScope N63 ["_law_pool_here", "_law_bound"] (defScope (topS 63)) := ⟨rfl, rfl, rfl, by decide +kernel, rfl, by decide +kernel, by decide +kernel⟩
theorem ok_take (D : Df K mg "_law_take" 63) : Ca P w K mg base CX0 1 "_law_take" spTake [] := by
  refine ca_of D sc63 (fun vs H Q E h => ?_) (fun _ _ _ _ _ _ us hl => match us, hl with | [_, _], _ => rfl) (fun f cdv Ar outer s H vs Q E hr h => ?_)
  · obtain ⟨p, n, rfl, _⟩ := h
    rfl
  · obtain ⟨p, n, rfl, ⟨a, b, hp, b0, b1⟩, n0, n1, q⟩ := h
    refine ⟨_, pss_cons (ps_if (pt_cmpR op_gt (pe_ix ix_list (pv 0) pe_int (fun _ _ => rfl)) pe_int (nomark _))
        (pss_cons (ps_set (i := 2) sc63.nd rfl (Or.inl rfl) (pe_op op_mod (pe_ix ix_list (pv 0) pe_int (fun _ _ => rfl)) (pv 1)))
        (pss_cons (ps_asg (pe_op op_fdivW (pe_ix ix_list (pv 0) pe_int (fun _ _ => rfl)) (pv 1)) (pg_sub (pv 0) pe_int set_list))
        (pss_one (ps_ret (pv 2))))) pss_nil)
      (pss_cons (ps_asg (pe_op op_mod (pe_op op_add (pe_op op_mul (pe_ix ix_list (pv 0) pe_int (fun _ _ => rfl)) pe_int) pe_int) pe_int) (pg_sub (pv 0) pe_int set_list))
      (pss_one (ps_ret (pe_op op_mod (pe_op op_fdiv (pe_op op_mod (pe_op op_mul (pe_ix ix_list (pv 0) pe_int (fun _ _ => rfl)) (pe_ix ix_list (pv 0) pe_int (fun _ _ => rfl))) pe_int) pe_int) (pv 1))))), ?_⟩
    refine ⟨_, rfl, p, _, 0, _, rfl, rfl, SqL.of hp, rfl, _, _, rfl, rfl, _, rfl, ?_⟩
    refine ite2 (fun _ => ?_) fun _ => ?_
    · refine ⟨_, rfl, p, _, 0, _, rfl, rfl, SqL.of hp, rfl, _, rfl, _, _, rfl, rfl, n0, ?_⟩
      refine ⟨_, rfl, p, _, 0, _, rfl, rfl, SqL.of hp, rfl, _, rfl, _, _, rfl, rfl, wide_div n0 n1 (by decide) (by decide), ?_⟩
      refine ⟨_, rfl, p, _, 0, 0, rfl, rfl, hp, rfl, ?_⟩
      exact ⟨_, rfl, q _ _ (Int.emod_nonneg _ (by omega)) (Int.emod_lt_of_pos _ n0) ⟨_, b, upd_same, b0, b1⟩ (SameX.refl p H).put⟩
    · refine ⟨_, rfl, p, _, 1, _, rfl, rfl, SqL.of hp, rfl, _, _, rfl, rfl, .inr (by decide), _, _, rfl, rfl, _, _, rfl, rfl, pos_m, ?_⟩
      refine ⟨_, rfl, p, _, 1, 1, rfl, rfl, hp, rfl, ?_⟩
      have z0 := Int.emod_nonneg (b * 48271 + 11) (b := 2147483647) (by decide)
      have z1 := Int.emod_lt_of_pos (b * 48271 + 11) (b := 2147483647) (by decide)
      refine ⟨_, rfl, p, _, 1, _, rfl, rfl, SqL.of upd_same, rfl, _, rfl, p, _, 1, _, rfl, rfl, SqL.of upd_same, rfl, _, _, rfl, rfl, .inr ⟨by omega, by omega⟩, _, _, rfl, rfl, pos_n, _, _, rfl, rfl, ⟨by decide, by decide⟩, _, rfl, _, _, rfl, rfl, n0, ?_⟩
      exact q _ _ (Int.emod_nonneg _ (by omega)) (Int.emod_lt_of_pos _ n0) ⟨a, _, upd_same, z0, z1⟩ (SameX.refl p H).put

/-! ### _law_number -/
def Sm (n : Int) : Prop := n.natAbs < 10 ^ 27
def spNum : Sp := fun vs H Q _ => ∃ p : Addr, vs = [.ref p] ∧ PoolAt H p ∧ ∀ (n : Int) (H' : Hp), Sm n → PoolAt H' p → SameX p H H' → Q (.int n) H'
abbrev N64 : List Str := ["_law_pool_here", "_law_way", "_law_sign"]
theorem sc64 : FnScope N64 ["_law_pool_here"] (defScope (topS 64)) := ⟨rfl, rfl, rfl, by decide +kernel, rfl, by decide +kernel, by decide +kernel⟩
theorem ok_num (D : Df K mg "_law_number" 64) (cT : Ca P w K mg base CX0 1 "_law_take" spTake []) : Ca P w K mg base CX0 2 "_law_number" spNum [] := by
  refine ca_of D sc64 (fun vs H Q E h => ?_) (fun _ _ _ _ _ _ us hl => match us, hl with | [_], _ => rfl) (fun f cdv Ar outer s H vs Q E hr h => ?_)
  · obtain ⟨p, rfl, _⟩ := h
    rfl
  · obtain ⟨p, rfl, hp, q⟩ := h
    refine ⟨_, C8.pss_cut (ps_par (i := 1) (j := 2) rfl sc64.nd rfl rfl (by decide) rfl rfl (pa_cons (pe_ca0 (j := 1) cT hr (Nat.le_refl 1) (pa_cons (pv 0) (pa_cons pe_int pa_nil))) (pa_cons (pe_ix ix_list (pe_lst (pa_cons pe_int (pa_cons (pe_un un_neg pe_int) pa_nil))) (pe_ca0 (j := 1) cT hr (Nat.le_refl 1) (pa_cons (pv 0) (pa_cons pe_int pa_nil))) (fun _ _ => rfl)) pa_nil)) (by rfl))
      (pss_cons (ps_if (pt_cmpR op_lt (pv 1) pe_int (nomark _)) (pss_one (ps_ret (pe_op op_mul (pv 2) (pe_ca0 (j := 1) cT hr (Nat.le_refl 1) (pa_cons (pv 0) (pa_cons (pe_ix ix_list (pe_lst (pa_cons pe_int (pa_cons pe_int (pa_cons pe_int pa_nil)))) (pv 1) (fun _ _ => rfl)) pa_nil)))))) pss_nil)
      (pss_one (ps_ret (pe_op op_mul (pv 2) (pe_ca0 (j := 1) cT hr (Nat.le_refl 1) (pa_cons (pv 0) (pa_cons (pe_ix ix_list (pe_lst (pa_cons (pe_op op_pow pe_int pe_int) (pa_cons (pe_op op_pow pe_int pe_int) pa_nil))) (pe_op op_sub (pv 1) pe_int) (fun _ _ => rfl)) pa_nil))))))), ?_⟩
    have off : ∀ {H1 : Hp} {l : Addr}, PoolAt H1 p → H1 l = none → l ≠ p := fun {H1 l} ⟨a, b, z, _⟩ hl y => by
      rw [y, z] at hl
      cases hl
    refine ⟨fun σ H2 => ∃ d g : Int, σ = [some (.ref p), some (.int d), some (.int g)] ∧ 0 ≤ d ∧ d < 5 ∧ (g = 1 ∨ g = -1) ∧ PoolAt H2 p ∧ SameX p H H2, ?_, ?_⟩
    · refine ⟨_, rfl, p, 5, rfl, hp, by decide, by decide, fun d H1 d0 d1 hp1 s1 => ?_⟩
      refine ⟨1, rfl, by show 2 ≤ sizeLine; decide, fun l hl => ?_⟩
      refine ⟨_, rfl, p, 2, rfl, hp1.same (sNew hl _), by decide, by decide, fun e H2 e0 e1 hp2 s2 => ?_⟩
      have S2 : SameX p H H2 := (s1.trans (SameX.of (sNew hl _))).trans s2
      have hl2 := s2 l _ (off hp1 hl) upd_same
      rcases (show e = 0 ∨ e = 1 by omega) with rfl | rfl
      · exact ⟨l, _, 0, _, rfl, rfl, SqL.of hl2, rfl, _, _, rfl, d, 1, rfl, d0, d1, .inl rfl, hp2, S2⟩
      · exact ⟨l, _, 1, _, rfl, rfl, SqL.of hl2, rfl, _, _, rfl, d, -1, rfl, d0, d1, .inr rfl, hp2, S2⟩
    · rintro σ H1 ⟨d, g, rfl, d0, d1, hg, hp1, s1⟩
      have fin : ∀ (e n : Int) (H3 : Hp), 0 ≤ e → e < n → n ≤ 10 ^ 27 → PoolAt H3 p → SameX p H H3 → ∃ i j : Int, V.int g = .int i ∧ V.int e = .int j ∧ CMul i j ∧ Q (.int (i * j)) H3 := fun e n H3 e0 e1 n1 hp3 s3 => by
        refine ⟨g, e, rfl, rfl, .inl ?_, q _ H3 ?_ hp3 s3⟩
        · rcases hg with rfl | rfl <;> decide
        · unfold Sm
          rcases hg with rfl | rfl <;> omega
      refine ⟨_, rfl, _, _, rfl, rfl, _, rfl, ?_⟩
      refine ite2 (fun h => ?_) fun h => ?_
      · have h3 : d < 3 := of_decide_eq_true h
        refine ⟨_, rfl, _, rfl, by show 3 ≤ sizeLine; decide, fun l hl => ?_⟩
        have go : ∀ n : Int, 0 < n → n ≤ 10 ^ 27 → spTake [.ref p, .int n] (upd H1 l (.lst [.int 2, .int 12, .int 1000])) (fun v H' => ∃ i j : Int, V.int g = .int i ∧ v = .int j ∧ CMul i j ∧ Q (.int (i * j)) H') E0 := fun n n0 n1 =>
          ⟨p, n, rfl, hp1.same (sNew hl _), n0, by omega, fun e H3 e0 e1 hp3 s3 => fin e n H3 e0 e1 n1 hp3 ((s1.trans (SameX.of (sNew hl _))).trans s3)⟩
        rcases (show d = 0 ∨ d = 1 ∨ d = 2 by omega) with rfl | rfl | rfl
        · exact ⟨_, rfl, l, _, 0, .int 2, rfl, rfl, SqL.of upd_same, rfl, go 2 (by decide) (by decide)⟩
        · exact ⟨_, rfl, l, _, 1, .int 12, rfl, rfl, SqL.of upd_same, rfl, go 12 (by decide) (by decide)⟩
        · exact ⟨_, rfl, l, _, 2, .int 1000, rfl, rfl, SqL.of upd_same, rfl, go 1000 (by decide) (by decide)⟩
      · have h3 : ¬ d < 3 := fun z => h (decide_eq_true z)
        refine ⟨_, rfl, _, rfl, _, _, rfl, rfl, ⟨by decide, by decide, by decide⟩, _, _, rfl, rfl, ⟨by decide, by decide, by decide⟩, by show 2 ≤ sizeLine; decide, fun l hl => ?_⟩
        have go : ∀ n : Int, 0 < n → n ≤ 10 ^ 27 → ∀ xs, spTake [.ref p, .int n] (upd H1 l (.lst xs)) (fun v H' => ∃ i j : Int, V.int g = .int i ∧ v = .int j ∧ CMul i j ∧ Q (.int (i * j)) H') E0 := fun n n0 n1 xs =>
          ⟨p, n, rfl, hp1.same (sNew hl _), n0, by omega, fun e H3 e0 e1 hp3 s3 => fin e n H3 e0 e1 n1 hp3 ((s1.trans (SameX.of (sNew hl _))).trans s3)⟩
        rcases (show d = 3 ∨ d = 4 by omega) with rfl | rfl
        · exact ⟨_, rfl, _, _, rfl, rfl, l, _, 0, .int (10 ^ 12), rfl, rfl, SqL.of upd_same, rfl, go _ (by decide) (by decide) _⟩
        · exact ⟨_, rfl, _, _, rfl, rfl, l, _, 1, .int (10 ^ 27), rfl, rfl, SqL.of upd_same, rfl, go _ (by decide) (by decide) _⟩
end
end K82
set_option Elab.async false
set_option linter.all false
set_option maxRecDepth 100000
set_option maxHeartbeats 400000
namespace K82
open PySem PySem.Spec PyProof.Rows L2 GenW K82G ClX
/-! ### texts and what is read from them -/
theorem tl_comma : TL.tl (Str.ofString ",") = [44] := by decide +kernel
theorem tl_sp : TL.tl (Str.ofString " ") = [32] := by decide +kernel
theorem k_comma : (Str.ofString ",").cps.all (· < 256) = true := by decide +kernel
theorem k_sp : (Str.ofString " ").cps.all (· < 256) = true := by decide +kernel
theorem tI_free {n : Int} {c : Nat} (h : c ≠ 45) (h2 : c < 48 ∨ 57 < c) : c ∉ TL.tl (tI n) := by
  rw [tl_tI]
  intro m
  rcases List.mem_append.mp m with y | y
  · split at y
    · exact h (List.mem_singleton.mp y)
    · cases y
  · exact TL.numL_free h2 y
theorem empty_app (t : Str) : Str.empty ++ t = t := TL.ext_tl (by rw [TL.tl_append]; rfl)
theorem tPt_join (p : Int × Int) : tPt p = Txt.join "," [tI p.1, tI p.2] := by
  rw [TL.join_eq]
  unfold tPt
  rw [empty_app]
  rfl
theorem split_pt (p : Int × Int) : Txt.split (tPt p) "," = [tI p.1, tI p.2] := by
  rw [tPt_join]
  refine TL.split_join (s := 44) (S := []) tl_comma k_comma (by simp) fun q hq => ?_
  simp only [List.mem_cons, List.not_mem_nil, or_false] at hq
  rcases hq with rfl | rfl <;> exact tI_free (by decide) (by decide)
theorem tl_tPt (p : Int × Int) : TL.tl (tPt p) = TL.tl (tI p.1) ++ (44 :: TL.tl (tI p.2)) := by
  unfold tPt
  rw [empty_app, TL.tl_append, TL.tl_append, show TL.tl ("," : Str) = [44] from tl_comma, List.append_assoc]
  rfl
theorem tPt_free (p : Int × Int) : 32 ∉ TL.tl (tPt p) := by
  rw [tl_tPt]
  intro m
  rcases List.mem_append.mp m with y | y
  · exact tI_free (by decide) (by decide) y
  · rcases List.mem_cons.mp y with z | z
    · cases z
    · exact tI_free (by decide) (by decide) z
def SmP (p : Int × Int) : Prop := Small p.1 ∧ Small p.2
theorem SmP.bd {p : Int × Int} (h : SmP p) : BdP 1100 p := ⟨h.1.bd.mono (by decide), h.2.bd.mono (by decide)⟩
theorem readIs_of {t m : Str} {ns : List Int} (h : Txt.split t m = ns.map tI) (hs : ∀ n ∈ ns, Small n) : readIs t m = some ns := by
  refine allSome_some.mpr ?_
  rw [h, List.map_map]
  exact List.map_congr_left fun n hn => readI_of ⟨rfl, hs n hn⟩
theorem readIs_is {t m : Str} {ns : List Int} (h : readIs t m = some ns) : Txt.split t m = ns.map tI ∧ ∀ n ∈ ns, Small n := by
  have e := allSome_some.mp h
  revert e
  generalize Txt.split t m = xs
  clear h
  induction xs generalizing ns with
  | nil =>
    intro e
    cases ns with
    | nil => exact ⟨rfl, fun n hn => by cases hn⟩
    | cons a r => cases e
  | cons x r ih =>
    intro e
    cases ns with
    | nil => cases e
    | cons a s =>
      rw [List.map_cons, List.map_cons, List.cons.injEq] at e
      have q := readI_is e.1
      obtain ⟨i1, i2⟩ := ih e.2
      refine ⟨by rw [List.map_cons, i1, q.1], fun n hn => ?_⟩
      rcases List.mem_cons.mp hn with rfl | z
      · exact q.2
      · exact i2 n z
theorem readPt_of {p : Int × Int} (h : SmP p) : readPt (tPt p) = some p := by
  have e : readIs (tPt p) "," = some [p.1, p.2] := readIs_of (split_pt p) fun n hn => by
    simp only [List.mem_cons, List.not_mem_nil, or_false] at hn
    rcases hn with rfl | rfl
    · exact h.1
    · exact h.2
  unfold readPt
  rw [e]
theorem readPt_is {t : Str} {p : Int × Int} (h : readPt t = some p) : t = tPt p ∧ SmP p := by
  unfold readPt at h
  split at h
  · rename_i x y e
    cases h
    obtain ⟨e1, e2⟩ := readIs_is e
    have j := StrLaws.join_split t ","
    rw [e1] at j
    refine ⟨?_, e2 _ (by simp), e2 _ (by simp)⟩
    rw [tPt_join, TL.join_eq]
    exact j.symm
  · cases h
theorem split_pts {ps : List (Int × Int)} (h : ps ≠ []) : Txt.split (tPts ps) " " = ps.map tPt := by
  refine TL.split_join (s := 32) (S := []) tl_sp k_sp (fun e => h (List.map_eq_nil_iff.mp e)) fun q hq => ?_
  obtain ⟨p, _, rfl⟩ := List.mem_map.mp hq
  exact tPt_free p
theorem readPts_of {ps : List (Int × Int)} (h : ps ≠ []) (hs : ∀ p ∈ ps, SmP p) : readPts (tPts ps) = some ps := by
  refine allSome_some.mpr ?_
  rw [split_pts h, List.map_map]
  exact List.map_congr_left fun p hp => readPt_of (hs p hp)
theorem readPts_is {t : Str} {ps : List (Int × Int)} (h : readPts t = some ps) : Txt.split t " " = ps.map tPt ∧ t = tPts ps ∧ ps ≠ [] ∧ ∀ p ∈ ps, SmP p := by
  have e := allSome_some.mp h
  have main : Txt.split t " " = ps.map tPt ∧ ∀ p ∈ ps, SmP p := by
    revert e
    generalize Txt.split t " " = xs
    clear h
    induction xs generalizing ps with
    | nil =>
      intro e
      cases ps with
      | nil => exact ⟨rfl, fun n hn => by cases hn⟩
      | cons a r => cases e
    | cons x r ih =>
      intro e
      cases ps with
      | nil => cases e
      | cons a s =>
        rw [List.map_cons, List.map_cons, List.cons.injEq] at e
        have q := readPt_is e.1
        obtain ⟨i1, i2⟩ := ih e.2
        refine ⟨by rw [List.map_cons, i1, q.1], fun n hn => ?_⟩
        rcases List.mem_cons.mp hn with rfl | z
        · exact q.2
        · exact i2 n z
  refine ⟨main.1, ?_, fun z => ?_, main.2⟩
  · have j := StrLaws.join_split t " "
    rw [main.1] at j
    unfold tPts
    rw [TL.join_eq]
    exact j.symm
  · have l := PyProof.Rows.split_pos t " "
    rw [main.1, z] at l
    simp at l
theorem readPts_count {t : Str} {ps : List (Int × Int)} (h : readPts t = some ps) : ps.length ≤ t.length + 1 := by
  have c := split_count (t := t) (m := " ") rfl
  rw [(readPts_is h).1, List.length_map] at c
  exact c
/-! ### maps -/
theorem last_of (a : Nat) (r : List Nat) (u : Nat) : (a :: (r ++ [u])).getLast? = some u := by
  rw [← List.cons_append]
  exact List.getLast?_concat ..
theorem tl_mid {t : Str} {r : List Nat} (h : TL.tl t = 91 :: (r ++ [93])) : TL.tl (midS t) = r := by
  have l : t.length = r.length + 2 := by
    rw [TL.len_tl, h]
    simp
  have e1 : HT.sIx t.length 0 (some (1 : Int)) = 1 := (HT.sIx_nat _ _ 1).trans (Nat.min_eq_left (by omega))
  have e2 : HT.sIx t.length t.length (some (-1 : Int)) = r.length + 1 := by
    show (if (-1 : Int) < 0 then ((-1 : Int) + (t.length : Int)).toNat else min (-1 : Int).toNat t.length) = _
    rw [if_pos (by decide), l]
    omega
  show ((t.cps.toList.drop (HT.sIx t.length 0 (some 1))).take (HT.sIx t.length t.length (some (-1)) - HT.sIx t.length 0 (some 1))) = r
  rw [e1, e2, show t.cps.toList = 91 :: (r ++ [93]) from h, List.drop_succ_cons, List.drop_zero, Nat.add_sub_cancel, List.take_left]
theorem tl_six (s : Six) : TL.tl (tSix s) = 91 :: (TL.tl (Txt.join " " (s.l.map tI)) ++ [93]) := by
  unfold tSix
  rw [TL.tl_append, TL.tl_append, show TL.tl ("[" : Str) = [91] by decide +kernel, show TL.tl ("]" : Str) = [93] by decide +kernel]
  rfl
theorem mid_six (s : Six) : midS (tSix s) = Txt.join " " (s.l.map tI) := TL.ext_tl (tl_mid (tl_six s))
theorem readSix_of {s : Six} (h : ∀ n ∈ s.l, Small n) : readSix (tSix s) = some s := by
  have e : readIs (midS (tSix s)) " " = some s.l := by
    refine readIs_of ?_ h
    rw [mid_six]
    refine TL.split_join (s := 32) (S := []) tl_sp k_sp (by simp [Six.l]) fun q hq => ?_
    obtain ⟨n, _, rfl⟩ := List.mem_map.mp hq
    exact tI_free (by decide) (by decide)
  unfold readSix
  rw [if_pos ⟨by rw [tl_six]; rfl, by rw [tl_six]; exact last_of _ _ _⟩, e]
  rfl
theorem readSix_is {t : Str} {s : Six} (h : readSix t = some s) : t = tSix s ∧ ∀ n ∈ s.l, Small n := by
  unfold readSix at h
  split at h
  · rename_i hc
    split at h
    · rename_i a b c d e g q
      cases h
      obtain ⟨e1, e2⟩ := readIs_is q
      refine ⟨?_, e2⟩
      have j := StrLaws.join_split (midS t) " "
      rw [e1] at j
      obtain ⟨r, er⟩ : ∃ r, TL.tl t = 91 :: (r ++ [93]) := by
        cases z : TL.tl t with
        | nil =>
          rw [z] at hc
          cases hc.1
        | cons x y =>
          rw [z] at hc
          obtain rfl : x = 91 := Option.some.inj hc.1
          rcases List.eq_nil_or_concat y with rfl | ⟨r, u, rfl⟩
          · cases hc.2
          · rw [List.concat_eq_append, last_of] at hc
            obtain rfl : u = 93 := Option.some.inj hc.2
            exact ⟨r, by rw [List.concat_eq_append]⟩
      refine TL.ext_tl ?_
      rw [tl_six, er, TL.join_eq]
      have m := tl_mid er
      rw [← m, ← j]
      rfl
    · cases h
  · cases h
/-! ### sorted texts -/
theorem rising_le : ∀ {l : List Str} {x : Str}, risingS x l = true → ∀ y ∈ l, x.cps.toList ≤ y.cps.toList
  | [], _, _, _, h => by cases h
  | z :: r, x, h, y, hy => by
    have h' : (!ltCps z.cps.toList x.cps.toList && risingS z r) = true := h
    rw [Bool.and_eq_true, Bool.not_eq_true', ltCps_eq, decide_eq_false_iff_not] at h'
    have le1 : x.cps.toList ≤ z.cps.toList := h'.1
    rcases List.mem_cons.mp hy with rfl | q
    · exact le1
    · exact List.le_trans le1 (rising_le h'.2 y q)
theorem rising_pw : ∀ {l : List Str} {x : Str}, risingS x l = true → (x :: l).Pairwise fun a b => a.cps.toList ≤ b.cps.toList
  | [], _, _ => List.pairwise_singleton _ _
  | z :: r, x, h => by
    have h' : (!ltCps z.cps.toList x.cps.toList && risingS z r) = true := h
    rw [Bool.and_eq_true] at h'
    exact List.pairwise_cons.mpr ⟨rising_le h, rising_pw h'.2⟩
theorem sorted_pw {l : List Str} (h : sortedS l = true) : l.Pairwise fun a b => a.cps.toList ≤ b.cps.toList := by
  cases l with
  | nil => exact .nil
  | cons x r => exact rising_pw h
theorem sorted_one {l m : List Str} (hl : sortedS l = true) (hm : sortedS m = true) (p : l.Perm m) : l = m := by
  refine List.Perm.eq_of_pairwise (le := fun a b : Str => a.cps.toList ≤ b.cps.toList) (fun a b _ _ h1 h2 => ?_) (sorted_pw hl) (sorted_pw hm) p
  exact TL.ext_tl (List.le_antisymm h1 h2)
end K82
set_option Elab.async false
set_option linter.all false
set_option maxRecDepth 100000
set_option maxHeartbeats 400000
namespace K82
open PySem PySem.Spec PyProof.Rows L2 GenW K82G ClX
/-! ### the two shapes of the law -/
def triI (f r : Int) : List (Int × Int) := [(f, 0), (f + r, 0), (f, 9)]
def quadI (f : Int) : List (Int × Int) := [(0, f), (40, f), (9, f + 9), (0, f + 40)]
theorem area3 (a b c : Int × Int) : areaI [a, b, c] = crossI a b + (crossI b c + crossI c a) := by
  simp [areaI, List.range_succ, edgeI]
theorem area4 (a b c d : Int × Int) : areaI [a, b, c, d] = crossI a b + (crossI b c + (crossI c d + crossI d a)) := by
  simp [areaI, List.range_succ, edgeI]
theorem turn3 (a b c : Int × Int) : turnAt [a, b, c] 0 = turnI c a b ∧ turnAt [a, b, c] 1 = turnI a b c ∧ turnAt [a, b, c] 2 = turnI b c a := by
  simp [turnAt]
theorem turn4 (a b c d : Int × Int) : turnAt [a, b, c, d] 0 = turnI d a b ∧ turnAt [a, b, c, d] 1 = turnI a b c ∧ turnAt [a, b, c, d] 2 = turnI b c d ∧ turnAt [a, b, c, d] 3 = turnI c d a := by
  simp [turnAt]
theorem edge4 (a b c d : Int × Int) : edgeI [a, b, c, d] 0 = (a, b) ∧ edgeI [a, b, c, d] 1 = (b, c) ∧ edgeI [a, b, c, d] 2 = (c, d) ∧ edgeI [a, b, c, d] 3 = (d, a) := by
  simp [edgeI]
theorem tri_area {f r : Int} : areaI (triI f r) = 9 * r := by
  show areaI [(f, 0), (f + r, 0), (f, 9)] = _
  rw [area3]
  simp only [crossI]
  omega
theorem quad_area {f : Int} : areaI (quadI f) = 720 := by
  show areaI [(0, f), (40, f), (9, f + 9), (0, f + 40)] = _
  rw [area4]
  simp only [crossI]
  omega
theorem lt_pair (p q : Int × Int) : PySem.W.DatumOrd.lt p q = true ↔ p.1 < q.1 ∨ (p.1 = q.1 ∧ p.2 < q.2) := by
  show (if p.1 = q.1 then decide (p.2 < q.2) else decide (p.1 < q.1)) = true ↔ _
  by_cases h : p.1 = q.1
  · rw [if_pos h, decide_eq_true_eq]
    omega
  · rw [if_neg h, decide_eq_true_eq]
    omega
theorem tri_ord {f r : Int} (h : 1 ≤ r) : ordI (triI f r) = triI f r := if_pos (by rw [tri_area]; omega)
theorem quad_ord {f : Int} : ordI (quadI f) = quadI f := if_pos (by rw [quad_area]; omega)
theorem first_head {p : Int × Int} {ps : List (Int × Int)} (h : ∀ q ∈ ps, PySem.W.DatumOrd.lt q p = false) : firstIx (p :: ps) = 0 := by
  have e : minP (p :: ps) = p := by
    show PySem.W.minOf p ps = p
    unfold PySem.W.minOf
    induction ps with
    | nil => rfl
    | cons q r ih =>
      rw [List.foldl_cons, if_neg (by rw [h q List.mem_cons_self]; decide)]
      exact ih fun x hx => h x (List.mem_cons_of_mem _ hx)
  unfold firstIx
  rw [e]
  simp
theorem not_lt_pair {p q : Int × Int} (h : p.1 < q.1 ∨ (p.1 = q.1 ∧ p.2 < q.2)) : PySem.W.DatumOrd.lt q p = false := by
  rw [Bool.eq_false_iff]
  intro z
  rcases (lt_pair q p).mp z with y | y <;> omega
theorem arr_of {ps : List (Int × Int)} (h1 : ordI ps = ps) (h2 : firstIx ps = 0) : arrI ps = ps := by
  unfold arrI
  rw [h1, h2]
  simp
theorem tri_arr {f r : Int} (h : 1 ≤ r) : arrI (triI f r) = triI f r := arr_of (tri_ord h) (first_head fun q hq => by
  simp only [List.mem_cons, List.not_mem_nil, or_false] at hq
  rcases hq with rfl | rfl
  · exact not_lt_pair (.inl (by show f < f + r; omega))
  · exact not_lt_pair (.inr ⟨rfl, by show (0 : Int) < 9; decide⟩))
theorem quad_arr {f : Int} : arrI (quadI f) = quadI f := arr_of quad_ord (first_head fun q hq => by
  simp only [List.mem_cons, List.not_mem_nil, or_false] at hq
  rcases hq with rfl | rfl | rfl
  · exact not_lt_pair (.inl (by show (0 : Int) < 40; decide))
  · exact not_lt_pair (.inl (by show (0 : Int) < 9; decide))
  · exact not_lt_pair (.inr ⟨rfl, by show f < f + 40; omega⟩))
theorem turn_eq (a b c : Int × Int) : turnI a b c = (b.1 - a.1) * (c.2 - b.2) - (b.2 - a.2) * (c.1 - b.1) := rfl
theorem tri_turn {f r : Int} : ∀ i, i < 3 → turnAt (triI f r) i = 9 * r
  | 0, _ => by
    rw [show turnAt (triI f r) 0 = turnI (f, 9) (f, 0) (f + r, 0) from (turn3 _ _ _).1, turn_eq]
    simp only
    omega
  | 1, _ => by
    rw [show turnAt (triI f r) 1 = turnI (f, 0) (f + r, 0) (f, 9) from (turn3 _ _ _).2.1, turn_eq]
    simp only
    omega
  | 2, _ => by
    rw [show turnAt (triI f r) 2 = turnI (f + r, 0) (f, 9) (f, 0) from (turn3 _ _ _).2.2, turn_eq]
    simp only
    omega
  | n + 3, h => absurd h (by omega)
theorem quad_t0 {f : Int} : turnAt (quadI f) 0 = 1600 := by
  rw [show turnAt (quadI f) 0 = turnI (0, f + 40) (0, f) (40, f) from (turn4 _ _ _ _).1, turn_eq]
  simp only
  omega
theorem quad_t1 {f : Int} : turnAt (quadI f) 1 = 360 := by
  rw [show turnAt (quadI f) 1 = turnI (0, f) (40, f) (9, f + 9) from (turn4 _ _ _ _).2.1, turn_eq]
  simp only
  omega
theorem quad_t2 {f : Int} : turnAt (quadI f) 2 = -880 := by
  rw [show turnAt (quadI f) 2 = turnI (40, f) (9, f + 9) (0, f + 40) from (turn4 _ _ _ _).2.2.1, turn_eq]
  simp only
  omega
theorem quad_t3 {f : Int} : turnAt (quadI f) 3 = 360 := by
  rw [show turnAt (quadI f) 3 = turnI (9, f + 9) (0, f + 40) (0, f) from (turn4 _ _ _ _).2.2.2, turn_eq]
  simp only
  omega
theorem tri_reflex {f r : Int} (h : 1 ≤ r) : reflexI (triI f r) = none := by
  unfold reflexI
  rw [List.find?_eq_none]
  intro i hi
  have hi' : i < 3 := List.mem_range.mp hi
  rw [tri_turn i hi']
  simp
  omega
theorem quad_reflex {f : Int} : reflexI (quadI f) = some 2 := by
  refine find_range (n := 4) (by decide) (by rw [quad_t2]; rfl) fun j hj => ?_
  match j, hj with
  | 0, _ => rw [quad_t0]; rfl
  | 1, _ => rw [quad_t1]; rfl
  | n + 2, h => omega
theorem tri_ok {f r : Int} (h : 1 ≤ r) : OkPoly (triI f r) := by
  refine ⟨⟨by show 3 ≤ 3; decide, by show 3 ≤ 60; decide⟩, fun i hi => ?_, fun i j hi h2 hj => ?_⟩
  · rw [tri_turn i hi]
    omega
  · have hj3 : j < 3 := hj
    obtain rfl : i = 0 := by omega
    obtain rfl : j = 2 := by omega
    exact fun z => z.1 (by show (2 + 1) % 3 = 0; decide)
theorem common_no {e g : (Int × Int) × (Int × Int)} {t1 t2 t3 t4 : Int} (h1 : turnI e.1 e.2 g.1 = t1) (h2 : turnI e.1 e.2 g.2 = t2) (h3 : turnI g.1 g.2 e.1 = t3) (h4 : turnI g.1 g.2 e.2 = t4)
    (n1 : t1 ≠ 0) (n2 : t2 ≠ 0) (n3 : t3 ≠ 0) (n4 : t4 ≠ 0) (nx : ¬ (t1 * t2 < 0 ∧ t3 * t4 < 0)) : commonI e g = false := by
  unfold commonI
  rw [h1, h2, h3, h4, if_neg nx]
  unfold onI
  rw [h1, h2, h3, h4]
  simp [n1, n2, n3, n4]
theorem quad_ok {f : Int} : OkPoly (quadI f) := by
  refine ⟨⟨by show 3 ≤ 4; decide, by show 4 ≤ 60; decide⟩, fun i hi => ?_, fun i j hi h2 hj => ?_⟩
  · have hi' : i < 4 := hi
    match i, hi' with
    | 0, _ => rw [quad_t0]; decide
    | 1, _ => rw [quad_t1]; decide
    | 2, _ => rw [quad_t2]; decide
    | 3, _ => rw [quad_t3]; decide
    | n + 4, h => omega
  · have hj4 : j < 4 := hj
    rcases (show (i = 0 ∧ j = 2) ∨ (i = 0 ∧ j = 3) ∨ (i = 1 ∧ j = 3) by omega) with ⟨rfl, rfl⟩ | ⟨rfl, rfl⟩ | ⟨rfl, rfl⟩
    · intro z
      have e : commonI (edgeI (quadI f) 0) (edgeI (quadI f) 2) = false := by
        rw [show edgeI (quadI f) 0 = ((0, f), (40, f)) from (edge4 _ _ _ _).1, show edgeI (quadI f) 2 = ((9, f + 9), (0, f + 40)) from (edge4 _ _ _ _).2.2.1]
        refine common_no (t1 := 360) (t2 := 1600) (t3 := 360) (t4 := -880) ?_ ?_ ?_ ?_ (by decide) (by decide) (by decide) (by decide) (by decide) <;> rw [turn_eq] <;> simp only <;> omega
      exact absurd (e.symm.trans z.2) (by decide)
    · exact fun z => z.1 (by show (3 + 1) % 4 = 0; decide)
    · intro z
      have e : commonI (edgeI (quadI f) 1) (edgeI (quadI f) 3) = false := by
        rw [show edgeI (quadI f) 1 = ((40, f), (9, f + 9)) from (edge4 _ _ _ _).2.1, show edgeI (quadI f) 3 = ((0, f + 40), (0, f)) from (edge4 _ _ _ _).2.2.2]
        refine common_no (t1 := -880) (t2 := 360) (t3 := 1600) (t4 := 360) ?_ ?_ ?_ ?_ (by decide) (by decide) (by decide) (by decide) (by decide) <;> rw [turn_eq] <;> simp only <;> omega
      exact absurd (e.symm.trans z.2) (by decide)
theorem tri_to {f r : Int} (h : 1 ≤ r) : ToR (triI f r) true (triI f r) := ⟨tri_ok h, .inr ⟨by rw [tri_arr h, tri_reflex h], by rw [tri_arr h]; exact tri_ok h, by rw [tri_arr h, tri_arr h, tri_reflex h], rfl, by rw [tri_arr h, tri_arr h]⟩⟩
theorem quad_to {f : Int} : ToR (quadI f) false (quadI f) := ⟨quad_ok, .inl ⟨by rw [quad_arr, quad_reflex]; simp, rfl, quad_arr.symm⟩⟩
theorem tri_is {f r : Int} (h : 1 ≤ r) {cv : Bool} {ks : List (Int × Int)} (t : ToR (triI f r) cv ks) : cv = true ∧ ks = triI f r := by
  rcases t.2 with ⟨n, _⟩ | ⟨_, _, _, c, k⟩
  · exact absurd (by rw [tri_arr h, tri_reflex h]) n
  · exact ⟨c, by rw [k, tri_arr h, tri_arr h]⟩
theorem quad_is {f : Int} {cv : Bool} {ks : List (Int × Int)} (t : ToR (quadI f) cv ks) : cv = false ∧ ks = quadI f := by
  rcases t.2 with ⟨_, c, k⟩ | ⟨n, _⟩
  · exact ⟨c, by rw [k, quad_arr]⟩
  · rw [quad_arr, quad_reflex] at n
    cases n
/-! ### what is kept is a turn of what was given -/
theorem ord_perm (ps : List (Int × Int)) : (ordI ps).Perm ps := by
  unfold ordI
  split
  · exact .refl _
  · exact ps.reverse_perm
theorem arr_perm (ps : List (Int × Int)) : (arrI ps).Perm ps := by
  unfold arrI
  refine List.perm_append_comm.trans ?_
  rw [List.take_append_drop]
  exact ord_perm ps
theorem to_perm {ps ks : List (Int × Int)} {cv : Bool} (t : ToR ps cv ks) : ks.Perm ps := by
  rcases t.2 with ⟨_, _, k⟩ | ⟨_, _, _, _, k⟩
  · rw [k]
    exact arr_perm ps
  · rw [k]
    exact (arr_perm _).trans (arr_perm ps)
theorem to_len {ps ks : List (Int × Int)} {cv : Bool} (t : ToR ps cv ks) : 3 ≤ ks.length ∧ ks.length ≤ 60 := by
  rw [(to_perm t).length_eq]
  exact t.1.1
end K82
set_option Elab.async false
set_option linter.all false
set_option maxRecDepth 100000
set_option maxHeartbeats 400000
namespace K82
open PySem PySem.Spec PyProof.Rows L2 GenW K82G ClX
/-! ### a value of one of the five kinds -/
inductive Dv where
  | i (n : Int)
  | pt (q : Int × Int)
  | ps (l : List (Int × Int))
  | poly (cv : Bool) (ks : List (Int × Int))
  | map (s : Six)
def Dv.kind : Dv → Int
  | .i _ => 0
  | .pt _ => 1
  | .ps _ => 2
  | .poly _ _ => 3
  | .map _ => 4
def Dv.text : Dv → Str
  | .i n => tI n
  | .pt p => tPt p
  | .ps l => tPts l
  | .poly _ ks => tPts ks
  | .map s => tSix s
def Dv.fit : Dv → Prop
  | .i n => Bd 1100 n
  | .pt p => BdP 1100 p
  | .ps l => BdL 1100 l ∧ l ≠ [] ∧ l.length ≤ 4000
  | .poly _ ks => BdL 1100 ks ∧ ks ≠ [] ∧ ks.length ≤ 4000
  | .map s => s.bd6 1100
def Dv.At (A : Cl) (H : Hp) : Dv → V → Prop
  | .i n, v => v = .int n
  | .pt p, v => PtAt H p v
  | .ps l, v => ∃ (c : Addr) (us : List V), v = .ref c ∧ H c = some (.lst us) ∧ Pts H l us
  | .poly cv ks, v => PolyAt A H cv ks v
  | .map s, v => MapAt A H s v
def Rds (k : Int) (t : Str) : Dv → Prop
  | .i n => k = 0 ∧ IsI t n
  | .pt p => k = 1 ∧ readPt t = some p
  | .ps l => k = 2 ∧ readPts t = some l
  | .poly cv ks => k = 3 ∧ ∃ l, readPts t = some l ∧ ToR l cv ks
  | .map s => k = 4 ∧ readSix t = some s ∧ s.ok
theorem five {k : Int} (h0 : 0 ≤ k) (h1 : k < 5) : k = 0 ∨ k = 1 ∨ k = 2 ∨ k = 3 ∨ k = 4 := by omega
theorem rds_kind {k : Int} {t : Str} {d : Dv} (h : Rds k t d) : d.kind = k := by
  cases d with
  | i n => exact h.1.symm
  | pt p => exact h.1.symm
  | ps l => exact h.1.symm
  | poly cv ks => exact h.1.symm
  | map s => exact h.1.symm
theorem Small.b11 {n : Int} (h : Small n) : Bd 1100 n := h.bd.mono (by decide)
theorem rds_fit {k : Int} {t : Str} {d : Dv} (h : Rds k t d) (ht : t.length ≤ 2000) : d.fit := by
  cases d with
  | i n => exact h.2.2.b11
  | pt p => exact (readPt_is h.2).2.bd
  | ps l =>
    obtain ⟨_, _, ne, sm⟩ := readPts_is h.2
    have := readPts_count h.2
    exact ⟨fun p hp => (sm p hp).bd, ne, by omega⟩
  | poly cv ks =>
    obtain ⟨_, l, hl, to⟩ := h
    obtain ⟨_, _, ne, sm⟩ := readPts_is hl
    have := to_len to
    refine ⟨fun p hp => (sm p ((to_perm to).mem_iff.mp hp)).bd, fun z => ?_, by omega⟩
    rw [z] at this
    simp at this
  | map s => exact fun n hn => ((readSix_is h.2.1).2 n hn).b11
section
variable {P : Program} {w : World} {K : PySem.W.Frag} {mg : Str → Option Value} {base : Heap} {A : Cl}
/-! ### _law_format -/
def spLF (A : Cl) : Sp := fun vs H Q _ => ∃ (d : Dv) (v : V), vs = [.int d.kind, v] ∧ d.At A H v ∧ d.fit ∧ ∀ H', Same H H' → Q (.str d.text) H'
abbrev N68 : List Str := ["_law_kind", "_law_value"]
theorem sc68 : FnScope N68 ["_law_kind", "_law_value"] (defScope (topS 68)) := ⟨rfl, rfl, rfl, by decide +kernel, rfl, by decide +kernel, by decide +kernel⟩
theorem ok_lformat (D : Df K mg "_law_format" 68) (c0 : Ca P w K mg base CX0 3 "format_integer" spFmtI []) (c1 : Ca P w K mg base CX0 4 "format_point" spFmtP []) (c2 : Ca P w K mg base CX0 5 "format_points" spFmtPs []) (c3 : Ca P w K mg base CX0 6 "format_polygon" (spFmtPoly A) [])
    (c4 : Ca P w K mg base CX0 3 "format_map" (spFmtMap A) []) : Ca P w K mg base CX0 7 "_law_format" (spLF A) [] := by
  refine ca_of D sc68 (fun vs H Q E h => ?_) (fun _ _ _ _ _ _ us hl => match us, hl with | [_, _], _ => rfl) (fun f cdv Ar outer s H vs Q E hr h => ?_)
  · obtain ⟨d, v, rfl, _⟩ := h
    rfl
  · obtain ⟨d, v, rfl, hv, hf, q⟩ := h
    refine ⟨_, pss_cons (ps_if (pt_cmpR op_eq (pv 0) pe_int (nomark _)) (pss_one (ps_ret (pe_ca0 c0 hr (by decide) (pa_cons (pv 1) pa_nil)))) pss_nil)
      (pss_cons (ps_if (pt_cmpR op_eq (pv 0) pe_int (nomark _)) (pss_one (ps_ret (pe_ca0 c1 hr (by decide) (pa_cons (pv 1) pa_nil)))) pss_nil)
      (pss_cons (ps_if (pt_cmpR op_eq (pv 0) pe_int (nomark _)) (pss_one (ps_ret (pe_ca0 c2 hr (by decide) (pa_cons (pv 1) pa_nil)))) pss_nil)
      (pss_one (ps_ret (pe_ifExp (pt_cmpR op_eq (pv 0) pe_int (nomark _)) (pe_ca0 c3 hr (by decide) (pa_cons (pv 1) pa_nil)) (pe_ca0 c4 hr (by decide) (pa_cons (pv 1) pa_nil))))))), ?_⟩
    cases d with
    | i n =>
      refine ⟨_, rfl, rfl, _, rfl, iteT ?_⟩
      refine ⟨_, rfl, n, ?_, hf, q H (Same.refl H)⟩
      rw [show v = V.int n from hv]
      rfl
    | pt p =>
      refine ⟨_, rfl, rfl, _, rfl, iteF ⟨_, rfl, rfl, _, rfl, iteT ?_⟩⟩
      exact ⟨_, rfl, p, v, rfl, hv, hf, q⟩
    | ps l =>
      obtain ⟨c, us, rfl, hc, hp⟩ := hv
      refine ⟨_, rfl, rfl, _, rfl, iteF ⟨_, rfl, rfl, _, rfl, iteF ⟨_, rfl, rfl, _, rfl, iteT ?_⟩⟩⟩
      exact ⟨_, rfl, c, false, l, us, rfl, hc, hp, hf.1, hf.2.1, hf.2.2, q⟩
    | poly cv ks =>
      refine ⟨_, rfl, rfl, _, rfl, iteF ⟨_, rfl, rfl, _, rfl, iteF ⟨_, rfl, rfl, _, rfl, iteF ⟨_, rfl, rfl, _, rfl, iteT ?_⟩⟩⟩⟩
      exact ⟨_, rfl, cv, ks, v, rfl, hv, hf.1, hf.2.1, hf.2.2, q⟩
    | map s =>
      refine ⟨_, rfl, rfl, _, rfl, iteF ⟨_, rfl, rfl, _, rfl, iteF ⟨_, rfl, rfl, _, rfl, iteF ⟨_, rfl, rfl, _, rfl, iteF ?_⟩⟩⟩⟩
      exact ⟨_, rfl, s, v, rfl, hv, hf, q⟩
/-! ### _law_parse -/
def spLP (A : Cl) : Sp := fun vs H Q E => ∃ (k : Int) (t : Str), vs = [.int k, .str t] ∧ 0 ≤ k ∧ k < 5 ∧ t.length ≤ 2000 ∧ (∀ d, Rds k t d → ∀ H' v, Same H H' → d.At A H' v → Q v H') ∧ ((¬ ∃ d, Rds k t d) → ∀ d H', Same H H' → E (.ref A.it) d H')
abbrev N69 : List Str := ["_law_kind", "_law_text"]
theorem sc69 : FnScope N69 ["_law_kind", "_law_text"] (defScope (topS 69)) := ⟨rfl, rfl, rfl, by decide +kernel, rfl, by decide +kernel, by decide +kernel⟩
theorem ok_lparse (D : Df K mg "_law_parse" 69) (c0 : Ca P w K mg base (L2.CX P w) 6 "parse_integer" (spPInt A) []) (c1 : Ca P w K mg base (L2.CX P w) 6 "parse_point" (spPPt A) []) (c2 : Ca P w K mg base (L2.CX P w) 6 "parse_points" (spPPts A) [])
    (c3 : Ca P w K mg base (L2.CX P w) 11 "parse_polygon" (spPPoly A) []) (c4 : Ca P w K mg base (L2.CX P w) 6 "parse_map" (spPMap A) []) : Ca P w K mg base (L2.CX P w) 12 "_law_parse" (spLP A) [] := by
  refine ca_of D sc69 (fun vs H Q E h => ?_) (fun _ _ _ _ _ _ us hl => match us, hl with | [_, _], _ => rfl) (fun f cdv Ar outer s H vs Q E hr h => ?_)
  · obtain ⟨k, t, rfl, _⟩ := h
    rfl
  · obtain ⟨k, t, rfl, k0, k5, hl, ok, ko⟩ := h
    have tk : L2.Takes (cxOf (L2.CX P w) P w K mg base N69 "_law_parse" (defScope (topS 69)) f cdv Ar outer s H E) (fun cls d _ H' => E cls d H') := L2.takes_of rfl rfl rfl rfl
    have ps' : Passes (L2.CX P w) (cxOf (L2.CX P w) P w K mg base N69 "_law_parse" (defScope (topS 69)) f cdv Ar outer s H E) E := L2.passes_call tk fun _ _ _ _ h => h
    refine ⟨_, pss_cons (ps_if (pt_cmpR op_eq (pv 0) pe_int (nomark _)) (pss_one (ps_ret (pe_ca c0 hr (by decide) ps' (pa_cons (pv 1) pa_nil)))) pss_nil)
      (pss_cons (ps_if (pt_cmpR op_eq (pv 0) pe_int (nomark _)) (pss_one (ps_ret (pe_ca c1 hr (by decide) ps' (pa_cons (pv 1) pa_nil)))) pss_nil)
      (pss_cons (ps_if (pt_cmpR op_eq (pv 0) pe_int (nomark _)) (pss_one (ps_ret (pe_ca c2 hr (by decide) ps' (pa_cons (pv 1) pa_nil)))) pss_nil)
      (pss_one (ps_ret (pe_ifExp (pt_cmpR op_eq (pv 0) pe_int (nomark _)) (pe_ca c3 hr (by decide) ps' (pa_cons (pv 1) pa_nil)) (pe_ca c4 hr (by decide) ps' (pa_cons (pv 1) pa_nil))))))), ?_⟩
    rcases five k0 k5 with rfl | rfl | rfl | rfl | rfl
    · refine ⟨_, rfl, rfl, _, rfl, iteT ?_⟩
      refine ⟨_, rfl, t, rfl, hl, fun n hn H' s1 => ok (.i n) ⟨rfl, hn⟩ H' _ s1 rfl, fun hn => ko ?_⟩
      rintro ⟨d, hd⟩
      cases d with
      | i n => exact hn ⟨n, hd.2⟩
      | pt p => exact absurd hd.1 (by decide)
      | ps l => exact absurd hd.1 (by decide)
      | poly cv ks => exact absurd hd.1 (by decide)
      | map s => exact absurd hd.1 (by decide)
    · refine ⟨_, rfl, rfl, _, rfl, iteF ⟨_, rfl, rfl, _, rfl, iteT ?_⟩⟩
      refine ⟨_, rfl, t, rfl, hl, fun p hp H' v s1 hv => ok (.pt p) ⟨rfl, hp⟩ H' _ s1 hv, fun hn => ko ?_⟩
      rintro ⟨d, hd⟩
      cases d with
      | i n => exact absurd hd.1 (by decide)
      | pt p => exact absurd (hn.symm.trans hd.2) (by simp)
      | ps l => exact absurd hd.1 (by decide)
      | poly cv ks => exact absurd hd.1 (by decide)
      | map s => exact absurd hd.1 (by decide)
    · refine ⟨_, rfl, rfl, _, rfl, iteF ⟨_, rfl, rfl, _, rfl, iteF ⟨_, rfl, rfl, _, rfl, iteT ?_⟩⟩⟩
      refine ⟨_, rfl, t, rfl, hl, fun l hp H' L ws s1 hL hw => ok (.ps l) ⟨rfl, hp⟩ H' _ s1 ⟨L, ws, rfl, hL, hw⟩, fun hn => ko ?_⟩
      rintro ⟨d, hd⟩
      cases d with
      | i n => exact absurd hd.1 (by decide)
      | pt p => exact absurd hd.1 (by decide)
      | ps l => exact absurd (hn.symm.trans hd.2) (by simp)
      | poly cv ks => exact absurd hd.1 (by decide)
      | map s => exact absurd hd.1 (by decide)
    · refine ⟨_, rfl, rfl, _, rfl, iteF ⟨_, rfl, rfl, _, rfl, iteF ⟨_, rfl, rfl, _, rfl, iteF ⟨_, rfl, rfl, _, rfl, iteT ?_⟩⟩⟩⟩
      refine ⟨_, rfl, t, rfl, hl, fun l cv ks hp to H' v s1 hv => ok (.poly cv ks) ⟨rfl, l, hp, to⟩ H' _ s1 hv, fun hn => ko ?_, fun l hp p hm => ((readPts_is hp).2.2.2 p hm).bd⟩
      rintro ⟨d, hd⟩
      cases d with
      | i n => exact absurd hd.1 (by decide)
      | pt p => exact absurd hd.1 (by decide)
      | ps l => exact absurd hd.1 (by decide)
      | poly cv ks =>
        obtain ⟨_, l, h1, h2⟩ := hd
        exact hn ⟨l, cv, ks, h1, h2⟩
      | map s => exact absurd hd.1 (by decide)
    · refine ⟨_, rfl, rfl, _, rfl, iteF ⟨_, rfl, rfl, _, rfl, iteF ⟨_, rfl, rfl, _, rfl, iteF ⟨_, rfl, rfl, _, rfl, iteF ?_⟩⟩⟩⟩
      refine ⟨_, rfl, t, rfl, hl, fun s hp hk H' v s1 hv => ok (.map s) ⟨rfl, hp, hk⟩ H' _ s1 hv, fun hn => ko ?_, fun s hp => ?_⟩
      · rintro ⟨d, hd⟩
        cases d with
        | i n => exact absurd hd.1 (by decide)
        | pt p => exact absurd hd.1 (by decide)
        | ps l => exact absurd hd.1 (by decide)
        | poly cv ks => exact absurd hd.1 (by decide)
        | map s => exact hn ⟨s, hd.2.1, hd.2.2⟩
      · have z := (readSix_is hp).2
        exact ⟨(z _ (by simp [Six.l])).b11, (z _ (by simp [Six.l])).b11, (z _ (by simp [Six.l])).b11, (z _ (by simp [Six.l])).b11⟩
/-! ### _law_bent -/
def spBent : Sp := fun vs H Q _ => ∃ (p : Addr) (t : Str), vs = [.ref p, .str t] ∧ PoolAt H p ∧ 0 < t.length ∧ t.length ≤ 900 ∧ ∀ (u : Str) (H' : Hp), u.length ≤ 2000 → PoolAt H' p → SameX p H H' → Q (.str u) H'
abbrev N70 : List Str := ["_law_pool_here", "_law_text", "_law_at", "_law_sign", "_law_some"]
theorem sc70 : FnScope N70 ["_law_pool_here", "_law_text"] (defScope (topS 70)) := ⟨rfl, rfl, rfl, by decide +kernel, rfl, by decide +kernel, by decide +kernel⟩
theorem small_line {n : Nat} (h : n ≤ 4000) : n ≤ sizeLine := by
  rw [sizeLine_eq]
  omega
theorem PoolAt.other {H : Hp} {p a : Addr} (h : PoolAt H p) {o : HO} (hn : H a = none) : PoolAt (upd H a o) p := h.same (sNew hn o)
theorem ok_bent (Fr : Free mg) (D : Df K mg "_law_bent" 70) (cT : Ca P w K mg base CX0 1 "_law_take" spTake []) : Ca P w K mg base CX0 2 "_law_bent" spBent [] := by
  refine ca_of D sc70 (fun vs H Q E h => ?_) (fun _ _ _ _ _ _ us hl => match us, hl with | [_, _], _ => rfl) (fun f cdv Ar outer s H vs Q E hr h => ?_)
  · obtain ⟨p, t, rfl, _⟩ := h
    rfl
  · obtain ⟨p, t, rfl, hp, t0, t9, q⟩ := h
    refine ⟨_, pss_cons (ps_par (i := 2) (j := 3) rfl sc70.nd rfl rfl (by decide) rfl rfl (pa_cons (pe_ca0 cT hr (by decide) (pa_cons (pv 0) (pa_cons (pe_callB call_len_str (by rfl) Fr.len (by decide +kernel) (pa_cons (pv 1) pa_nil)) pa_nil)))
        (pa_cons (pe_ix ix_str pe_str (pe_ca0 cT hr (by decide) (pa_cons (pv 0) (pa_cons pe_int pa_nil))) (fun _ _ => rfl)) pa_nil)) (by rfl))
      (pss_cons (ps_set (i := 4) sc70.nd rfl (Or.inl rfl) (pe_lst (pa_cons (pe_op op_add_str (pe_op op_add_str (pe_slice sl_str (pv 1) po_none (po_some (pv 2))) (pv 3)) (pe_slice sl_str (pv 1) (po_some (pe_op op_add (pv 2) pe_int)) po_none))
        (pa_cons (pe_op op_add_str (pe_op op_add_str (pe_slice sl_str (pv 1) po_none (po_some (pv 2))) (pv 3)) (pe_slice sl_str (pv 1) (po_some (pv 2)) po_none))
        (pa_cons (pe_op op_add_str (pe_slice sl_str (pv 1) po_none (po_some (pv 2))) (pe_slice sl_str (pv 1) (po_some (pe_op op_add (pv 2) pe_int)) po_none)) pa_nil)))))
      (pss_one (ps_ret (pe_ix ix_list (pv 4) (pe_ca0 cT hr (by decide) (pa_cons (pv 0) (pa_cons pe_int pa_nil))) (fun _ _ => rfl))))), ?_⟩
    have tl9 : t.length ≤ sizeLine := small_line (by omega)
    refine ⟨_, rfl, _, rfl, t, rfl, tl9, p, _, rfl, hp, by omega, by omega, fun d H1 d0 d1 hp1 s1 => ?_⟩
    refine ⟨_, rfl, p, _, rfl, hp1, by decide, by decide, fun e H2 e0 e1 hp2 s2 => ?_⟩
    have z16 : (Str.ofString "0123456789-, []x").cps.toList.length = 16 := by decide +kernel
    obtain ⟨c, hc⟩ : ∃ c, atI (Str.ofString "0123456789-, []x").cps.toList e = some c := by
      have hi : e.toNat < (Str.ofString "0123456789-, []x").cps.toList.length := by omega
      refine ⟨(Str.ofString "0123456789-, []x").cps.toList[e.toNat], ?_⟩
      unfold atI ixN
      rw [if_pos e0, if_pos (by omega)]
      exact List.getElem?_eq_getElem hi
    refine ⟨_, _, c, rfl, rfl, (by decide +kernel), hc, _, _, rfl, ?_⟩
    have L : ∀ lo hi, (cutS t lo hi).length ≤ t.length := fun lo hi => cutS_length t lo hi
    have l1 : (⟨#[c]⟩ : Str).length = 1 := rfl
    have p1 : ∀ lo hi, (cutS t lo hi).length + (⟨#[c]⟩ : Str).length ≤ 901 := fun lo hi => by
      have := L lo hi
      omega
    have p2 : ∀ a b lo hi, (cutS t a b ++ (⟨#[c]⟩ : Str)).length + (cutS t lo hi).length ≤ 1801 := fun a b lo hi => by
      have h1 := L a b
      have h2 := L lo hi
      rw [len_app]
      omega
    have p3 : ∀ a b lo hi, (cutS t a b).length + (cutS t lo hi).length ≤ 1801 := fun a b lo hi => by
      have h1 := L a b
      have h2 := L lo hi
      omega
    have le : ∀ {n m : Nat}, n ≤ m → m ≤ 4000 → n ≤ sizeLine := fun h k => small_line (Nat.le_trans h k)
    refine ⟨_, rfl, _, rfl, _, rfl, t, rfl, tl9, _, rfl, _, _, rfl, rfl, le (p1 _ _) (by decide), ?_⟩
    refine ⟨_, rfl, _, rfl, _, _, rfl, rfl, _, rfl, t, rfl, tl9, _, _, rfl, rfl, le (p2 _ _ _ _) (by decide), ?_⟩
    refine ⟨_, rfl, _, rfl, _, rfl, t, rfl, tl9, _, rfl, _, _, rfl, rfl, le (p1 _ _) (by decide), ?_⟩
    refine ⟨_, rfl, _, rfl, _, rfl, t, rfl, tl9, _, _, rfl, rfl, le (p2 _ _ _ _) (by decide), ?_⟩
    refine ⟨_, rfl, _, rfl, _, rfl, t, rfl, tl9, _, rfl, _, rfl, _, _, rfl, rfl, _, rfl, t, rfl, tl9, _, _, rfl, rfl, le (p3 _ _ _ _) (by decide), ?_⟩
    refine ⟨by show 3 ≤ sizeLine; decide, fun l hl => ?_⟩
    refine ⟨_, rfl, _, rfl, p, _, rfl, hp2.other hl, by decide, by decide, fun g H3 g0 g1 hp3 s3 => ?_⟩
    have lp : l ≠ p := fun y => by
      obtain ⟨a, b, z, _⟩ := hp2
      rw [y, z] at hl
      cases hl
    have hl3 := s3 l _ lp upd_same
    have S : SameX p H H3 := ((s1.trans s2).trans (SameX.of (sNew hl _))).trans s3
    rcases (show g = 0 ∨ g = 1 ∨ g = 2 by omega) with rfl | rfl | rfl
    · refine ⟨l, _, 0, _, rfl, rfl, SqL.of hl3, rfl, q _ H3 ?_ hp3 S⟩
      have h1 := p2 none (some d) (some (d + 1)) none
      rw [← len_app] at h1
      omega
    · refine ⟨l, _, 1, _, rfl, rfl, SqL.of hl3, rfl, q _ H3 ?_ hp3 S⟩
      have h1 := p2 none (some d) (some d) none
      rw [← len_app] at h1
      omega
    · refine ⟨l, _, 2, _, rfl, rfl, SqL.of hl3, rfl, q _ H3 ?_ hp3 S⟩
      have h1 := p3 none (some d) (some (d + 1)) none
      rw [← len_app] at h1
      omega
theorem tPts_len {ps : List (Int × Int)} {c n : Nat} (h : ∀ p ∈ ps, (tPt p).length ≤ c) (hn : ps.length ≤ n) : (tPts ps).length ≤ n * (c + 1) := by
  have s := sum_le (l := (ps.map tPt).map (·.length)) (k := c) fun x hx => by
    obtain ⟨y, hy, rfl⟩ := List.mem_map.mp hx
    obtain ⟨p, hp, rfl⟩ := List.mem_map.mp hy
    exact h p hp
  have j := join_len (Str.ofString " ") (ps.map tPt)
  rw [List.length_map, List.length_map] at s
  rw [List.length_map, show (Str.ofString " ").length = 1 from rfl, Nat.mul_one] at j
  have m := Nat.mul_le_mul_right (c + 1) hn
  rw [Nat.mul_succ] at m
  exact Nat.le_trans j (Nat.le_trans (Nat.add_le_add_right s _) m)
/-! ### _law_again -/
def spAgain : Sp := fun vs H Q _ => ∃ (k : Int) (t : Str), vs = [.int k, .str t] ∧ 0 ≤ k ∧ k < 5 ∧ t.length ≤ 2000 ∧ ∀ H', Same H H' → Q (.bl true) H'
abbrev N71 : List Str := ["_law_kind", "_law_text", "_law_value", "_law_shown"]
theorem sc71 : FnScope N71 ["_law_kind", "_law_text"] (defScope (topS 71)) := ⟨rfl, rfl, rfl, by decide +kernel, rfl, by decide +kernel, by decide +kernel⟩
theorem dp_strs {H : Hp} : ∀ ys : List Str, DpAll K H (ys.map V.str) (ys.map PyData.str)
  | [] => .nil
  | y :: r => .cons (.str y) (dp_strs r)
theorem tI_sign {n : Int} {c : Nat} (h : c ∈ TL.tl (tI n)) : c < 100 := by
  rw [tl_tI] at h
  rcases List.mem_append.mp h with y | y
  · split at y
    · have := List.mem_singleton.mp y
      omega
    · cases y
  · have := TL.numL_digits _ c y
    omega
theorem tPt_ok (p : Int × Int) : PyData.strOk (tPt p) = true := by
  unfold PyData.strOk
  rw [← Array.all_toList, List.all_eq_true]
  intro c hc
  refine decide_eq_true ?_
  have hc' : c ∈ TL.tl (tPt p) := hc
  rw [tl_tPt] at hc'
  rcases List.mem_append.mp hc' with y | y
  · have := tI_sign y
    omega
  · rcases List.mem_cons.mp y with z | z
    · omega
    · have := tI_sign z
      omega
theorem strs_lay {ys : List Str} (h : ∀ y ∈ ys, PyData.strOk y = true) : PyData.canLayAll0 (ys.map PyData.str) = true := by
  rw [PyProof.Rows.canLayAll_strs', List.all_eq_true]
  exact h
theorem strs_depth : ∀ ys : List Str, PyData.depthAll (ys.map PyData.str) ≤ 1
  | [] => by simp [PyData.depthAll]
  | y :: r => by
    have h1 := strs_depth r
    simp only [List.map_cons, PyData.depthAll, PyData.depth]
    omega
theorem strs_shaped {ys : List Str} (h : ∀ y ∈ ys, PyData.strOk y = true) : SeqAt.shaped (.list (ys.map PyData.str)) = true := by
  have h1 := strs_depth ys
  have h2 : PyData.depth (.list (ys.map PyData.str)) ≤ 64 := by
    simp only [PyData.depth]
    omega
  unfold SeqAt.shaped
  rw [decide_eq_true h2, Bool.and_true]
  simp only [PyData.canLay0]
  exact strs_lay h
theorem rds_text {k : Int} {t : Str} {d : Dv} (h : Rds k t d) (hk : k ≠ 3) : d.text = t := by
  cases d with
  | i n => exact h.2.1.symm
  | pt p => exact (readPt_is h.2).1.symm
  | ps l => exact (readPts_is h.2).2.1.symm
  | poly cv ks => exact absurd h.1 hk
  | map s => exact (readSix_is h.2.1).1.symm
theorem ok_again (Fr : Free mg) (T : OeT K mg "InvalidText" "InvalidText.__init__" 10 A.it ["part"]) (te : PySem.W.exmOne K (.ref A.it) (.ref A.it) = some true) (D : Df K mg "_law_again" 71) (cP : Ca P w K mg base (L2.CX P w) 12 "_law_parse" (spLP A) []) (cF : Ca P w K mg base CX0 7 "_law_format" (spLF A) []) :
    Ca P w K mg base CX0 13 "_law_again" spAgain [] := by
  refine ca_of D sc71 (fun vs H Q E h => ?_) (fun _ _ _ _ _ _ us hl => match us, hl with | [_, _], _ => rfl) (fun f cdv Ar outer s H vs Q E hr h => ?_)
  · obtain ⟨k, t, rfl, _⟩ := h
    rfl
  · obtain ⟨k, t, rfl, k0, k5, hl, q⟩ := h
    obtain ⟨fT, fdT, psT, dsT, FT, hmT, kpT, bT, dT⟩ := cP.ex
    cases dT
    refine ⟨_, pss_cons (ps_try_only (Wout := fun _ _ _ _ => False) rfl rfl (c := .ref A.it) (by exact ⟨rfl, by rfl, .inl T.nm⟩) takes0
        (fun W pn xe tk _ => pss_one (ps_set (i := 2) sc71.nd rfl (Or.inl rfl) (pe_callS FT hr (by rfl) hmT kpT bT (fun σ => L2.passAt tk σ) (pa_cons (pv 0) (pa_cons (pv 1) pa_nil)))))
        (fun a oe cls d pn _ _ => pss_one (ps_ret pe_bl)))
      (pss_cons (ps_set (i := 3) sc71.nd rfl (Or.inl rfl) (pe_ca0 cF hr (by decide) (pa_cons (pv 0) (pa_cons (pv 2) pa_nil))))
      (pss_cons (ps_if (pt_cmpR op_eq (pv 0) pe_int (nomark _)) (pss_one (ps_ret (pe_cmpR (op_eqD (room64 hr))
        (pe_callB cr_sortedS (by rfl) Fr.sorted (by decide +kernel) (pa_cons (pe_bm PySem.F.plainAttrs_str PySem.F.slot_str_split PySem.F.type_str_split mt_split (pv 3) (pa_cons pe_str pa_nil)) pa_nil))
        (pe_callB cr_sortedS (by rfl) Fr.sorted (by decide +kernel) (pa_cons (pe_bm PySem.F.plainAttrs_str PySem.F.slot_str_split PySem.F.type_str_split mt_split (pv 1) (pa_cons pe_str pa_nil)) pa_nil)) (nomark _)))) pss_nil)
      (pss_one (ps_ret (pe_cmpR op_eq (pv 3) (pv 1) (nomark _)))))), ?_⟩
    refine ⟨_, rfl, _, rfl, k, t, rfl, k0, k5, hl, fun d hd H1 v s1 hv => ?_, fun no d H1 s1 => ⟨true, te, fun _ a ha => q H1 s1, fun z => nomatch z⟩⟩
    obtain rfl := rds_kind hd
    refine ⟨_, rfl, _, rfl, d, v, rfl, hv, rds_fit hd hl, fun H2 s2 => ?_⟩
    have S := s1.trans s2
    refine ⟨_, rfl, rfl, _, rfl, ?_⟩
    cases d with
    | poly cv ks =>
      obtain ⟨_, l, hp, to⟩ := hd
      refine iteT ?_
      obtain ⟨e1, e2, ne, _⟩ := readPts_is hp
      have kl := to_len to
      have kne : ks ≠ [] := fun z => by
        rw [z] at kl
        simp at kl
      have pm := to_perm to
      have ln := pm.length_eq
      have e3 : Txt.split (tPts ks) " " = ks.map tPt := split_pts kne
      have fitK := rds_fit (d := .poly cv ks) (k := 3) (t := t) ⟨rfl, l, hp, to⟩ hl
      have lk : (tPts ks).length + 2 ≤ sizeLine := by
        have z := tPts_len (n := 60) (fun p hp => tPt_len (fitK.1 p hp)) kl.2
        rw [sizeLine_eq]
        omega
      refine ⟨_, rfl, rfl, _, _, rfl, rfl, rfl, lk, fun p1 n1 => ?_⟩
      rw [show Txt.split (Dv.poly cv ks).text (Str.ofString " ") = ks.map tPt from e3]
      refine ⟨p1, _, rfl, SqL.of upd_same, by rw [List.length_map]; omega, fun ys p2 py sy n2 => ?_⟩
      refine ⟨_, rfl, rfl, _, _, rfl, rfl, rfl, by rw [sizeLine_eq]; omega, fun p3 n3 => ?_⟩
      rw [show Txt.split t (Str.ofString " ") = l.map tPt from e1]
      refine ⟨p3, _, rfl, SqL.of upd_same, by rw [List.length_map]; omega, fun zs p4 pz sz n4 => ?_⟩
      have ez : ys = zs := sorted_one sy sz ((py.trans (pm.map tPt)).trans pz.symm)
      subst ez
      have ok : ∀ y ∈ ys, PyData.strOk y = true := fun y hy => by
        obtain ⟨x, _, rfl⟩ := List.mem_map.mp (py.mem_iff.mp hy)
        exact tPt_ok x
      have n23 : p2 ≠ p3 := fun z => by rw [← z, upd_same] at n3; cases n3
      have n24 : p2 ≠ p4 := fun z => by rw [← z, upd_ne n23, upd_same] at n4; cases n4
      refine ⟨_, _, .lst (SqL.of ((upd_ne n24).trans ((upd_ne n23).trans upd_same))) (dp_strs ys), .lst (SqL.of upd_same) (dp_strs ys), strs_shaped ok, strs_shaped ok, ?_⟩
      rw [SeqAt.eqv_refl _ (show PyData.canLay0 (.list (ys.map PyData.str)) = true by simp only [PyData.canLay0]; exact strs_lay ok)]
      exact q _ ((((S.trans (sNew n1 _)).trans (sNew n2 _)).trans (sNew n3 _)).trans (sNew n4 _))
    | i n =>
      refine iteF ⟨_, rfl, _, rfl, rfl, ?_⟩
      rw [rds_text hd (show (0 : Int) ≠ 3 by decide), decide_eq_true rfl]
      exact q _ S
    | pt p =>
      refine iteF ⟨_, rfl, _, rfl, rfl, ?_⟩
      rw [rds_text hd (show (1 : Int) ≠ 3 by decide), decide_eq_true rfl]
      exact q _ S
    | ps l =>
      refine iteF ⟨_, rfl, _, rfl, rfl, ?_⟩
      rw [rds_text hd (show (2 : Int) ≠ 3 by decide), decide_eq_true rfl]
      exact q _ S
    | map s =>
      refine iteF ⟨_, rfl, _, rfl, rfl, ?_⟩
      rw [rds_text hd (show (4 : Int) ≠ 3 by decide), decide_eq_true rfl]
      exact q _ S
end
end K82
set_option Elab.async false
set_option linter.all false
set_option maxRecDepth 100000
set_option maxHeartbeats 400000
set_option exponentiation.threshold 2000
namespace K82
open PySem PySem.Spec PyProof.Rows L2 GenW K82G ClX
/-! ### the law's own values -/
def Sm2 (n : Int) : Prop := n.natAbs < 10 ^ 28
theorem Sm.two {n : Int} (h : Sm n) : Sm2 n := Nat.lt_trans h (by decide)
theorem Sm2.small {n : Int} (h : Sm2 n) : Small n := Nat.lt_of_lt_of_le h (Nat.pow_le_pow_right (by decide) (by decide))
theorem Sm2.len {n : Int} (h : Sm2 n) : (tI n).length ≤ 29 := by
  rw [TL.len_tl, tl_tI, List.length_append]
  have h1 : (TL.numL n.natAbs).length ≤ 28 := TL.numL_len (by decide) h
  have h2 : (if n < 0 then [45] else ([] : List Nat)).length ≤ 1 := by split <;> decide
  omega
def SmQ (p : Int × Int) : Prop := Sm2 p.1 ∧ Sm2 p.2
theorem SmQ.smP {p : Int × Int} (h : SmQ p) : SmP p := ⟨h.1.small, h.2.small⟩
theorem SmQ.len {p : Int × Int} (h : SmQ p) : (tPt p).length ≤ 59 := by
  have l1 := h.1.len
  have l2 := h.2.len
  have l0 : Str.empty.length = 0 := rfl
  have lc : (Str.ofString ",").length = 1 := rfl
  unfold tPt
  rw [len_app, len_app, len_app]
  omega
def Dv.sml : Dv → Prop
  | .i n => Sm2 n
  | .pt p => SmQ p
  | .ps l => l ≠ [] ∧ l.length ≤ 5 ∧ ∀ p ∈ l, SmQ p
  | .poly cv ks => (ks ≠ [] ∧ ks.length ≤ 5 ∧ ∀ p ∈ ks, SmQ p) ∧ ToR ks cv ks ∧ ∀ c2 k2, ToR ks c2 k2 → c2 = cv ∧ k2 = ks
  | .map s => (∀ n ∈ s.l, Sm2 n) ∧ s.ok
theorem sml_fit {d : Dv} (h : d.sml) : d.fit := by
  cases d with
  | i n => exact (Sm2.small h).b11
  | pt p => exact (SmQ.smP h).bd
  | ps l => exact ⟨fun p hp => (h.2.2 p hp).smP.bd, h.1, by have := h.2.1; omega⟩
  | poly cv ks => exact ⟨fun p hp => (h.1.2.2 p hp).smP.bd, h.1.1, by have := h.1.2.1; omega⟩
  | map s => exact fun n hn => (h.1 n hn).small.b11
theorem sml_rds {d : Dv} (h : d.sml) : Rds d.kind d.text d := by
  cases d with
  | i n => exact ⟨rfl, rfl, Sm2.small h⟩
  | pt p => exact ⟨rfl, readPt_of (SmQ.smP h)⟩
  | ps l => exact ⟨rfl, readPts_of h.1 fun p hp => (h.2.2 p hp).smP⟩
  | poly cv ks => exact ⟨rfl, ks, readPts_of h.1.1 fun p hp => (h.1.2.2 p hp).smP, h.2.1⟩
  | map s => exact ⟨rfl, readSix_of fun n hn => (h.1 n hn).small, h.2⟩
theorem sml_one {d e : Dv} (h : d.sml) (r : Rds d.kind d.text e) : e = d := by
  cases d with
  | i n =>
    cases e with
    | i m => exact congrArg Dv.i (tI_inj r.2.1).symm
    | pt p => exact absurd r.1 (of_decide_eq_false rfl)
    | ps l => exact absurd r.1 (of_decide_eq_false rfl)
    | poly cv ks => exact absurd r.1 (of_decide_eq_false rfl)
    | map s => exact absurd r.1 (of_decide_eq_false rfl)
  | pt p =>
    cases e with
    | i m => exact absurd r.1 (of_decide_eq_false rfl)
    | pt q => exact congrArg Dv.pt (Option.some.inj (r.2.symm.trans (readPt_of (SmQ.smP h))))
    | ps l => exact absurd r.1 (of_decide_eq_false rfl)
    | poly cv ks => exact absurd r.1 (of_decide_eq_false rfl)
    | map s => exact absurd r.1 (of_decide_eq_false rfl)
  | ps l =>
    cases e with
    | i m => exact absurd r.1 (of_decide_eq_false rfl)
    | pt q => exact absurd r.1 (of_decide_eq_false rfl)
    | ps m => exact congrArg Dv.ps (Option.some.inj (r.2.symm.trans (readPts_of h.1 fun p hp => (h.2.2 p hp).smP)))
    | poly cv ks => exact absurd r.1 (of_decide_eq_false rfl)
    | map s => exact absurd r.1 (of_decide_eq_false rfl)
  | poly cv ks =>
    cases e with
    | i m => exact absurd r.1 (of_decide_eq_false rfl)
    | pt q => exact absurd r.1 (of_decide_eq_false rfl)
    | ps m => exact absurd r.1 (of_decide_eq_false rfl)
    | poly c2 k2 =>
      obtain ⟨_, l, hl, to⟩ := r
      have el : l = ks := Option.some.inj (hl.symm.trans (readPts_of h.1.1 fun p hp => (h.1.2.2 p hp).smP))
      rw [el] at to
      obtain ⟨a, b⟩ := h.2.2 _ _ to
      rw [a, b]
    | map s => exact absurd r.1 (of_decide_eq_false rfl)
  | map s =>
    cases e with
    | i m => exact absurd r.1 (of_decide_eq_false rfl)
    | pt q => exact absurd r.1 (of_decide_eq_false rfl)
    | ps m => exact absurd r.1 (of_decide_eq_false rfl)
    | poly c2 k2 => exact absurd r.1 (of_decide_eq_false rfl)
    | map u => exact congrArg Dv.map (Option.some.inj (r.2.1.symm.trans (readSix_of fun n hn => (h.1 n hn).small)))
theorem pts_short2 {ps : List (Int × Int)} (h : ∀ p ∈ ps, SmQ p) (hn : ps.length ≤ 5) : (tPts ps).length ≤ 900 := Nat.le_trans (tPts_len (n := 5) (fun p hp => (h p hp).len) hn) (by decide)
theorem tI_pos (n : Int) : 0 < (tI n).length := by
  rw [TL.len_tl, tl_tI, List.length_append]
  have := List.length_pos_iff.mpr (TL.numL_ne n.natAbs)
  omega
theorem tPt_pos (p : Int × Int) : 0 < (tPt p).length := by
  unfold tPt
  rw [len_app]
  have := tI_pos p.2
  omega
theorem tPts_pos {ps : List (Int × Int)} (h : ps ≠ []) : 0 < (tPts ps).length := by
  cases ps with
  | nil => exact absurd rfl h
  | cons p r =>
    have q := join_part (y := " ") (xs := (p :: r).map tPt) (x := tPt p) (by simp)
    have := tPt_pos p
    unfold tPts
    rw [TL.join_eq]
    omega
theorem sml_len {d : Dv} (h : d.sml) : 0 < d.text.length ∧ d.text.length ≤ 900 := by
  cases d with
  | i n => exact ⟨tI_pos n, Nat.le_trans (Sm2.len h) (by decide)⟩
  | pt p => exact ⟨tPt_pos p, Nat.le_trans (SmQ.len h) (by decide)⟩
  | ps l => exact ⟨tPts_pos h.1, pts_short2 h.2.2 h.2.1⟩
  | poly cv ks => exact ⟨tPts_pos h.1.1, pts_short2 h.1.2.2 h.1.2.1⟩
  | map s =>
    have j := join_len (Str.ofString " ") (s.l.map tI)
    have sm := sum_le (l := (s.l.map tI).map (·.length)) (k := 29) fun x hx => by
      obtain ⟨y, hy, rfl⟩ := List.mem_map.mp hx
      obtain ⟨n, hn, rfl⟩ := List.mem_map.mp hy
      exact (h.1 n hn).len
    have l1 : ((s.l.map tI).map (·.length)).length = 6 := rfl
    have l2 : (s.l.map tI).length = 6 := rfl
    rw [l1] at sm
    rw [l2, show (Str.ofString " ").length = 1 from rfl] at j
    have e : (tSix s).length = 1 + (Txt.join (Str.ofString " ") (s.l.map tI)).length + 1 := by
      unfold tSix
      rw [len_app, len_app]
      rfl
    show 0 < (tSix s).length ∧ (tSix s).length ≤ 900
    rw [e]
    exact ⟨by omega, by omega⟩
/-! ### what is shown -/
def Dv.shown : Dv → Str
  | .i n => tI n
  | .pt p => (dPt p).shown
  | .ps l => (dPts l).shown
  | .poly cv ks => rPoly cv ks
  | .map s => rSix s
/-- the own __repr__s -/
structure Rpr (P : Program) (w : World) (K : PySem.W.Frag) (mg : Str → Option Value) (base : Heap) (A : Cl) : Prop where
  pg : ∃ f, PySem.W.findIn K (.ref A.pg) "__repr__" = some (some (.ref f)) ∧ PySem.W.isFn K (.ref f) = true ∧ FnG P w K mg base CX0 1 f (spPolyRep A false)
  cp : ∃ f, PySem.W.findIn K (.ref A.cp) "__repr__" = some (some (.ref f)) ∧ PySem.W.isFn K (.ref f) = true ∧ FnG P w K mg base CX0 1 f (spPolyRep A true)
  gm : ∃ f, PySem.W.findIn K (.ref A.gm) "__repr__" = some (some (.ref f)) ∧ PySem.W.isFn K (.ref f) = true ∧ FnG P w K mg base CX0 1 f (spMapRep A)
def rRepr (A : Cl) : List V → Hp → VK → Prop := fun xs H Q => ∃ (d : Dv) (v : V), xs = [v] ∧ d.At A H v ∧ d.sml ∧ ∀ H', Same H H' → Q (.str d.shown) H'
theorem call_repr_dv {X : Cx} {A : Cl} (R : Rpr X.prog X.w X.K X.mg X.base A) (hr : Room 2 X.A) (hg : X.A.guards = some []) : CallR X (.builtin "repr") (rRepr A) := by
  intro pins s σ H xs us Q I r h
  obtain ⟨d, v, rfl, hv, hf, q⟩ := h
  have hu : X.A.units + 70 < cLine := by
    have := hr.un
    omega
  have ft := sml_fit hf
  cases d with
  | i n => exact SkE.call_repr_int pins s σ H _ us Q I r ⟨n, by rw [show v = V.int n from hv], bd_log ft, q H (Same.refl H)⟩
  | pt p => exact call_repr_pt hg hu pins s σ H _ us Q I r ⟨p, v, rfl, hv, ft, q H (Same.refl H)⟩
  | ps l =>
    obtain ⟨c, ws, rfl, hc, hp⟩ := hv
    exact call_repr_pts hg hu pins s σ H _ us Q I r ⟨c, l, ws, rfl, hc, hp, ft.1, by have := hf.2.1; omega, q H (Same.refl H)⟩
  | poly cv ks =>
    have hv' := hv
    obtain ⟨a, dx, T, ws, rfl, ha, _⟩ := hv'
    have ln : ks.length ≤ 1000 := by
      have := hf.1.2.1
      omega
    cases cv with
    | true =>
      obtain ⟨f, h1, h2, F⟩ := R.cp
      exact call_repr_own h1 h2 F hr hg pins s σ H _ us Q I r ⟨a, dx, _, rfl, ha, ks, _, rfl, hv, ft.1, ln, fun H' s1 => ⟨_, rfl, q H' s1⟩⟩
    | false =>
      obtain ⟨f, h1, h2, F⟩ := R.pg
      exact call_repr_own h1 h2 F hr hg pins s σ H _ us Q I r ⟨a, dx, _, rfl, ha, ks, _, rfl, hv, ft.1, ln, fun H' s1 => ⟨_, rfl, q H' s1⟩⟩
  | map m =>
    have hv' := hv
    obtain ⟨a, dx, T, rfl, ha, _⟩ := hv'
    obtain ⟨f, h1, h2, F⟩ := R.gm
    exact call_repr_own h1 h2 F hr hg pins s σ H _ us Q I r ⟨a, dx, _, rfl, ha, m, _, rfl, hv, ft, fun H' s1 => ⟨_, rfl, q H' s1⟩⟩
/-! ### what stands keeps standing where the pool alone changes -/
theorem ne_pool {H : Hp} {p a : Addr} (hp : PoolAt H p) {u : HO} (ha : H a = some u) (hu : ∀ x y, u ≠ .lst [.int x, .int y]) : a ≠ p := fun z => by
  obtain ⟨x, y, e, _⟩ := hp
  rw [z, e] at ha
  exact hu x y (Option.some.inj ha).symm
theorem PtAt.keep {H H' : Hp} {p : Addr} {q : Int × Int} {v : V} (hp : PoolAt H p) (s : SameX p H H') (h : PtAt H q v) : PtAt H' q v := by
  obtain ⟨a, e, h⟩ := h
  exact ⟨a, e, s a _ (ne_pool hp h fun x y z => by cases z) h⟩
theorem Pts.keep {H H' : Hp} {p : Addr} {l : List (Int × Int)} {ws : List V} (hp : PoolAt H p) (s : SameX p H H') (h : Pts H l ws) : Pts H' l ws := ⟨h.len, fun i hi => (h.pt i hi).keep hp s⟩
theorem pts_noint {H : Hp} {l : List (Int × Int)} {ws : List V} (h : Pts H l ws) : ∀ x y, HO.lst ws ≠ .lst [.int x, .int y] := fun x y z => by
  have e : ws = [.int x, .int y] := HO.lst.inj z
  have ln := h.len
  rw [e] at ln
  have q := h.pt 0 (by rw [← ln]; exact Nat.succ_pos _)
  rw [e] at q
  obtain ⟨a, ea, _⟩ := q
  cases ea
theorem Dv.keep {A : Cl} {H H' : Hp} {p : Addr} (hp : PoolAt H p) (s : SameX p H H') : ∀ {d : Dv} {v : V}, d.At A H v → d.At A H' v
  | .i n, v, h => h
  | .pt q, v, h => PtAt.keep hp s h
  | .ps l, v, ⟨c, us, e, hc, hw⟩ => ⟨c, us, e, s c _ (ne_pool hp hc (pts_noint hw)) hc, hw.keep hp s⟩
  | .poly cv ks, v, ⟨a, dx, T, ws, e, ha, hT, hw⟩ => ⟨a, dx, T, ws, e, s a _ (ne_pool hp ha fun x y z => by cases z) ha, s T _ (ne_pool hp hT fun x y z => by cases z) hT, hw.keep hp s⟩
  | .map m, v, ⟨a, dx, T, e, ha, hT⟩ => ⟨a, dx, T, e, s a _ (ne_pool hp ha fun x y z => by cases z) ha, s T _ (ne_pool hp hT fun x y z => by cases z) hT⟩
/-! ### a point's display -/
theorem pa_weak {X : Cx} {es : List Expr} {t : TA} (h : PA X es t) : PA X es (fun σ H Q => ∃ C : List V → Hp → Prop, t σ H C ∧ ∀ xs H2, C xs H2 → Q xs H2) :=
  ⟨fun pos pins s σ H Q I ⟨C, q, z⟩ => thn (h.run pos pins s σ H C I q) fun us s1 ⟨xs, H1, I1, r, c⟩ => ⟨xs, H1, I1, r, z xs H1 c⟩⟩
theorem pe_pt {X : Cx} {a b : Expr} {t : TA} {kk : Nat} {pos : Pos} (h : PA X [a, b] t) : PE X (.Tuple [a, b] kk pos) (fun σ H Q => t σ H fun xs H2 => ∃ i j : Int, xs = [.int i, .int j] ∧ ∀ H' v, Same H2 H' → PtAt H' (i, j) v → Q v H') :=
  ⟨fun pins s σ H Q I q => (pe_tup (pa_weak h)).run pins s σ H Q I ⟨_, q, fun xs H2 ⟨i, j, e, z⟩ => ⟨by rw [e]; show 2 ≤ sizeLine; decide, fun p hp => by rw [e]; exact z _ _ (sNew hp _) ⟨p, rfl, upd_same⟩⟩⟩⟩
theorem passN {X : Cx} : Passes (L2N.CX X.prog X.w) X E0 := fun _ _ _ _ _ _ _ h => by
  obtain ⟨_, _, _, _, _, _, _, _, _, _, _, _, f⟩ := h
  exact f.elim
theorem passC {X : Cx} : Passes (L2.CX X.prog X.w) X E0 := fun _ _ _ _ _ _ _ h => by
  obtain ⟨_, _, _, _, _, _, _, _, _, _, _, _, f⟩ := h
  exact f.elim
/-! ### _law_point -/
section
variable {P : Program} {w : World} {K : PySem.W.Frag} {mg : Str → Option Value} {base : Heap} {A : Cl}
def spLPt : Sp := fun vs H Q _ => ∃ p : Addr, vs = [.ref p] ∧ PoolAt H p ∧ ∀ (q : Int × Int) (H' : Hp) (v : V), Sm q.1 → Sm q.2 → PoolAt H' p → SameX p H H' → PtAt H' q v → Q v H'
theorem sc66 : FnScope ["_law_pool_here"] ["_law_pool_here"] (defScope (topS 66)) := ⟨rfl, rfl, rfl, by decide +kernel, rfl, by decide +kernel, by decide +kernel⟩
theorem ok_lpt (D : Df K mg "_law_point" 66) (cN : Ca P w K mg base CX0 2 "_law_number" spNum []) : Ca P w K mg base CX0 3 "_law_point" spLPt [] := by
  refine ca_of D sc66 (fun vs H Q E h => ?_) (fun _ _ _ _ _ _ us hl => match us, hl with | [_], _ => rfl) (fun f cdv Ar outer s H vs Q E hr h => ?_)
  · obtain ⟨p, rfl, _⟩ := h
    rfl
  · obtain ⟨p, rfl, hp, q⟩ := h
    refine ⟨_, pss_one (ps_ret (pe_pt (pa_cons (pe_ca0 cN hr (by decide) (pa_cons (pv 0) pa_nil)) (pa_cons (pe_ca0 cN hr (by decide) (pa_cons (pv 0) pa_nil)) pa_nil)))), ?_⟩
    refine ⟨_, rfl, p, rfl, hp, fun n1 H1 b1 p1 s1 => ⟨_, rfl, p, rfl, p1, fun n2 H2 b2 p2 s2 => ⟨n1, n2, rfl, fun H3 v s3 h3 => ?_⟩⟩⟩
    exact q (n1, n2) H3 v b1 b2 (p2.same s3) ((s1.trans s2).trans (SameX.of s3)) h3
end
end K82
set_option Elab.async false
set_option linter.all false
set_option maxRecDepth 100000
set_option maxHeartbeats 1000000
set_option exponentiation.threshold 2000
namespace K82
open PySem PySem.Spec PyProof.Rows L2 GenW K82G ClX
/-! ### the law -/
theorem pts3 {H : Hp} {a b c : Int × Int} {u v z : V} (h1 : PtAt H a u) (h2 : PtAt H b v) (h3 : PtAt H c z) : Pts H [a, b, c] [u, v, z] := ⟨rfl, fun i hi => by
  have hi' : i < 3 := hi
  match i, hi' with
  | 0, _ => exact h1
  | 1, _ => exact h2
  | 2, _ => exact h3⟩
theorem pts4 {H : Hp} {a b c d : Int × Int} {u v z y : V} (h1 : PtAt H a u) (h2 : PtAt H b v) (h3 : PtAt H c z) (h4 : PtAt H d y) : Pts H [a, b, c, d] [u, v, z, y] := ⟨rfl, fun i hi => by
  have hi' : i < 4 := hi
  match i, hi' with
  | 0, _ => exact h1
  | 1, _ => exact h2
  | 2, _ => exact h3
  | 3, _ => exact h4⟩
theorem Pts.snoc {H : Hp} {l : List (Int × Int)} {ws : List V} {q : Int × Int} {v : V} (h : Pts H l ws) (hv : PtAt H q v) : Pts H (l ++ [q]) (ws ++ [v]) := by
  refine ⟨by rw [List.length_append, List.length_append, h.len]; rfl, fun i hi => ?_⟩
  rw [List.length_append, List.length_singleton] at hi
  rcases Nat.lt_succ_iff_lt_or_eq.mp hi with y | y
  · rw [List.getD_eq_getElem?_getD, List.getD_eq_getElem?_getD, List.getElem?_append_left y, List.getElem?_append_left (by rw [h.len]; exact y), ← List.getD_eq_getElem?_getD, ← List.getD_eq_getElem?_getD]
    exact h.pt i y
  · subst y
    rw [List.getD_eq_getElem?_getD, List.getD_eq_getElem?_getD, List.getElem?_append_right (Nat.le_refl _), List.getElem?_append_right (by rw [h.len]; exact Nat.le_refl _), h.len, Nat.sub_self]
    exact hv
theorem Sm2.b {n : Int} (h : Sm2 n) : Bd 1100 n := h.small.b11
theorem SmQ.bd {l : List (Int × Int)} (h : ∀ p ∈ l, SmQ p) : BdL 1100 l := fun p hp => (h p hp).smP.bd
theorem tri_sm {f r : Int} (hf : Sm f) (h1 : 1 ≤ r) (h2 : r ≤ 10 ^ 27) : (Dv.poly true (triI f r)).sml := by
  unfold Sm at hf
  refine ⟨⟨by simp [triI], by show 3 ≤ 5; decide, fun p hp => ?_⟩, tri_to h1, fun c2 k2 t => tri_is h1 t⟩
  simp only [triI, List.mem_cons, List.not_mem_nil, or_false] at hp
  rcases hp with rfl | rfl | rfl <;> refine ⟨?_, ?_⟩ <;> unfold Sm2 <;> simp only <;> omega
theorem quad_sm {f : Int} (hf : Sm f) : (Dv.poly false (quadI f)).sml := by
  unfold Sm at hf
  refine ⟨⟨by simp [quadI], by show 4 ≤ 5; decide, fun p hp => ?_⟩, quad_to, fun c2 k2 t => quad_is t⟩
  simp only [quadI, List.mem_cons, List.not_mem_nil, or_false] at hp
  rcases hp with rfl | rfl | rfl | rfl <;> refine ⟨?_, ?_⟩ <;> unfold Sm2 <;> simp only <;> omega
theorem six_sm {f r n : Int} (hf : Sm f) (h1 : 1 ≤ r) (h2 : r ≤ 10 ^ 27) (hn : Sm n) : (Dv.map ⟨1, r, 0, -1, f, n⟩).sml := by
  unfold Sm at hf hn
  refine ⟨fun x hx => ?_, ?_⟩
  · simp only [Six.l, List.mem_cons, List.not_mem_nil, or_false] at hx
    unfold Sm2
    rcases hx with rfl | rfl | rfl | rfl | rfl | rfl <;> omega
  · have e : Six.det ⟨1, r, 0, -1, f, n⟩ = -1 := by
      show 1 * -1 - r * 0 = -1
      omega
    unfold Six.ok
    rw [e]
    decide
section
variable {P : Program} {w : World} {K : PySem.W.Frag} {mg : Str → Option Value} {base : Heap} {A : Cl}
def spLaw (K : PySem.W.Frag) : Sp := fun vs H Q _ => ∃ (a : Addr) (ns : List Int), vs = [.ref a] ∧ SqL K H a (ns.map V.int) ∧ ∀ H', Q (.bl true) H'
abbrev N72 : List Str := ["_law_script", "_law_k", "_law_pool_here", "_law_far", "_law_rise", "_law_shapes", "_law_polygon", "_law_turn", "_law_values", "_law_kind", "_law_value", "_law_text", "_law_found"]
theorem sc72 : FnScope N72 ["_law_script"] (defScope (topS 72)) := ⟨rfl, rfl, rfl, by decide +kernel, rfl, by decide +kernel, by decide +kernel⟩
/-- all that the law leans on -/
structure LawF (P : Program) (w : World) (K : PySem.W.Frag) (mg : Str → Option Value) (base : Heap) (A : Cl) : Prop where
  fr : Free mg
  pool : Ca P w K mg base CX0 1 "_law_pool" (spPool K) []
  take : Ca P w K mg base CX0 1 "_law_take" spTake []
  num : Ca P w K mg base CX0 2 "_law_number" spNum []
  pt : Ca P w K mg base CX0 3 "_law_point" spLPt []
  fmt : Ca P w K mg base CX0 7 "_law_format" (spLF A) []
  parse : Ca P w K mg base (L2.CX P w) 12 "_law_parse" (spLP A) []
  bent : Ca P w K mg base CX0 2 "_law_bent" spBent []
  again : Ca P w K mg base CX0 13 "_law_again" spAgain []
  to : Ca P w K mg base (L2N.CX P w) 10 "to_polygon" (spTo A) []
  gm : MkC P w K mg base 3 "GridMap" A.gm (spGInit A)
  nc : mg "ConvexPolygon" = some (.ref A.cp)
  kt : Kit K A
  rp : Rpr P w K mg base A
/-- what stands when the values are made -/
structure Made (A : Cl) (a p L : Addr) (vs : List V) (H H' : Hp) : Prop where
  s : Same H H'
  pool : PoolAt H' p
  lst : H' L = some (.lst vs)
  len : vs.length ≤ 5
  at_ : ∀ (i : Nat) (x : V), vs[i]? = some x → ∃ d : Dv, d.At A H' x ∧ d.sml ∧ d.kind = (i : Int)
theorem ok_law (B : LawF P w K mg base A) {f : Addr} {fd : FuncData} (F : FunD K "law" "law" (defArgs (topS 72)) (defBody (topS 72)) (defScope (topS 72)) [] [] f fd) : FnG P w K mg base CX0 14 f (spLaw K) := by
  have Fr := B.fr
  refine fnG_of F sc72 (fun vs H Q E h => ?_) (F.bindsN fun _ _ _ _ _ _ us hl => match us, hl with | [_], _ => rfl) fun cdv Ar outer s H vs Q E hg hr h => ?_
  · obtain ⟨a, ns, rfl, _⟩ := h
    rfl
  · obtain ⟨a, ns, rfl, hs, q⟩ := h
    refine ⟨_, pss_cons (ps_for (passes_of rfl) rfl (pi_range1 (by rfl) Fr.range (pa_cons (pe_callB (call_max2 rfl) (by rfl) Fr.max (by decide +kernel) (pa_cons pe_int (pa_cons (pe_callB (call_min2 rfl) (by rfl) Fr.min (by decide +kernel) (pa_cons pe_int (pa_cons (pe_callB call_len_seq (by rfl) Fr.len (by decide +kernel) (pa_cons (pv 0) pa_nil)) pa_nil))) pa_nil))) pa_nil)) (pg_name (i := 1) sc72.nd rfl (Or.inl rfl))
        (pss_cons (ps_set (i := 2) sc72.nd rfl (Or.inr rfl) (pe_ca0 B.pool hr (by decide) (pa_cons (pv 0) (pa_cons (pv 1) pa_nil))))
        (C8.pss_cut (ps_par (i := 3) (j := 4) rfl sc72.nd rfl rfl (by decide) rfl rfl (pa_cons (pe_ca0 B.num hr (by decide) (pa_cons (pv 2) pa_nil)) (pa_cons (pe_op op_add pe_int (pe_callB call_abs (by rfl) Fr.abs (by decide +kernel) (pa_cons (pe_ca0 B.num hr (by decide) (pa_cons (pv 2) pa_nil)) pa_nil))) pa_nil)) (by rfl))
        (pss_cons (ps_set (i := 5) sc72.nd rfl (Or.inl rfl) (pe_lst (pa_cons (pe_lst (pa_cons (pe_pt (pa_cons (pv 3) (pa_cons pe_int pa_nil))) (pa_cons (pe_pt (pa_cons (pe_op op_add (pv 3) (pv 4)) (pa_cons pe_int pa_nil))) (pa_cons (pe_pt (pa_cons (pv 3) (pa_cons pe_int pa_nil))) pa_nil))))
          (pa_cons (pe_lst (pa_cons (pe_pt (pa_cons pe_int (pa_cons (pv 3) pa_nil))) (pa_cons (pe_pt (pa_cons pe_int (pa_cons (pv 3) pa_nil))) (pa_cons (pe_pt (pa_cons pe_int (pa_cons (pe_op op_add (pv 3) pe_int) pa_nil))) (pa_cons (pe_pt (pa_cons pe_int (pa_cons (pe_op op_add (pv 3) pe_int) pa_nil))) pa_nil))))) pa_nil))))
        (C8.pss_cut (ps_set (i := 6) sc72.nd rfl (Or.inl rfl) (pe_ca B.to hr (by decide) passN (pa_cons (pe_ix ix_list (pv 5) (pe_ca0 B.take hr (by decide) (pa_cons (pv 2) (pa_cons pe_int pa_nil))) (fun _ _ => rfl)) pa_nil)))
        (pss_cons (ps_set (i := 8) sc72.nd rfl (Or.inl rfl) (pe_lst (pa_cons (pv 3) (pa_cons (pe_ca0 B.pt hr (by decide) (pa_cons (pv 2) pa_nil)) (pa_cons (pe_lc (own := [("_law_turn", 7)]) (g := gName 7) rfl sc72.nd (pi_range1 (by rfl) Fr.range (pa_cons (pe_op op_add pe_int (pe_ca0 B.take hr (by decide) (pa_cons (pv 2) (pa_cons pe_int pa_nil)))) pa_nil)) (blkOk_by (own := [("_law_turn", 7)]) (N := N72) (sc := defScope (topS 72)) (by decide +kernel))
            (fun _ _ _ _ _ => pg_name (i := 7) sc72.nd rfl (Or.inl rfl)) (fun _ _ _ _ _ => pts_nil) (fun _ _ _ _ _ => pe_ca0 B.pt hr (by decide) (pa_cons (pv 2) pa_nil))) (pa_cons (pv 6) pa_nil))))))
        (C8.pss_cut (ps_expr (pe_bm PySem.F.plainAttrs_list PySem.F.slot_list_append PySem.F.type_list_append mt_append (pv 8) (pa_cons (pe_mkc B.gm hr (by decide) passN (pa_cons pe_int (pa_cons (pv 4) (pa_cons pe_int (pa_cons (pe_un un_neg pe_int) (pa_cons (pv 3) (pa_cons (pe_ca0 B.num hr (by decide) (pa_cons (pv 2) pa_nil)) pa_nil))))))) pa_nil)))
        (pss_one (ps_for (passes_of rfl) rfl (pi_enumB (by rfl) Fr.enumerate (pa_cons (pv 8) pa_nil)) (pg_tup rfl (pgs_cons (pg_name (i := 9) sc72.nd rfl (Or.inl rfl)) (pgs_cons (pg_name (i := 10) sc72.nd rfl (Or.inl rfl)) pgs_nil)))
          (pss_cons (ps_set (i := 11) sc72.nd rfl (Or.inl rfl) (pe_ca0 B.fmt hr (by decide) (pa_cons (pv 9) (pa_cons (pv 10) pa_nil))))
          (pss_cons (ps_set (i := 12) sc72.nd rfl (Or.inl rfl) (pe_ca B.parse hr (by decide) passC (pa_cons (pv 9) (pa_cons (pv 11) pa_nil))))
          (pss_cons (ps_if (pt_cmpR op_ne (pe_callB (call_repr_dv B.rp (hr.mono (by decide)) hg) (by rfl) Fr.repr (by decide +kernel) (pa_cons (pv 12) pa_nil)) (pe_callB (call_repr_dv B.rp (hr.mono (by decide)) hg) (by rfl) Fr.repr (by decide +kernel) (pa_cons (pv 10) pa_nil)) (nomark _)) (pss_one (ps_ret pe_bl)) pss_nil)
          (C8.pss_cut (ps_if (PW.pt (pw_and (pt_cmpR op_eq (pv 9) pe_int (nomark _)) (pw_and1 (pt_cmpR op_ne (pe_callB call_isi (by rfl) Fr.isi (by decide +kernel) (pa_cons (pv 12) (pa_cons (pe_glob (v := .ref A.cp) (by rfl) B.nc rfl) pa_nil))) (pe_callB call_isi (by rfl) Fr.isi (by decide +kernel) (pa_cons (pv 10) (pa_cons (pe_glob (v := .ref A.cp) (by rfl) B.nc rfl) pa_nil))) (nomark _))))) (pss_one (ps_ret pe_bl)) pss_nil)
          (pss_one (ps_for (passes_of rfl) rfl (pi_range1 (by rfl) Fr.range (pa_cons pe_int pa_nil)) (pg_name (i := 7) sc72.nd rfl (Or.inl rfl)) (pss_one (ps_if (pt_not (pt_val (pe_ca0 B.again hr (by decide) (pa_cons (pv 9) (pa_cons (pe_ca0 B.bent hr (by decide) (pa_cons (pv 2) (pa_cons (pv 11) pa_nil))) pa_nil))))) (pss_one (ps_ret pe_bl)) pss_nil)))))))))))))))))
      (pss_one (ps_ret pe_bl)), ?_⟩
    refine ⟨_, rfl, a, _, rfl, .inl hs, _, _, rfl, _, _, rfl, _, rfl, ?_, ?_, ?_⟩
    · split <;> split <;> omega
    · split <;> split <;> omega
    refine for_range (lo := 0) (fun _ σ H' => (∃ x1 x2 x3 x4 x5 x6 x7 x8 x9 x10 x11 x12, σ = [some (.ref a), x1, x2, x3, x4, x5, x6, x7, x8, x9, x10, x11, x12]) ∧ Same H H') ⟨⟨_, _, _, _, _, _, _, _, _, _, _, _, rfl⟩, Same.refl H⟩ ?_ ?_
    · rintro i σ H1 hi ⟨⟨x1, x2, x3, x4, x5, x6, x7, x8, x9, x10, x11, x12, rfl⟩, s1⟩
      have hi4 : i < 4 := by
        revert hi
        split <;> split <;> omega
      refine ⟨_, rfl, _, rfl, a, _, ns, rfl, Same.seq s1 hs, by omega, by omega, fun H2 p s2 np hp2 => ?_⟩
      refine ⟨fun σ H' => ∃ f r : Int, σ = [some (.ref a), some (.int (0 + (i : Int))), some (.ref p), some (.int f), some (.int r), x5, x6, x7, x8, x9, x10, x11, x12] ∧ Sm f ∧ 1 ≤ r ∧ r ≤ 10 ^ 27 ∧ PoolAt H' p ∧ Same H1 H', ?_, ?_⟩
      · refine ⟨_, rfl, p, rfl, hp2, fun f H3 hf hp3 s3 => ⟨_, rfl, p, rfl, hp3, fun n H4 hn hp4 s4 => ⟨_, rfl, _, _, rfl, rfl, _, _, rfl, f, _, rfl, hf, ?_, ?_, hp4, ?_⟩⟩⟩
        · split <;> omega
        · unfold Sm at hn
          split <;> omega
        · exact (((SameX.of s2).trans s3).trans s4).same np
      · rintro σ H3 ⟨f, r, rfl, hf, hr1, hr2, hp3, s3⟩
        refine ⟨_, rfl, _, _, rfl, fun A1 v1 e1 w1 => ⟨_, rfl, _, rfl, _, _, rfl, rfl, _, _, rfl, fun A2 v2 e2 w2 => ⟨_, rfl, _, _, rfl, fun A3 v3 e3 w3 => ⟨by show 3 ≤ sizeLine; decide, fun l1 n1 => ?_⟩⟩⟩⟩
        refine ⟨_, rfl, _, _, rfl, fun A4 v4 e4 w4 => ⟨_, rfl, _, _, rfl, fun A5 v5 e5 w5 => ⟨_, rfl, _, _, rfl, rfl, _, _, rfl, fun A6 v6 e6 w6 => ⟨_, rfl, _, _, rfl, rfl, _, _, rfl, fun A7 v7 e7 w7 => ⟨by show 4 ≤ sizeLine; decide, fun l2 n2 => ⟨by show 2 ≤ sizeLine; decide, fun l0 n0 => ?_⟩⟩⟩⟩⟩⟩
        have b1 := sNew n1 (.lst [v1, v2, v3])
        have b2 := sNew n2 (.lst [v4, v5, v6, v7])
        have b0 := sNew n0 (.lst [.ref l1, .ref l2])
        have e47 := ((e4.trans e5).trans e6).trans e7
        have t1 : Pts (upd (upd A7 l2 (.lst [v4, v5, v6, v7])) l0 (.lst [.ref l1, .ref l2])) (triI f r) [v1, v2, v3] := (pts3 ((w1.same e2).same e3) (w2.same e3) w3).same (((b1.trans e47).trans b2).trans b0)
        have t2 : Pts (upd (upd A7 l2 (.lst [v4, v5, v6, v7])) l0 (.lst [.ref l1, .ref l2])) (quadI f) [v4, v5, v6, v7] := (pts4 (((w4.same e5).same e6).same e7) ((w5.same e6).same e7) (w6.same e7) w7).same (b2.trans b0)
        have k1 := b0 _ _ (b2 _ _ (e47 _ _ (show upd A3 l1 (.lst [v1, v2, v3]) l1 = _ from upd_same)))
        have k2 := b0 _ _ (show upd A7 l2 (.lst [v4, v5, v6, v7]) l2 = _ from upd_same)
        have S4 : Same H3 (upd (upd A7 l2 (.lst [v4, v5, v6, v7])) l0 (.lst [.ref l1, .ref l2])) := (((((e1.trans e2).trans e3).trans b1).trans e47).trans b2).trans b0
        have k0 : upd (upd A7 l2 (.lst [v4, v5, v6, v7])) l0 (.lst [.ref l1, .ref l2]) l0 = some (.lst [.ref l1, .ref l2]) := upd_same
        revert t1 t2 k1 k2 S4 k0
        generalize upd (upd A7 l2 (.lst [v4, v5, v6, v7])) l0 (.lst [.ref l1, .ref l2]) = H4
        intro t1 t2 k1 k2 S4 k0
        have hp4 := hp3.same S4
        refine ⟨fun σ H' => ∃ (y5 : Option V) (vp : V) (cv : Bool) (ks : List (Int × Int)), σ = [some (.ref a), some (.int (0 + (i : Int))), some (.ref p), some (.int f), some (.int r), y5, some vp, x7, x8, x9, x10, x11, x12] ∧ PolyAt A H' cv ks vp ∧ (Dv.poly cv ks).sml ∧ PoolAt H' p ∧ Same H1 H', ?_, ?_⟩
        · refine ⟨_, rfl, _, rfl, p, 2, rfl, hp4, by decide, by decide, fun g H5 g0 g1 hp5 s5 => ?_⟩
          have S5 : Same H1 H5 := (((SameX.of s3).trans (SameX.of S4)).trans s5).same np
          have k0' := s5 _ _ (ne_pool hp4 k0 fun x y z => by cases z) k0
          rcases (show g = 0 ∨ g = 1 by omega) with rfl | rfl
          · refine ⟨l0, _, 0, _, rfl, rfl, SqL.of k0', rfl, l1, false, triI f r, _, rfl, s5 _ _ (ne_pool hp4 k1 (pts_noint t1)) k1, t1.keep hp4 s5, SmQ.bd (tri_sm hf hr1 hr2).1.2.2, fun cv ks to H6 v s6 hv => ?_, fun no => absurd ⟨_, _, tri_to hr1⟩ no⟩
            obtain ⟨rfl, rfl⟩ := tri_is hr1 to
            exact ⟨_, v, true, _, rfl, hv, tri_sm hf hr1 hr2, hp5.same s6, S5.trans s6⟩
          · refine ⟨l0, _, 1, _, rfl, rfl, SqL.of k0', rfl, l2, false, quadI f, _, rfl, s5 _ _ (ne_pool hp4 k2 (pts_noint t2)) k2, t2.keep hp4 s5, SmQ.bd (quad_sm hf).1.2.2, fun cv ks to H6 v s6 hv => ?_, fun no => absurd ⟨_, _, quad_to⟩ no⟩
            obtain ⟨rfl, rfl⟩ := quad_is to
            exact ⟨_, v, false, _, rfl, hv, quad_sm hf, hp5.same s6, S5.trans s6⟩
        · rintro σ H6 ⟨y5, vp, cv, ks, rfl, hvp, smp, hp6, s6⟩
          refine ⟨_, rfl, _, rfl, p, rfl, hp6, fun qd H7 vq q1 q2 hp7 s7 hq => ?_⟩
          refine ⟨_, rfl, p, 5, rfl, hp7, by decide, by decide, fun g H8 g0 g1 hp8 s8 => ⟨_, _, rfl, rfl, _, rfl, by omega, by omega, fun D nD => ?_⟩⟩
          refine lc_range (lo := 0) (fun m H' => ∃ (l : List (Int × Int)) (ws : List V), H' D = some (.lst ws) ∧ Pts H' l ws ∧ l.length = m ∧ (∀ z ∈ l, SmQ z) ∧ PoolAt H' p ∧ SameX p H8 H') ⟨[], [], upd_same, ⟨rfl, fun _ h => absurd h (Nat.not_lt_zero _)⟩, rfl, fun _ h => (nomatch h), hp8.same (sNew nD _), SameX.of (sNew nD _)⟩ ?_ ?_
          · rintro m H' hm ⟨l, ws, hD, hw, ln, sm, hpm, sm8⟩
            refine ⟨rfl, _, rfl, p, rfl, hpm, fun qe H'' ve r1 r2 hpe se he => ?_⟩
            have hD2 := se D _ (ne_pool hpm hD (pts_noint hw)) hD
            have put : ∀ {z : Int × Int} {v : V}, PtAt H'' z v → PtAt (upd H'' D (.lst (ws ++ [ve]))) z v := fun ⟨b, e, hb⟩ => ⟨b, e, (upd_ne (fun y => by rw [y, hD2] at hb; cases hb)).trans hb⟩
            have hw2 := hw.keep hpm se
            have hm6 : m < 6 := by omega
            refine ⟨ws, hD2, ?_, l ++ [qe], ws ++ [ve], upd_same, Pts.snoc ⟨hw2.len, fun i hi => put (hw2.pt i hi)⟩ (put he), by rw [List.length_append, ln]; rfl, fun z hz => ?_, ?_, ?_⟩
            · rw [hw.len, ln, sizeLine_eq]
              omega
            · rcases List.mem_append.mp hz with y | y
              · exact sm z y
              · rw [List.mem_singleton.mp y]
                exact ⟨r1.two, r2.two⟩
            · obtain ⟨c, d, e, r⟩ := hpe
              exact ⟨c, d, (upd_ne (fun y => ne_pool hpm hD (pts_noint hw) y.symm)).trans e, r⟩
            · refine fun b u nb e => (upd_ne fun y => ?_).trans (se b u nb (sm8 b u nb e))
              rw [y, nD] at e
              cases e
          · rintro H9 ⟨l, ws, hD, hw, ln, sm, hp9, s9⟩
            refine ⟨_, rfl, by show 4 ≤ sizeLine; decide, fun L nL => ?_⟩
            refine ⟨fun σ H' => ∃ (L : Addr) (vs : List V), σ = [some (.ref a), some (.int (0 + (i : Int))), some (.ref p), some (.int f), some (.int r), y5, some vp, x7, some (.ref L), x9, x10, x11, x12] ∧ Made A a p L vs H1 H', ?_, ?_⟩
            · refine ⟨_, rfl, .inl ⟨rfl, _, SqL.of upd_same⟩, _, rfl, 1, rfl, _, rfl, _, rfl, p, rfl, hp9.same (sNew nL _), fun n H10 hn hp10 s10 x dx hx hdx ne => ?_⟩
              have hL10 : H10 L = some (.lst [.int f, vq, .ref D, vp]) := s10 L _ (fun y => by
                obtain ⟨c, d, e, _⟩ := hp9
                rw [y, e] at nL
                cases nL) upd_same
              have bd : (⟨1, r, 0, -1, f, n⟩ : Six).bd 1100 := by
                have z := (six_sm hf hr1 hr2 hn).1
                exact ⟨(z _ (by simp [Six.l])).b, (z _ (by simp [Six.l])).b, (z _ (by simp [Six.l])).b, (z _ (by simp [Six.l])).b⟩
              refine ⟨x, dx, ⟨1, r, 0, -1, f, n⟩, rfl, upd_same, bd, fun _ H11 T s11 hx11 hT => ⟨rfl, ?_⟩, fun no => absurd (six_sm hf hr1 hr2 hn).2 no⟩
              have st : Same H10 (upd (upd H10 dx (.own x)) x (.ins A.gm dx [])) := (sNew hdx _).trans (sNew ((upd_ne (fun z => ne z.symm)).trans hx) _)
              have Lx : L ≠ x := ne_of_none hL10 hx
              have hL11 := s11 L _ Lx (st L _ hL10)
              refine ⟨L, _, _, rfl, rfl, hL11, by rw [sizeLine_eq]; show 4 < 16777216; decide, L, [.int f, vq, .ref D, vp] ++ [.ref x], rfl, ?_⟩
              have K9 : SameX p H9 (upd H11 L (.lst ([.int f, vq, .ref D, vp] ++ [.ref x]))) := fun b u nb e => by
                have bL : b ≠ L := ne_of_none e nL
                have e2 := s10 b u nb (sNew nL _ b u e)
                exact (upd_ne bL).trans (s11 b u (ne_of_none e2 hx) (st b u e2))
              have K8 : SameX p H8 (upd H11 L (.lst ([.int f, vq, .ref D, vp] ++ [.ref x]))) := s9.trans K9
              have K7 := s8.trans K8
              have K6 := s7.trans K7
              have pL : p ≠ L := fun y => by
                obtain ⟨c, d, e, _⟩ := hp9
                rw [y, nL] at e
                cases e
              refine ⟨((SameX.of s6).trans K6).same np, ?_, upd_same, by show 5 ≤ 5; decide, fun j y hy => ?_⟩
              · obtain ⟨c, d, e, rr⟩ := hp10
                exact ⟨c, d, (upd_ne pL).trans (s11 p _ (ne_of_none e hx) (st p _ e)), rr⟩
              · have hj : j < 5 := (List.getElem?_eq_some_iff.mp hy).1
                match j, hj with
                | 0, _ =>
                  obtain rfl : y = V.int f := (Option.some.inj hy).symm
                  exact ⟨.i f, rfl, hf.two, rfl⟩
                | 1, _ =>
                  obtain rfl : y = vq := (Option.some.inj hy).symm
                  exact ⟨.pt qd, Dv.keep (d := .pt qd) hp7 K7 hq, ⟨q1.two, q2.two⟩, rfl⟩
                | 2, _ =>
                  obtain rfl : y = V.ref D := (Option.some.inj hy).symm
                  refine ⟨.ps l, Dv.keep (d := .ps l) hp9 K9 ⟨D, ws, rfl, hD, hw⟩, ⟨fun z => ?_, by omega, sm⟩, rfl⟩
                  rw [z] at ln
                  have l0 : ([] : List (Int × Int)).length = 0 := rfl
                  omega
                | 3, _ =>
                  obtain rfl : y = vp := (Option.some.inj hy).symm
                  exact ⟨.poly cv ks, Dv.keep (d := .poly cv ks) hp6 K6 hvp, smp, rfl⟩
                | 4, _ =>
                  obtain rfl : y = V.ref x := (Option.some.inj hy).symm
                  refine ⟨.map ⟨1, r, 0, -1, f, n⟩, ⟨x, dx, T, rfl, (upd_ne Lx.symm).trans hx11, (upd_ne (fun z => ?_)).trans hT⟩, six_sm hf hr1 hr2 hn, rfl⟩
                  rw [z, hL11] at hT
                  cases hT
            · rintro σ H12 ⟨L, vs, rfl, M⟩
              have hLb : H12 L = some (boxU false vs) := M.lst
              have notL : L ≠ p := ne_pool M.pool M.lst fun x y z => by
                have e : vs = [.int x, .int y] := HO.lst.inj z
                obtain ⟨d, hd, _, kd⟩ := M.at_ 1 (.int y) (by rw [e]; rfl)
                cases d with
                | i n => exact absurd kd (of_decide_eq_false rfl)
                | pt q =>
                  obtain ⟨b, e2, _⟩ := hd
                  cases e2
                | ps l => exact absurd kd (of_decide_eq_false rfl)
                | poly cv ks => exact absurd kd (of_decide_eq_false rfl)
                | map s => exact absurd kd (of_decide_eq_false rfl)
              refine ⟨_, rfl, L, vs, false, rfl, box_sq hLb, ?_⟩
              refine for_enumB (K := K) (fun _ σ H' => (∃ z7 z9 z10 z11 z12, σ = [some (.ref a), some (.int (0 + (i : Int))), some (.ref p), some (.int f), some (.int r), y5, some vp, z7, some (.ref L), z9, z10, z11, z12]) ∧ SameX p H12 H' ∧ PoolAt H' p) ⟨⟨_, _, _, _, _, rfl⟩, SameX.refl p H12, M.pool⟩ (fun _ σ H' _ h => box_sq (h.2.1 L _ notL hLb)) ?_ ?_
              · rintro j x σ H' T' hx ⟨⟨z7, z9, z10, z11, z12, rfl⟩, sx, hpx⟩ hT'
                obtain ⟨d, hd, sm, kd⟩ := M.at_ j x hx
                have hd1 := Dv.keep M.pool sx hd
                rw [← kd]
                have sT := sNew hT' (.tup [.int d.kind, x])
                have hd2 := Dv.keep hpx (SameX.of sT) hd1
                have k0 : 0 ≤ d.kind := by rw [kd]; omega
                have k5 : d.kind < 5 := by
                  have := (List.getElem?_eq_some_iff.mp hx).1
                  have := M.len
                  omega
                have tl := sml_len sm
                refine ⟨T', _, rfl, SqT.of upd_same, rfl, _, _, rfl, _, _, rfl, rfl, ?_⟩
                refine ⟨_, rfl, _, rfl, d, x, rfl, hd2, sml_fit sm, fun G1 s1' => ?_⟩
                have hpT := hpx.same sT
                have hp1 := hpT.same s1'
                have hd3 := Dv.keep hpT (SameX.of s1') hd2
                refine ⟨_, rfl, _, rfl, d.kind, d.text, rfl, k0, k5, by omega, fun e he G2 v2 s2' hv2 => ?_, fun no => absurd ⟨d, sml_rds sm⟩ no⟩
                obtain rfl := sml_one sm he
                have hp2' := hp1.same s2'
                have hd4 := Dv.keep hp1 (SameX.of s2') hd3
                refine ⟨_, rfl, e, v2, rfl, hv2, sm, fun G3 s3' => ⟨_, rfl, e, x, rfl, Dv.keep hp2' (SameX.of s3') hd4, sm, fun G4 s4' => ⟨rfl, _, rfl, ?_⟩⟩⟩
                rw [decide_eq_true rfl]
                refine iteF ?_
                have hp4' := (hp2'.same s3').same s4'
                have hv4 := Dv.keep (hp2'.same s3') (SameX.of s4') (Dv.keep hp2' (SameX.of s3') hv2)
                have hd5 := Dv.keep (hp2'.same s3') (SameX.of s4') (Dv.keep hp2' (SameX.of s3') hd4)
                have SG : SameX p H12 G4 := ((((sx.trans (SameX.of sT)).trans (SameX.of s1')).trans (SameX.of s2')).trans (SameX.of s3')).trans (SameX.of s4')
                refine ⟨fun σ G => σ = [some (.ref a), some (.int (0 + (i : Int))), some (.ref p), some (.int f), some (.int r), y5, some vp, z7, some (.ref L), some (.int e.kind), some x, some (.str e.text), some v2] ∧ SameX p H12 G ∧ PoolAt G p, ?_, ?_⟩
                · refine ⟨_, rfl, rfl, _, rfl, ?_⟩
                  cases e with
                  | i n => exact iteF (iteF ⟨rfl, SG, hp4'⟩)
                  | pt q => exact iteF (iteF ⟨rfl, SG, hp4'⟩)
                  | ps l => exact iteF (iteF ⟨rfl, SG, hp4'⟩)
                  | map s => exact iteF (iteF ⟨rfl, SG, hp4'⟩)
                  | poly c2 k2 =>
                    obtain ⟨b1, dx1, T1, ws1, rfl, hb1, _⟩ := hv4
                    obtain ⟨b2, dx2, T2, ws2, rfl, hb2, _⟩ := hd5
                    refine iteT ?_
                    cases c2 with
                    | true =>
                      refine ⟨_, rfl, _, _, _, _, true, rfl, .own A.cp, B.kt.c.ty hb1, B.kt.cc, _, rfl, _, _, _, _, true, rfl, .own A.cp, B.kt.c.ty hb2, B.kt.cc, rfl, _, rfl, ?_⟩
                      exact iteF ⟨rfl, SG, hp4'⟩
                    | false =>
                      refine ⟨_, rfl, _, _, _, _, false, rfl, .own A.cp, B.kt.p.ty hb1, B.kt.pc, _, rfl, _, _, _, _, false, rfl, .own A.cp, B.kt.p.ty hb2, B.kt.pc, rfl, _, rfl, ?_⟩
                      exact iteF ⟨rfl, SG, hp4'⟩
                · rintro σ G ⟨rfl, sg, hpg⟩
                  refine ⟨4, rfl, by decide, by decide, ?_⟩
                  refine for_range (lo := 0) (n := 4) (fun _ σ G => (∃ z7, σ = [some (.ref a), some (.int (0 + (i : Int))), some (.ref p), some (.int f), some (.int r), y5, some vp, z7, some (.ref L), some (.int e.kind), some x, some (.str e.text), some v2]) ∧ SameX p H12 G ∧ PoolAt G p) ⟨⟨_, rfl⟩, sg, hpg⟩ ?_ ?_
                  · rintro m σ G hm ⟨⟨y7, rfl⟩, sg, hpg⟩
                    refine ⟨_, rfl, _, rfl, _, rfl, p, e.text, rfl, hpg, tl.1, tl.2, fun u G5 hu hp5 s5 => ⟨e.kind, u, rfl, k0, k5, hu, fun G6 s6' => ⟨true, rfl, iteF ?_⟩⟩⟩
                    exact ⟨⟨_, rfl⟩, (sg.trans s5).trans (SameX.of s6'), hp5.same s6'⟩
                  · rintro σ G ⟨⟨y7, rfl⟩, sg, hpg⟩
                    exact ⟨⟨_, _, _, _, _, rfl⟩, sg, hpg⟩
              · rintro σ G ⟨⟨z7, z9, z10, z11, z12, rfl⟩, sx, hpx⟩
                exact ⟨⟨_, _, _, _, _, _, _, _, _, _, _, _, rfl⟩, s1.trans (((SameX.of M.s).trans sx).same np)⟩
    · rintro σ H1 ⟨_, s1⟩
      exact q H1
end
end K82
set_option Elab.async false
set_option linter.all false
set_option maxRecDepth 100000
set_option maxHeartbeats 400000
namespace K82
open PySem PySem.Spec PyProof.Rows L2 GenW K82G ClX
/-! ### facts of the written part, as tests -/
abbrev Fr := PySem.W.Frag
def frB (x : Str) (K : Fr) : Bool := He.eqO (PySem.W.nsIn K mainGlobals x) (some none)
def glB (x : Str) (a : Addr) (K : Fr) : Bool := He.eqO (PySem.W.nsIn K mainGlobals x) (some (some (.ref a)))
def intB (x : Str) (i : Int) (K : Fr) : Bool := (He.Fa.int x i).ok K
def strB (x z : Str) (K : Fr) : Bool := (He.Fa.str x z).ok K
def clsB (C : Addr) (K : Fr) : Bool := PySem.W.plainGet K C Str.empty && (PySem.W.hasDictIn K C && (PySem.W.plainOver K C && He.eqO (PySem.W.findIn K (.ref C) "__setattr__") (some (some (.builtin "object.__setattr__")))))
def iscB (C : Addr) (K : Fr) : Bool := He.eqO (PySem.W.findIn K (.ref C) "__class__") (some (some (.builtin "object.__class__"))) && (He.eqO (PySem.W.specialIn K (.builtin "object.__class__") "__get__") (some (some (.builtin "getset_descriptor.__get__"))) &&
  (decide (PySem.W.takesIn K (.builtin "object.__class__") = some true) && decide (PySem.W.mroIn K C (.type "object") = some true)))
def noB (C : Addr) (f : Str) (K : Fr) : Bool := He.eqO (PySem.W.findIn K (.ref C) f) (some none)
def oexB (C : Addr) (K : Fr) : Bool := (match K.lookup C with
  | some ⟨.type "type", _, .cls cd, sl⟩ => (match cd.mro, sl.toList with
    | .ref c2 :: bm, [_, _, _, _, some (.builtin n), _] => decide (c2 = C) && (decide (n = "ValueError.__new__") && (!cd.hasDel && (cd.hasDict && PySem.HandSPX.refsVE bm)))
    | _, _ => false)
  | _ => false) && (He.eqO (PySem.W.findIn K (.ref C) "__setattr__") (some (some (.builtin "object.__setattr__"))) && (decide (PySem.W.subIn K (.ref C) (.type "BaseException") = some true) && (decide (PySem.W.typeIn K (.ref C) = some (.type "type")) && PySem.W.keepIn K (.ref C))))
def iniB (C f : Addr) (K : Fr) : Bool := He.eqO (PySem.W.findIn K (.ref C) "__init__") (some (some (.ref f))) && decide (PySem.W.typeIn K (.ref f) = some (.type "function"))
def opB (C : Addr) (K : Fr) : Bool := PySem.W.excIn K C He.veBase "ValueError.__new__" && (PySem.W.keepIn K (.ref C) && (decide (PySem.W.subIn K (.ref C) (.type "BaseException") = some true) && decide (PySem.W.typeIn K (.ref C) = some (.type "type"))))
def kitB (a b : Addr) (v : Bool) (K : Fr) : Bool := decide (PySem.W.kitOne K (.ref a) (.ref b) = some v)
def exmB (a b : Addr) (K : Fr) : Bool := decide (PySem.W.exmOne K (.ref a) (.ref b) = some true)
def mkB (C f : Addr) (K : Fr) : Bool := PySem.W.makesIn K C && (He.eqO (PySem.W.findIn K (.ref C) "__init__") (some (some (.ref f))) && (PySem.W.isFn K (.ref f) && PySem.W.keepIn K (.ref C)))
def propB (C : Addr) (f : Str) (p g : Addr) (K : Fr) : Bool := He.eqO (PySem.W.findIn K (.ref C) f) (some (some (.ref p))) && (He.eqO (PySem.W.specialIn K (.ref p) "__get__") (some (some (.builtin "property.__get__"))) &&
  (decide (PySem.W.takesIn K (.ref p) = some true) && (match PySem.W.recIn K p "property" with
    | some (.ref b :: _) => decide (b = g)
    | _ => false)))
def repB (C f : Addr) (K : Fr) : Bool := He.eqO (PySem.W.findIn K (.ref C) "__repr__") (some (some (.ref f))) && PySem.W.isFn K (.ref f)
def crdB (C : Addr) (K : Fr) : Bool := PySem.W.readsIn K C (.type "type") && He.eqO (PySem.W.specialIn K (.ref C) "__getattribute__") (some (some (.builtin "type.__getattribute__")))
def cvlB (C : Addr) (K : Fr) : Bool := match PySem.W.findCls K (.ref C) (.type "type") "MAX_CORNERS" with
  | some (.val (.int n _)) => decide (n = 60)
  | _ => false
abbrev prg : Program := PySem.Challenge.pw_latticeshapes_k82_whole_formatted_and_pa
def supB (C f f2 cc cda : Addr) (K : Fr) : Bool := (match K.lookup f with
    | some ⟨_, _, .func fd, _⟩ => decide (fd.code = .ref cda) && decide (fd.defaults = .none)
    | _ => false) && (PySem.W.codeIn K (.ref cda) "ConvexPolygon.__init__" && ((match K.lookup cda with
    | some ⟨_, _, .fields vs, _⟩ => (match vs.toList with
      | _ :: _ :: .str x _ :: _ => (prg.main.file : Str) == x
      | _ => false)
    | _ => false) && ((match K.lookup cc with
    | some ⟨_, _, .cell (some (.ref c)), _⟩ => decide (c = C)
    | _ => false) && ((PySem.W.clsIn K C).isSome && (decide (PySem.W.mroIn K C (.ref C) = some true) && (He.eqO (PySem.W.nsIn K cStatics "thirdparty.any") (some none) && (He.eqO (PySem.W.ks_superIn K C C "__init__") (some (some (.ref f2))) &&
    (decide (PySem.W.typeIn K (.ref f2) = some (.type "function")) && (PySem.W.fnIn K f2 && PySem.W.keepIn K (.ref f))))))))))
section
variable {P : Program} {w : World} {K : Fr} {mg : Str → Option Value} {base h : Heap} {A : Cl}
theorem ba {a b : Bool} (h : (a && b) = true) : a = true ∧ b = true := Bool.and_eq_true_iff.mp h
theorem cls_of {C : Addr} (c : clsB C K = true) : Cls K C := by
  obtain ⟨c1, c⟩ := ba c
  obtain ⟨c2, c⟩ := ba c
  obtain ⟨c3, c4⟩ := ba c
  exact ⟨c1, c2, c3, He.eqO_ok c4⟩
theorem isc_of {C : Addr} (k : Cls K C) (c : iscB C K = true) : IsC K C := by
  obtain ⟨c1, c⟩ := ba c
  obtain ⟨c2, c⟩ := ba c
  obtain ⟨c3, c4⟩ := ba c
  exact ⟨k, He.eqO_ok c1, He.eqO_ok c2, of_decide_eq_true c3, of_decide_eq_true c4⟩
theorem no_of {C : Addr} {f : Str} (c : noB C f K = true) : PySem.W.findIn K (.ref C) f = some none := He.eqO_ok c
theorem gl_of (X : K.In h) (G : h.Ns mainGlobals mg) {x : Str} {a : Addr} (c : glB x a K = true) : mg x = some (.ref a) := PySem.W.mg_of X G (He.eqO_ok c)
theorem fr_of (X : K.In h) (G : h.Ns mainGlobals mg) {x : Str} (c : frB x K = true) : mg x = none := PySem.W.mg_none_of X G (He.eqO_ok c)
theorem oex_of {C : Addr} (c : oexB C K = true) : OexC K C := by
  obtain ⟨c0, c⟩ := ba c
  obtain ⟨c1, c⟩ := ba c
  obtain ⟨c2, c⟩ := ba c
  obtain ⟨c3, c4⟩ := ba c
  refine ⟨?_, He.eqO_ok c1, of_decide_eq_true c2, of_decide_eq_true c3, c4⟩
  split at c0
  · rename_i dd cd sl ho
    split at c0
    · rename_i c2' bm k0 k1 k2 k3 n k5 hm hs
      obtain ⟨q1, c0⟩ := ba c0
      obtain ⟨q2, c0⟩ := ba c0
      obtain ⟨q3, c0⟩ := ba c0
      obtain ⟨q4, q5⟩ := ba c0
      obtain rfl := of_decide_eq_true q1
      obtain rfl := of_decide_eq_true q2
      obtain ⟨nm, bs, mro, ns, qn, hd, sn, sub, ab, col, del⟩ := cd
      dsimp only at hm q3 q4
      subst hm
      have ed : del = false := by
        cases del
        · rfl
        · cases q3
      subst ed
      have eh : hd = true := q4
      subst eh
      have hsl : sl = #[k0, k1, k2, k3, some (.builtin "ValueError.__new__"), k5] := by
        obtain ⟨l⟩ := sl
        simp only at hs
        rw [hs]
      subst hsl
      exact ⟨_, _, _, _, _, _, _, _, _, _, _, _, _, _, _, ho, q5⟩
    · cases c0
  · cases c0
theorem ini_of {C f : Addr} (c : iniB C f K = true) : PySem.W.findIn K (.ref C) "__init__" = some (some (.ref f)) ∧ PySem.W.typeIn K (.ref f) = some (.type "function") := by
  obtain ⟨c1, c2⟩ := ba c
  exact ⟨He.eqO_ok c1, of_decide_eq_true c2⟩
theorem op_of {x : Str} {C : Addr} (e : mg x = some (.ref C)) (c : opB C K = true) : Op K mg x C := by
  obtain ⟨c1, c⟩ := ba c
  obtain ⟨c2, c⟩ := ba c
  obtain ⟨c3, c4⟩ := ba c
  exact ⟨e, ⟨_, _, _, PySem.F.excBase_ValueError, c1⟩, c2, of_decide_eq_true c3, of_decide_eq_true c4⟩
theorem mk_of {C f : Addr} (c : mkB C f K = true) : Mk K C f := by
  obtain ⟨c1, c⟩ := ba c
  obtain ⟨c2, c⟩ := ba c
  obtain ⟨c3, c4⟩ := ba c
  exact ⟨c1, He.eqO_ok c2, c3, c4⟩
theorem prop_of {C : Addr} {f : Str} {p g : Addr} (c : propB C f p g K = true) : PropOf K C f p g := by
  obtain ⟨c1, c⟩ := ba c
  obtain ⟨c2, c⟩ := ba c
  obtain ⟨c3, c4⟩ := ba c
  refine ⟨He.eqO_ok c1, He.eqO_ok c2, of_decide_eq_true c3, ?_⟩
  split at c4
  · rename_i b rest e
    obtain rfl := of_decide_eq_true c4
    exact ⟨rest, e⟩
  · cases c4
theorem rep_of {C f : Addr} (c : repB C f K = true) : PySem.W.findIn K (.ref C) "__repr__" = some (some (.ref f)) ∧ PySem.W.isFn K (.ref f) = true := by
  obtain ⟨c1, c2⟩ := ba c
  exact ⟨He.eqO_ok c1, c2⟩
theorem mc_of {C : Addr} (c1 : crdB C K = true) (c2 : cvlB C K = true) : ∃ mc u, CRead K C mc ∧ CVal K C mc "MAX_CORNERS" (.int 60) u := by
  obtain ⟨q1, q2⟩ := ba c1
  unfold cvlB at c2
  split at c2
  · rename_i n t e
    obtain rfl := of_decide_eq_true c2
    exact ⟨.type "type", _, ⟨q1, He.eqO_ok q2⟩, ⟨e, ⟨t, rfl⟩⟩⟩
  · cases c2
def valC (cc : Addr) : He5.FnW := some ("__init__", "ConvexPolygon.__init__", defArgs stC, .stmts (defBody stC), defScope stC, mainGlobals, [("__class__", cc)], builtinsNs)
theorem sup_of {f f2 cc cda : Addr} (e : He5.fnA K f = valC cc) (c : supB A.cp f f2 cc cda K = true) : ∃ fd, SupF prg K base A "__init__" "ConvexPolygon.__init__" stC f f2 cc cda fd ∧ Binds K fd ["self", "corners"] [] := by
  obtain ⟨a1, c⟩ := ba c
  obtain ⟨a2, c⟩ := ba c
  obtain ⟨a3, c⟩ := ba c
  obtain ⟨a4, c⟩ := ba c
  obtain ⟨a5, c⟩ := ba c
  obtain ⟨a6, c⟩ := ba c
  obtain ⟨a7, c⟩ := ba c
  obtain ⟨a8, c⟩ := ba c
  obtain ⟨a9, c⟩ := ba c
  obtain ⟨a10, a11⟩ := ba c
  have a5' := Option.isSome_iff_exists.mp a5
  have fl : ∃ (cl : Value) (d : Option Addr) (vs : Array Value) (sl : Array (Option Value)) (x : Str) (t : Tok), K.lookup cda = some ⟨cl, d, .fields vs, sl⟩ ∧ vs[2]? = some (.str x t) ∧ ((prg.main.file : Str) == x) = true := by
    split at a3
    · rename_i vs sl ho
      split at a3
      · rename_i u v x t r hv
        exact ⟨_, _, vs, _, x, t, ho, by rw [← Array.getElem?_toList, hv]; rfl, a3⟩
      · cases a3
    · cases a3
  have cl : ∃ (c0 : Value) (d : Option Addr) (sl : Array (Option Value)), K.lookup cc = some ⟨c0, d, .cell (some (.ref A.cp)), sl⟩ := by
    split at a4
    · rename_i c1 ho
      have z := of_decide_eq_true a4
      rw [z] at ho
      exact ⟨_, _, _, ho⟩
    · cases a4
  unfold He5.fnA at e
  split at e
  · rename_i oc od fd osl ho
    rw [ho] at a1
    have ecd : fd.code = .ref cda := of_decide_eq_true (ba a1).1
    have edf : fd.defaults = .none := of_decide_eq_true (ba a1).2
    obtain ⟨n1, n2, n3, n4, n5, n6, n7, n8, n9, n10, n11, n12, n13, n14, n15⟩ := fd
    have e2 : (some (n1, n2, n3, n4, n5, n6, n7, n15) : He5.FnW) = valC cc := e
    unfold valC at e2
    simp only [Option.some.injEq, Prod.mk.injEq] at e2
    obtain ⟨h1, h2, h3, h4, h5, h6, h7, h8⟩ := e2
    have h9 : n13 = .ref cda := ecd
    have h10 : n8 = .none := edf
    subst h1 h2 h3 h4 h5 h6 h7 h8 h9 h10
    exact ⟨_, ⟨⟨oc, od, .none, n9, n10, n11, n12, n14, osl, rfl, ho⟩, a2, fl, by decide +kernel, cl, a5', of_decide_eq_true a6, He.eqO_ok a7, He.eqO_ok a8, of_decide_eq_true a9, a10, a11⟩, Binds.all fun us hl => match us, hl with | [_, _], _ => rfl⟩
  · cases e
end
end K82
set_option Elab.async false
set_option linter.all false
set_option maxRecDepth 100000
set_option maxHeartbeats 0
namespace K82
open PySem PySem.Spec PyProof.Rows L2 GenW K82G ClX He5
/-! ### what the top leaves, by addresses -/
def ad0 : List Addr := [2, 3, 30, 31, 67, 68, 83, 84, 86, 87, 102, 103, 105, 106]
def ad1 : List Addr := [121, 122, 124, 125, 140, 141, 143, 144, 159, 160, 162, 163, 171, 172]
def ad2 : List Addr := [173, 179, 180, 184, 185, 191, 192, 198, 199, 205, 206, 212, 213, 221]
def ad3 : List Addr := [227, 228, 241, 242, 268, 269, 270, 337, 338, 348, 349, 355, 356, 362]
def ad4 : List Addr := [363, 369, 370, 374, 375, 381, 382, 388, 389, 393, 394, 400, 401, 405]
def ad5 : List Addr := [406, 412, 413, 419, 420, 426, 427, 440, 441, 461, 462, 468, 469, 470]
def ad6 : List Addr := [516, 517, 518, 548, 549, 557, 568, 569, 575, 576, 585, 586, 594, 595]
def ad7 : List Addr := [601, 602, 608, 609, 615, 616, 620, 621, 627, 628, 632, 633, 637, 638]
def ad8 : List Addr := [642, 643, 647, 648, 652, 653, 659, 660, 666, 667, 673, 674, 680, 681]
def ad9 : List Addr := [687, 688, 694, 695, 701, 702, 708, 709, 715, 716, 722, 723, 736, 737]
def ad10 : List Addr := [750, 751, 757, 758, 764, 765, 771, 772, 776, 777]
def adrs : List Addr := ad0 ++ ad1 ++ ad2 ++ ad3 ++ ad4 ++ ad5 ++ ad6 ++ ad7 ++ ad8 ++ ad9 ++ ad10
def fc0 : List (PySem.W.Frag → Bool) := [frB "isinstance", frB "int", frB "bool", frB "tuple", frB "list", frB "str", frB "len", frB "all"]
def fc1 : List (PySem.W.Frag → Bool) := [frB "abs", frB "min", frB "max", frB "sum", frB "range", frB "enumerate", frB "zip", frB "repr"]
def fc2 : List (PySem.W.Frag → Bool) := [frB "sorted", frB "super", glB "is_integer" 172, glB "check_integer" 180, glB "is_point" 185, glB "check_point" 192, glB "cross_of" 199, glB "difference" 206]
def fc3 : List (PySem.W.Frag → Bool) := [glB "turn_of" 213, glB "check_map" 349, glB "check_points" 356, glB "triples" 363, glB "check_turns" 370, glB "is_between" 375, glB "is_on" 382, glB "have_common_point" 389]
def fc4 : List (PySem.W.Frag → Bool) := [glB "edges_of" 394, glB "check_crossings" 401, glB "area_of" 406, glB "arranged" 413, glB "checked_corners" 420, glB "first_reflex" 427, glB "check_polygon" 595, glB "to_polygon" 602]
def fc5 : List (PySem.W.Frag → Bool) := [glB "format_integer" 609, glB "format_point" 616, glB "format_points" 621, glB "format_polygon" 628, glB "format_map" 633, glB "integer_of" 638, glB "integers_of" 643, glB "point_of" 648]
def fc6 : List (PySem.W.Frag → Bool) := [glB "points_of_text" 653, glB "six_of" 660, glB "parsed" 667, glB "parse_integer" 674, glB "parse_point" 681, glB "parse_points" 688, glB "parse_polygon" 695, glB "parse_map" 702]
def fc7 : List (PySem.W.Frag → Bool) := [glB "_law_pool" 709, glB "_law_take" 716, glB "_law_number" 723, glB "_law_point" 737, glB "_law_format" 751, glB "_law_parse" 758, glB "_law_bent" 765, glB "_law_again" 772]
def fc8 : List (PySem.W.Frag → Bool) := [glB "law" 777, glB "InvalidPolygon" 87, glB "DegenerateCorner" 106, glB "CrossingEdges" 125, glB "InvalidMap" 68, glB "InvalidText" 163, glB "ShapeError" 31, glB "GridMap" 338]
def fc9 : List (PySem.W.Frag → Bool) := [glB "Polygon" 549, glB "ConvexPolygon" 586, glB "NotConvex" 144, intB "MIN_CORNERS" 3, intB "MAX_DIGITS" 300, strB "DIGITS" "0123456789", clsB 338, clsB 549]
def fc10 : List (PySem.W.Frag → Bool) := [clsB 586, iscB 338, iscB 549, iscB 586, noB 338 "six", noB 549 "kept", noB 549 "reflex", noB 586 "kept"]
def fc11 : List (PySem.W.Frag → Bool) := [noB 586 "reflex", noB 87 "position", noB 106 "position", noB 144 "position", noB 163 "part", noB 125 "first", noB 125 "second", oexB 87]
def fc12 : List (PySem.W.Frag → Bool) := [iniB 87 84, oexB 106, iniB 106 103, oexB 125, iniB 125 122, oexB 144, iniB 144 141, oexB 163]
def fc13 : List (PySem.W.Frag → Bool) := [iniB 163 160, opB 68, kitB 549 549 true, kitB 586 549 true, kitB 549 586 false, kitB 586 586 true, kitB 338 338 true, exmB 87 31]
def fc14 : List (PySem.W.Frag → Bool) := [exmB 106 31, exmB 125 31, exmB 68 31, exmB 144 31, exmB 163 163, mkB 338 228, mkB 549 441, mkB 586 569]
def fc15 : List (PySem.W.Frag → Bool) := [propB 549 "corners" 470 469, propB 586 "corners" 470 469, propB 549 "is_convex" 518 517, propB 338 "numbers" 270 269, repB 338 242, repB 549 462, repB 586 576, crdB 549]
def fc16 : List (PySem.W.Frag → Bool) := [cvlB 549, supB 586 569 441 557 568]
def fcs : List (PySem.W.Frag → Bool) := fc0 ++ fc1 ++ fc2 ++ fc3 ++ fc4 ++ fc5 ++ fc6 ++ fc7 ++ fc8 ++ fc9 ++ fc10 ++ fc11 ++ fc12 ++ fc13 ++ fc14 ++ fc15 ++ fc16
def dd0 : List DefA := [⟨fun _ => 172, "is_integer", "is_integer", defArgs (topS 12), defBody (topS 12), defScope (topS 12), [], []⟩,
  ⟨fun _ => 180, "check_integer", "check_integer", defArgs (topS 13), defBody (topS 13), defScope (topS 13), [.non], []⟩,
  ⟨fun _ => 185, "is_point", "is_point", defArgs (topS 15), defBody (topS 15), defScope (topS 15), [], []⟩,
  ⟨fun _ => 192, "check_point", "check_point", defArgs (topS 16), defBody (topS 16), defScope (topS 16), [], []⟩,
  ⟨fun _ => 199, "cross_of", "cross_of", defArgs (topS 17), defBody (topS 17), defScope (topS 17), [], []⟩,
  ⟨fun _ => 206, "difference", "difference", defArgs (topS 18), defBody (topS 18), defScope (topS 18), [], []⟩]
def dd1 : List DefA := [⟨fun _ => 213, "turn_of", "turn_of", defArgs (topS 19), defBody (topS 19), defScope (topS 19), [], []⟩,
  ⟨fun _ => 349, "check_map", "check_map", defArgs (topS 22), defBody (topS 22), defScope (topS 22), [], []⟩,
  ⟨fun _ => 356, "check_points", "check_points", defArgs (topS 25), defBody (topS 25), defScope (topS 25), [], []⟩,
  ⟨fun _ => 363, "triples", "triples", defArgs (topS 26), defBody (topS 26), defScope (topS 26), [], []⟩,
  ⟨fun _ => 370, "check_turns", "check_turns", defArgs (topS 27), defBody (topS 27), defScope (topS 27), [], []⟩,
  ⟨fun _ => 375, "is_between", "is_between", defArgs (topS 28), defBody (topS 28), defScope (topS 28), [], []⟩]
def dd2 : List DefA := [⟨fun _ => 382, "is_on", "is_on", defArgs (topS 29), defBody (topS 29), defScope (topS 29), [], []⟩,
  ⟨fun _ => 389, "have_common_point", "have_common_point", defArgs (topS 30), defBody (topS 30), defScope (topS 30), [], []⟩,
  ⟨fun _ => 394, "edges_of", "edges_of", defArgs (topS 31), defBody (topS 31), defScope (topS 31), [], []⟩,
  ⟨fun _ => 401, "check_crossings", "check_crossings", defArgs (topS 32), defBody (topS 32), defScope (topS 32), [], []⟩,
  ⟨fun _ => 406, "area_of", "area_of", defArgs (topS 33), defBody (topS 33), defScope (topS 33), [], []⟩,
  ⟨fun _ => 413, "arranged", "arranged", defArgs (topS 34), defBody (topS 34), defScope (topS 34), [], []⟩]
def dd3 : List DefA := [⟨fun _ => 420, "checked_corners", "checked_corners", defArgs (topS 35), defBody (topS 35), defScope (topS 35), [], []⟩,
  ⟨fun _ => 427, "first_reflex", "first_reflex", defArgs (topS 37), defBody (topS 37), defScope (topS 37), [], []⟩,
  ⟨fun _ => 595, "check_polygon", "check_polygon", defArgs (topS 40), defBody (topS 40), defScope (topS 40), [], []⟩,
  ⟨fun _ => 602, "to_polygon", "to_polygon", defArgs (topS 41), defBody (topS 41), defScope (topS 41), [], []⟩,
  ⟨fun _ => 609, "format_integer", "format_integer", defArgs (topS 45), defBody (topS 45), defScope (topS 45), [], []⟩,
  ⟨fun _ => 616, "format_point", "format_point", defArgs (topS 46), defBody (topS 46), defScope (topS 46), [], []⟩]
def dd4 : List DefA := [⟨fun _ => 621, "format_points", "format_points", defArgs (topS 47), defBody (topS 47), defScope (topS 47), [], []⟩,
  ⟨fun _ => 628, "format_polygon", "format_polygon", defArgs (topS 48), defBody (topS 48), defScope (topS 48), [], []⟩,
  ⟨fun _ => 633, "format_map", "format_map", defArgs (topS 49), defBody (topS 49), defScope (topS 49), [], []⟩,
  ⟨fun _ => 638, "integer_of", "integer_of", defArgs (topS 50), defBody (topS 50), defScope (topS 50), [], []⟩,
  ⟨fun _ => 643, "integers_of", "integers_of", defArgs (topS 51), defBody (topS 51), defScope (topS 51), [], []⟩,
  ⟨fun _ => 648, "point_of", "point_of", defArgs (topS 52), defBody (topS 52), defScope (topS 52), [], []⟩]
def dd5 : List DefA := [⟨fun _ => 653, "points_of_text", "points_of_text", defArgs (topS 53), defBody (topS 53), defScope (topS 53), [], []⟩,
  ⟨fun _ => 660, "six_of", "six_of", defArgs (topS 54), defBody (topS 54), defScope (topS 54), [], []⟩,
  ⟨fun _ => 667, "parsed", "parsed", defArgs (topS 55), defBody (topS 55), defScope (topS 55), [], []⟩,
  ⟨fun _ => 674, "parse_integer", "parse_integer", defArgs (topS 56), defBody (topS 56), defScope (topS 56), [], []⟩,
  ⟨fun _ => 681, "parse_point", "parse_point", defArgs (topS 57), defBody (topS 57), defScope (topS 57), [], []⟩,
  ⟨fun _ => 688, "parse_points", "parse_points", defArgs (topS 58), defBody (topS 58), defScope (topS 58), [], []⟩]
def dd6 : List DefA := [⟨fun _ => 695, "parse_polygon", "parse_polygon", defArgs (topS 59), defBody (topS 59), defScope (topS 59), [], []⟩,
  ⟨fun _ => 702, "parse_map", "parse_map", defArgs (topS 60), defBody (topS 60), defScope (topS 60), [], []⟩,
  ⟨fun _ => 709, "_law_pool", "_law_pool", defArgs (topS 62), defBody (topS 62), defScope (topS 62), [], []⟩,
  ⟨fun _ => 716, "_law_take", "_law_take", defArgs (topS 63), defBody (topS 63), defScope (topS 63), [], []⟩,
  ⟨fun _ => 723, "_law_number", "_law_number", defArgs (topS 64), defBody (topS 64), defScope (topS 64), [], []⟩,
  ⟨fun _ => 737, "_law_point", "_law_point", defArgs (topS 66), defBody (topS 66), defScope (topS 66), [], []⟩]
def dd7 : List DefA := [⟨fun _ => 751, "_law_format", "_law_format", defArgs (topS 68), defBody (topS 68), defScope (topS 68), [], []⟩,
  ⟨fun _ => 758, "_law_parse", "_law_parse", defArgs (topS 69), defBody (topS 69), defScope (topS 69), [], []⟩,
  ⟨fun _ => 765, "_law_bent", "_law_bent", defArgs (topS 70), defBody (topS 70), defScope (topS 70), [], []⟩,
  ⟨fun _ => 772, "_law_again", "_law_again", defArgs (topS 71), defBody (topS 71), defScope (topS 71), [], []⟩,
  ⟨fun _ => 777, "law", "law", defArgs (topS 72), defBody (topS 72), defScope (topS 72), [], []⟩,
  ⟨fun _ => 84, "__init__", "InvalidPolygon.__init__", defArgs (inClass (topS 6) 0), defBody (inClass (topS 6) 0), defScope (inClass (topS 6) 0), [], []⟩]
def dd8 : List DefA := [⟨fun _ => 103, "__init__", "DegenerateCorner.__init__", defArgs (inClass (topS 7) 0), defBody (inClass (topS 7) 0), defScope (inClass (topS 7) 0), [], []⟩,
  ⟨fun _ => 122, "__init__", "CrossingEdges.__init__", defArgs (inClass (topS 8) 0), defBody (inClass (topS 8) 0), defScope (inClass (topS 8) 0), [], []⟩,
  ⟨fun _ => 141, "__init__", "NotConvex.__init__", defArgs (inClass (topS 9) 0), defBody (inClass (topS 9) 0), defScope (inClass (topS 9) 0), [], []⟩,
  ⟨fun _ => 160, "__init__", "InvalidText.__init__", defArgs (inClass (topS 10) 0), defBody (inClass (topS 10) 0), defScope (inClass (topS 10) 0), [], []⟩,
  ⟨fun _ => 441, "__init__", "Polygon.__init__", defArgs (inClass (topS 38) 1), defBody (inClass (topS 38) 1), defScope (inClass (topS 38) 1), [], []⟩,
  ⟨fun _ => 462, "__repr__", "Polygon.__repr__", defArgs (inClass (topS 38) 4), defBody (inClass (topS 38) 4), defScope (inClass (topS 38) 4), [], []⟩]
def dd9 : List DefA := [⟨fun _ => 469, "corners", "Polygon.corners", defArgs (inClass (topS 38) 5), defBody (inClass (topS 38) 5), defScope (inClass (topS 38) 5), [], []⟩,
  ⟨fun _ => 517, "is_convex", "Polygon.is_convex", defArgs (inClass (topS 38) 11), defBody (inClass (topS 38) 11), defScope (inClass (topS 38) 11), [], []⟩,
  ⟨fun _ => 576, "__repr__", "ConvexPolygon.__repr__", defArgs (inClass (topS 39) 1), defBody (inClass (topS 39) 1), defScope (inClass (topS 39) 1), [], []⟩,
  ⟨fun _ => 228, "__init__", "GridMap.__init__", defArgs (inClass (topS 21) 1), defBody (inClass (topS 21) 1), defScope (inClass (topS 21) 1), [.int 0, .int 0], []⟩,
  ⟨fun _ => 242, "__repr__", "GridMap.__repr__", defArgs (inClass (topS 21) 3), defBody (inClass (topS 21) 3), defScope (inClass (topS 21) 3), [], []⟩,
  ⟨fun _ => 269, "numbers", "GridMap.numbers", defArgs (inClass (topS 21) 6), defBody (inClass (topS 21) 6), defScope (inClass (topS 21) 6), [], []⟩]
def dds : List DefA := dd0 ++ dd1 ++ dd2 ++ dd3 ++ dd4 ++ dd5 ++ dd6 ++ dd7 ++ dd8 ++ dd9
def clA : Cl := ⟨87, 106, 125, 68, 163, 31, 338, 549, 586, 144⟩
abbrev AlL : Type := Bool × (List He5.FnW × He5.FnW)
def obsL (g : Addr → Option Obj) : AlL := ((fcs.all fun f => f (He.frG g adrs)) && dds.all fun d => d.ok (He.frG g adrs), dds.map fun d => fnA (He.frG g adrs) (d.at_ (He.frG g adrs)), fnA (He.frG g adrs) 569)
def valL : AlL := (true, dds.map DefA.val, valC 557)
def hookL : PySem.W.Hook where
  α := AlL
  obs := fun s => obsL s.heap.get?
  val := fun _ => valL
  says := fun _ h => ∃ g : Addr → Option Obj, (He.frG g adrs).In h ∧ obsL g = valL
  of := fun _ _ e => ⟨_, He.frG_in, e⟩
  keeps := fun _ _ _ ⟨g, hK, c⟩ k => ⟨g, PySem.W.Frag.In.keeps hK k, c⟩
abbrev rw0 : PySem.W.OpenLaw := PySem.Challenge.rw_latticeshapes_k82_whole_formatted_and_pa
abbrev R : PySem.W.OpenRow := PySem.W.OpenLaw.row rw0
def nm0 : List PySem.Str := ["_wall", "ShapeError", "InvalidInteger", "InvalidPoint", "InvalidMap", "InvalidPolygon", "DegenerateCorner", "CrossingEdges", "NotConvex", "InvalidText", "is_integer", "check_integer", "is_point", "check_point"]
def nm1 : List PySem.Str := ["cross_of", "difference", "turn_of", "GridMap", "check_map", "MIN_CORNERS", "check_points", "triples", "check_turns", "is_between", "is_on", "have_common_point", "edges_of", "check_crossings"]
def nm2 : List PySem.Str := ["area_of", "arranged", "checked_corners", "first_reflex", "Polygon", "ConvexPolygon", "check_polygon", "to_polygon", "DIGITS", "MAX_DIGITS", "format_integer", "format_point", "format_points", "format_polygon"]
def nm3 : List PySem.Str := ["format_map", "integer_of", "integers_of", "point_of", "points_of_text", "six_of", "parsed", "parse_integer", "parse_point", "parse_points", "parse_polygon", "parse_map", "_law_pool", "_law_take"]
def nm4 : List PySem.Str := ["_law_number", "_law_digits", "_law_point", "_law_pair", "_law_format", "_law_parse", "_law_bent", "_law_again"]
def nms : List PySem.Str := nm0 ++ nm1 ++ nm2 ++ nm3 ++ nm4
def obT (s : PySem.W.SharedT) : AlL := obsL (HandSHeadRun.getT s)
theorem obT_eq (s : PySem.W.SharedT) : obT s = hookL.obs s.abs := by
  show obsL _ = obsL _
  rw [show HandSHeadRun.getT s = s.abs.heap.get? from funext (HandSHeadRun.getT_eq s)]
theorem run0 (w : World) : HandSHeadRun.RunEq R (PySem.W.view R.prog [72]) hookL obT 20000 nms w := by
  intro os
  kernel_rfl
end K82
set_option Elab.async false
set_option linter.all false
set_option maxRecDepth 100000
set_option maxHeartbeats 1000000
namespace K82
open PySem PySem.Spec PyProof.Rows L2 GenW K82G ClX He5
section
variable {w : World} {h base : Heap} {mg : Str → Option Value} {g : Addr → Option Obj}
theorem fact (c : obsL g = valL) (i : Nat) {t : Fr → Bool} (e : fcs[i]? = some t := by rfl) : t (He.frG g adrs) = true :=
  List.all_eq_true.mp (ba (congrArg (fun z : AlL => z.1) c)).1 t (List.mem_of_getElem? e)
theorem dfn (c : obsL g = valL) (i : Nat) {d : DefA} (e : dds[i]? = some d := by rfl) : ∃ fd, FunD (He.frG g adrs) d.name d.qual d.params d.body d.scope (d.dvs (He.frG g adrs)) (d.kws (He.frG g adrs)) (d.at_ (He.frG g adrs)) fd := by
  have c2 := (ba (congrArg (fun z : AlL => z.1) c)).2
  have e1 : dds.map (fun d => fnA (He.frG g adrs) (d.at_ (He.frG g adrs))) = dds.map DefA.val := congrArg (fun z : AlL => z.2.1) c
  have e2 : (dds.map fun d => fnA (He.frG g adrs) (d.at_ (He.frG g adrs)))[i]? = (dds.map DefA.val)[i]? := by rw [e1]
  rw [List.getElem?_map, List.getElem?_map, e] at e2
  exact DefA.funD (Option.some.inj e2) (List.all_eq_true.mp c2 d (List.mem_of_getElem? e))
theorem free_of (X : (He.frG g adrs).In h) (G : h.Ns mainGlobals mg) (c : obsL g = valL) : Free mg :=
  ⟨fr_of X G (fact c 0), fr_of X G (fact c 1), fr_of X G (fact c 2), fr_of X G (fact c 3), fr_of X G (fact c 4), fr_of X G (fact c 5), fr_of X G (fact c 6), fr_of X G (fact c 7), fr_of X G (fact c 8), fr_of X G (fact c 9), fr_of X G (fact c 10), fr_of X G (fact c 11), fr_of X G (fact c 12), fr_of X G (fact c 13), fr_of X G (fact c 14), fr_of X G (fact c 15), fr_of X G (fact c 16), fr_of X G (fact c 17)⟩
theorem t_ip (X : (He.frG g adrs).In h) (G : h.Ns mainGlobals mg) (c : obsL g = valL) : OeT (He.frG g adrs) mg "InvalidPolygon" "InvalidPolygon.__init__" 6 clA.ip ["position"] := by
  obtain ⟨fd, F⟩ := dfn c 47
  refine ⟨oex_of (fact c 95), gl_of X G (fact c 65), fun f hf => ?_, _, fd, F, ini_of (fact c 96)⟩
  · simp only [List.mem_cons, List.not_mem_nil, or_false] at hf
    obtain rfl := hf
    exact no_of (fact c 89)
theorem t_dc (X : (He.frG g adrs).In h) (G : h.Ns mainGlobals mg) (c : obsL g = valL) : OeT (He.frG g adrs) mg "DegenerateCorner" "DegenerateCorner.__init__" 7 clA.dc ["position"] := by
  obtain ⟨fd, F⟩ := dfn c 48
  refine ⟨oex_of (fact c 97), gl_of X G (fact c 66), fun f hf => ?_, _, fd, F, ini_of (fact c 98)⟩
  · simp only [List.mem_cons, List.not_mem_nil, or_false] at hf
    obtain rfl := hf
    exact no_of (fact c 90)
theorem t_ce (X : (He.frG g adrs).In h) (G : h.Ns mainGlobals mg) (c : obsL g = valL) : OeT (He.frG g adrs) mg "CrossingEdges" "CrossingEdges.__init__" 8 clA.ce ["first", "second"] := by
  obtain ⟨fd, F⟩ := dfn c 49
  refine ⟨oex_of (fact c 99), gl_of X G (fact c 67), fun f hf => ?_, _, fd, F, ini_of (fact c 100)⟩
  · simp only [List.mem_cons, List.not_mem_nil, or_false] at hf
    rcases hf with rfl | rfl
    · exact no_of (fact c 93)
    · exact no_of (fact c 94)
theorem t_nc (X : (He.frG g adrs).In h) (G : h.Ns mainGlobals mg) (c : obsL g = valL) : OeT (He.frG g adrs) mg "NotConvex" "NotConvex.__init__" 9 clA.nc ["position"] := by
  obtain ⟨fd, F⟩ := dfn c 50
  refine ⟨oex_of (fact c 101), gl_of X G (fact c 74), fun f hf => ?_, _, fd, F, ini_of (fact c 102)⟩
  · simp only [List.mem_cons, List.not_mem_nil, or_false] at hf
    obtain rfl := hf
    exact no_of (fact c 91)
theorem t_it (X : (He.frG g adrs).In h) (G : h.Ns mainGlobals mg) (c : obsL g = valL) : OeT (He.frG g adrs) mg "InvalidText" "InvalidText.__init__" 10 clA.it ["part"] := by
  obtain ⟨fd, F⟩ := dfn c 51
  refine ⟨oex_of (fact c 103), gl_of X G (fact c 69), fun f hf => ?_, _, fd, F, ini_of (fact c 104)⟩
  · simp only [List.mem_cons, List.not_mem_nil, or_false] at hf
    obtain rfl := hf
    exact no_of (fact c 92)
theorem lawF (X : (He.frG g adrs).In h) (G : h.Ns mainGlobals mg) (c : obsL g = valL) : LawF prg w (He.frG g adrs) mg base clA := by
  have Fr := free_of X G c
  have d12 : Df (He.frG g adrs) mg "is_integer" 12 := by
    obtain ⟨fd, F⟩ := dfn c 0
    exact ⟨_, fd, F, gl_of X G (fact c 18)⟩
  have d13 : DfD (He.frG g adrs) mg "check_integer" 13 [.non] := by
    obtain ⟨fd, F⟩ := dfn c 1
    exact ⟨_, fd, F, gl_of X G (fact c 19)⟩
  have d15 : Df (He.frG g adrs) mg "is_point" 15 := by
    obtain ⟨fd, F⟩ := dfn c 2
    exact ⟨_, fd, F, gl_of X G (fact c 20)⟩
  have d16 : Df (He.frG g adrs) mg "check_point" 16 := by
    obtain ⟨fd, F⟩ := dfn c 3
    exact ⟨_, fd, F, gl_of X G (fact c 21)⟩
  have d17 : Df (He.frG g adrs) mg "cross_of" 17 := by
    obtain ⟨fd, F⟩ := dfn c 4
    exact ⟨_, fd, F, gl_of X G (fact c 22)⟩
  have d18 : Df (He.frG g adrs) mg "difference" 18 := by
    obtain ⟨fd, F⟩ := dfn c 5
    exact ⟨_, fd, F, gl_of X G (fact c 23)⟩
  have d19 : Df (He.frG g adrs) mg "turn_of" 19 := by
    obtain ⟨fd, F⟩ := dfn c 6
    exact ⟨_, fd, F, gl_of X G (fact c 24)⟩
  have d22 : Df (He.frG g adrs) mg "check_map" 22 := by
    obtain ⟨fd, F⟩ := dfn c 7
    exact ⟨_, fd, F, gl_of X G (fact c 25)⟩
  have d25 : Df (He.frG g adrs) mg "check_points" 25 := by
    obtain ⟨fd, F⟩ := dfn c 8
    exact ⟨_, fd, F, gl_of X G (fact c 26)⟩
  have d26 : Df (He.frG g adrs) mg "triples" 26 := by
    obtain ⟨fd, F⟩ := dfn c 9
    exact ⟨_, fd, F, gl_of X G (fact c 27)⟩
  have d27 : Df (He.frG g adrs) mg "check_turns" 27 := by
    obtain ⟨fd, F⟩ := dfn c 10
    exact ⟨_, fd, F, gl_of X G (fact c 28)⟩
  have d28 : Df (He.frG g adrs) mg "is_between" 28 := by
    obtain ⟨fd, F⟩ := dfn c 11
    exact ⟨_, fd, F, gl_of X G (fact c 29)⟩
  have d29 : Df (He.frG g adrs) mg "is_on" 29 := by
    obtain ⟨fd, F⟩ := dfn c 12
    exact ⟨_, fd, F, gl_of X G (fact c 30)⟩
  have d30 : Df (He.frG g adrs) mg "have_common_point" 30 := by
    obtain ⟨fd, F⟩ := dfn c 13
    exact ⟨_, fd, F, gl_of X G (fact c 31)⟩
  have d31 : Df (He.frG g adrs) mg "edges_of" 31 := by
    obtain ⟨fd, F⟩ := dfn c 14
    exact ⟨_, fd, F, gl_of X G (fact c 32)⟩
  have d32 : Df (He.frG g adrs) mg "check_crossings" 32 := by
    obtain ⟨fd, F⟩ := dfn c 15
    exact ⟨_, fd, F, gl_of X G (fact c 33)⟩
  have d33 : Df (He.frG g adrs) mg "area_of" 33 := by
    obtain ⟨fd, F⟩ := dfn c 16
    exact ⟨_, fd, F, gl_of X G (fact c 34)⟩
  have d34 : Df (He.frG g adrs) mg "arranged" 34 := by
    obtain ⟨fd, F⟩ := dfn c 17
    exact ⟨_, fd, F, gl_of X G (fact c 35)⟩
  have d35 : Df (He.frG g adrs) mg "checked_corners" 35 := by
    obtain ⟨fd, F⟩ := dfn c 18
    exact ⟨_, fd, F, gl_of X G (fact c 36)⟩
  have d37 : Df (He.frG g adrs) mg "first_reflex" 37 := by
    obtain ⟨fd, F⟩ := dfn c 19
    exact ⟨_, fd, F, gl_of X G (fact c 37)⟩
  have d40 : Df (He.frG g adrs) mg "check_polygon" 40 := by
    obtain ⟨fd, F⟩ := dfn c 20
    exact ⟨_, fd, F, gl_of X G (fact c 38)⟩
  have d41 : Df (He.frG g adrs) mg "to_polygon" 41 := by
    obtain ⟨fd, F⟩ := dfn c 21
    exact ⟨_, fd, F, gl_of X G (fact c 39)⟩
  have d45 : Df (He.frG g adrs) mg "format_integer" 45 := by
    obtain ⟨fd, F⟩ := dfn c 22
    exact ⟨_, fd, F, gl_of X G (fact c 40)⟩
  have d46 : Df (He.frG g adrs) mg "format_point" 46 := by
    obtain ⟨fd, F⟩ := dfn c 23
    exact ⟨_, fd, F, gl_of X G (fact c 41)⟩
  have d47 : Df (He.frG g adrs) mg "format_points" 47 := by
    obtain ⟨fd, F⟩ := dfn c 24
    exact ⟨_, fd, F, gl_of X G (fact c 42)⟩
  have d48 : Df (He.frG g adrs) mg "format_polygon" 48 := by
    obtain ⟨fd, F⟩ := dfn c 25
    exact ⟨_, fd, F, gl_of X G (fact c 43)⟩
  have d49 : Df (He.frG g adrs) mg "format_map" 49 := by
    obtain ⟨fd, F⟩ := dfn c 26
    exact ⟨_, fd, F, gl_of X G (fact c 44)⟩
  have d50 : Df (He.frG g adrs) mg "integer_of" 50 := by
    obtain ⟨fd, F⟩ := dfn c 27
    exact ⟨_, fd, F, gl_of X G (fact c 45)⟩
  have d51 : Df (He.frG g adrs) mg "integers_of" 51 := by
    obtain ⟨fd, F⟩ := dfn c 28
    exact ⟨_, fd, F, gl_of X G (fact c 46)⟩
  have d52 : Df (He.frG g adrs) mg "point_of" 52 := by
    obtain ⟨fd, F⟩ := dfn c 29
    exact ⟨_, fd, F, gl_of X G (fact c 47)⟩
  have d53 : Df (He.frG g adrs) mg "points_of_text" 53 := by
    obtain ⟨fd, F⟩ := dfn c 30
    exact ⟨_, fd, F, gl_of X G (fact c 48)⟩
  have d54 : Df (He.frG g adrs) mg "six_of" 54 := by
    obtain ⟨fd, F⟩ := dfn c 31
    exact ⟨_, fd, F, gl_of X G (fact c 49)⟩
  have d55 : Df (He.frG g adrs) mg "parsed" 55 := by
    obtain ⟨fd, F⟩ := dfn c 32
    exact ⟨_, fd, F, gl_of X G (fact c 50)⟩
  have d56 : Df (He.frG g adrs) mg "parse_integer" 56 := by
    obtain ⟨fd, F⟩ := dfn c 33
    exact ⟨_, fd, F, gl_of X G (fact c 51)⟩
  have d57 : Df (He.frG g adrs) mg "parse_point" 57 := by
    obtain ⟨fd, F⟩ := dfn c 34
    exact ⟨_, fd, F, gl_of X G (fact c 52)⟩
  have d58 : Df (He.frG g adrs) mg "parse_points" 58 := by
    obtain ⟨fd, F⟩ := dfn c 35
    exact ⟨_, fd, F, gl_of X G (fact c 53)⟩
  have d59 : Df (He.frG g adrs) mg "parse_polygon" 59 := by
    obtain ⟨fd, F⟩ := dfn c 36
    exact ⟨_, fd, F, gl_of X G (fact c 54)⟩
  have d60 : Df (He.frG g adrs) mg "parse_map" 60 := by
    obtain ⟨fd, F⟩ := dfn c 37
    exact ⟨_, fd, F, gl_of X G (fact c 55)⟩
  have d62 : Df (He.frG g adrs) mg "_law_pool" 62 := by
    obtain ⟨fd, F⟩ := dfn c 38
    exact ⟨_, fd, F, gl_of X G (fact c 56)⟩
  have d63 : Df (He.frG g adrs) mg "_law_take" 63 := by
    obtain ⟨fd, F⟩ := dfn c 39
    exact ⟨_, fd, F, gl_of X G (fact c 57)⟩
  have d64 : Df (He.frG g adrs) mg "_law_number" 64 := by
    obtain ⟨fd, F⟩ := dfn c 40
    exact ⟨_, fd, F, gl_of X G (fact c 58)⟩
  have d66 : Df (He.frG g adrs) mg "_law_point" 66 := by
    obtain ⟨fd, F⟩ := dfn c 41
    exact ⟨_, fd, F, gl_of X G (fact c 59)⟩
  have d68 : Df (He.frG g adrs) mg "_law_format" 68 := by
    obtain ⟨fd, F⟩ := dfn c 42
    exact ⟨_, fd, F, gl_of X G (fact c 60)⟩
  have d69 : Df (He.frG g adrs) mg "_law_parse" 69 := by
    obtain ⟨fd, F⟩ := dfn c 43
    exact ⟨_, fd, F, gl_of X G (fact c 61)⟩
  have d70 : Df (He.frG g adrs) mg "_law_bent" 70 := by
    obtain ⟨fd, F⟩ := dfn c 44
    exact ⟨_, fd, F, gl_of X G (fact c 62)⟩
  have d71 : Df (He.frG g adrs) mg "_law_again" 71 := by
    obtain ⟨fd, F⟩ := dfn c 45
    exact ⟨_, fd, F, gl_of X G (fact c 63)⟩
  have k1 : Cls (He.frG g adrs) clA.gm := cls_of (fact c 78)
  have k2 : Cls (He.frG g adrs) clA.pg := cls_of (fact c 79)
  have k3 : Cls (He.frG g adrs) clA.cp := cls_of (fact c 80)
  have PC : PolyC (He.frG g adrs) mg clA := ⟨gl_of X G (fact c 72), k2, k3, no_of (fact c 85), no_of (fact c 87), no_of (fact c 86), no_of (fact c 88), mc_of (fact c 127) (fact c 128)⟩
  have MC : MapC (He.frG g adrs) mg clA := ⟨k1, no_of (fact c 84), gl_of X G (fact c 71)⟩
  have Kt : Kit (He.frG g adrs) clA := ⟨isc_of k2 (fact c 82), isc_of k3 (fact c 83), isc_of k1 (fact c 81), of_decide_eq_true (fact c 106), of_decide_eq_true (fact c 107), of_decide_eq_true (fact c 108), of_decide_eq_true (fact c 109), of_decide_eq_true (fact c 110)⟩
  have oM : Op (He.frG g adrs) mg "InvalidMap" clA.im := op_of (gl_of X G (fact c 68)) (fact c 105)
  have tip := t_ip X G c
  have tdc := t_dc X G c
  have tce := t_ce X G c
  have tnc := t_nc X G c
  have tit := t_it X G c
  have SF : ShF (He.frG g adrs) mg clA := ⟨gl_of X G (fact c 70), fun cls hs => by
    rcases hs with rfl | rfl | rfl | rfl | rfl
    · exact ⟨of_decide_eq_true (fact c 111), tip.oex.exC⟩
    · exact ⟨of_decide_eq_true (fact c 112), tdc.oex.exC⟩
    · exact ⟨of_decide_eq_true (fact c 113), tce.oex.exC⟩
    · exact ⟨of_decide_eq_true (fact c 114), oM.exC⟩
    · exact ⟨of_decide_eq_true (fact c 115), tnc.oex.exC⟩⟩
  have c12 := ok_is_integer Fr d12 (P := prg) (w := w) (base := base)
  have c13 := ok_check_integer d13 c12 (P := prg) (w := w) (base := base)
  have c15 := ok_is_point Fr d15 c12 (P := prg) (w := w) (base := base)
  have c16 := ok_check_point d16 c15 (P := prg) (w := w) (base := base)
  have c17 := ok_cross_of d17 (P := prg) (w := w) (base := base)
  have c18 := ok_difference d18 (P := prg) (w := w) (base := base)
  have c19 := ok_turn_of d19 c17 c18 (P := prg) (w := w) (base := base)
  have c25 := ok_check_points Fr d25 c15 (P := prg) (w := w) (base := base)
  have c27 := ok_check_turns (A := clA) Fr d27 d26 c19 (oe_dc tdc) (P := prg) (w := w) (base := base)
  have c37 := ok_first_reflex Fr d37 d26 c19 (P := prg) (w := w) (base := base)
  have c28 := ok_is_between Fr d28 (P := prg) (w := w) (base := base)
  have c29 := ok_is_on d29 c19 c28 (P := prg) (w := w) (base := base)
  have c30 := ok_have_common d30 c19 c29 (P := prg) (w := w) (base := base)
  have c31 := ok_edges_of Fr d31 (P := prg) (w := w) (base := base)
  have c32 := ok_check_crossings (A := clA) Fr d32 c31 c30 (oe_ce tce) (P := prg) (w := w) (base := base)
  have c33 := ok_area_of Fr d33 c31 c17 (P := prg) (w := w) (base := base)
  have c34 := ok_arranged Fr d34 c33 (P := prg) (w := w) (base := base)
  have cMC : ∃ u, mg "MIN_CORNERS" = some u ∧ RelV (.int 3) u := by
    obtain ⟨t, e⟩ := He.int_ok X G (fact c 75)
    exact ⟨_, e, t, rfl⟩
  have cMD : ∃ u, mg "MAX_DIGITS" = some u ∧ RelV (.int 300) u := by
    obtain ⟨t, e⟩ := He.int_ok X G (fact c 76)
    exact ⟨_, e, t, rfl⟩
  have cDG : ∃ u, mg "DIGITS" = some u ∧ RelV (.str "0123456789") u := by
    obtain ⟨t, e⟩ := He.str_ok X G (fact c 77)
    exact ⟨_, e, t, rfl⟩
  have c35 := ok_checked (A := clA) Fr d35 cMC c25 c27 c32 c34 (oe_ip tip)
  obtain ⟨fdP, FP⟩ := dfn c 52
  obtain ⟨fdQ, FQ⟩ := dfn c 53
  obtain ⟨fdC, FC⟩ := dfn c 54
  obtain ⟨fdV, FV⟩ := dfn c 55
  obtain ⟨fdS, FS⟩ := dfn c 56
  obtain ⟨fdG, FG⟩ := dfn c 57
  obtain ⟨fdH, FH⟩ := dfn c 58
  obtain ⟨fdN, FN⟩ := dfn c 59
  have iP := ok_poly_init (P := prg) (w := w) (base := base) PC FP c35 c37
  have bP : Binds (He.frG g adrs) fdP ["self", "corners"] [] := FunD.bindsN FP fun _ _ _ _ _ _ us hl => match us, hl with | [_, _], _ => rfl
  have mP : MkC prg w (He.frG g adrs) mg base 7 "Polygon" clA.pg (spPInit clA) := ⟨PC.nm, _, fdP, _, mk_of (fact c 118), iP, bP⟩
  obtain ⟨fdI, S, bI⟩ := sup_of (A := clA) (base := base) (congrArg (fun z : AlL => z.2.2) c) (fact c 129)
  have mC : MkC prg w (He.frG g adrs) mg base 8 "ConvexPolygon" clA.cp (spCInit clA) := ⟨gl_of X G (fact c 73), _, fdI, _, mk_of (fact c 119), ok_cp_init PC Fr S iP bP (oe_nc tnc), bI⟩
  have bG : Binds (He.frG g adrs) fdG P21 [] := by
    obtain ⟨ds, v, b⟩ := FunD.binds1 (ps := P21) FG 7 2 (by simp [DefA.dvs]) rfl (fun _ _ _ _ _ _ _ us its hl hi => match us, hl, its, hi with | [_, _, _, _, _, _, _], _, [_, _], _ => ⟨_, rfl, rfl⟩)
    cases v
    exact b
  have mG : MkC prg w (He.frG g adrs) mg base 3 "GridMap" clA.gm (spGInit clA) := ⟨MC.nm, _, fdG, _, mk_of (fact c 117), ok_map_init MC Fr FG c13 oM, bG⟩
  have pK : PropC prg w (He.frG g adrs) mg base clA.pg "corners" (spFld (K := (He.frG g adrs)) "kept") := ⟨k2, _, _, fdC, ["self"], prop_of (fact c 120), ok_corners FC, FunD.bindsN FC fun _ _ _ _ _ _ us hl => match us, hl with | [_], _ => rfl⟩
  have pK2 : PropC prg w (He.frG g adrs) mg base clA.cp "corners" (spFld (K := (He.frG g adrs)) "kept") := ⟨k3, _, _, fdC, ["self"], prop_of (fact c 121), ok_corners FC, FunD.bindsN FC fun _ _ _ _ _ _ us hl => match us, hl with | [_], _ => rfl⟩
  have pV : PropC prg w (He.frG g adrs) mg base clA.pg "is_convex" (spConv (K := (He.frG g adrs))) := ⟨k2, _, _, fdV, ["self"], prop_of (fact c 122), ok_is_convex FV, FunD.bindsN FV fun _ _ _ _ _ _ us hl => match us, hl with | [_], _ => rfl⟩
  have pN : PropC prg w (He.frG g adrs) mg base clA.gm "numbers" (spFld (K := (He.frG g adrs)) "six") := ⟨k1, _, _, fdN, ["self"], prop_of (fact c 123), ok_numbers FN, FunD.bindsN FN fun _ _ _ _ _ _ us hl => match us, hl with | [_], _ => rfl⟩
  have c41 := ok_to_polygon PC d41 mP mC pK pV
  have c45 := ok_fmt_int (P := prg) (w := w) (base := base) Fr d45 c13
  have c46 := ok_fmt_pt d46 c16
  have c47 := ok_fmt_pts Fr d47 c25 c46
  have c40 := ok_chk_poly (P := prg) (w := w) (base := base) Fr Kt PC d40
  have c48 := ok_fmt_poly PC d48 c40 c47 pK pK2
  have c22 := ok_chk_map (P := prg) (w := w) (base := base) Fr Kt MC d22
  have c49 := ok_fmt_map Fr MC d49 c22 pN
  have c50 := ok_integer_of (P := prg) (w := w) (base := base) Fr d50 cMD cDG
  have c51 := ok_integers_of d51 c50
  have c52 := ok_point_of d52 c51
  have c53 := ok_points_of d53 c52
  have c54 := ok_six_of Fr d54 c51
  have c55 := ok_parsed (P := prg) (w := w) (base := base) (A := clA) Fr (oe_it tit) d55
  have c56 := ok_parse_integer d56 c55 c50
  have c57 := ok_parse_point d57 c55 c52
  have c58 := ok_parse_points d58 c55 c53
  have c59 := ok_parse_polygon SF tit d59 c55 c53 c41
  have c60 := ok_parse_map SF tit d60 c55 c54 mG
  have c62 := ok_pool (P := prg) (w := w) (base := base) Fr d62
  have c63 := ok_take (P := prg) (w := w) (base := base) d63
  have c64 := ok_num d64 c63
  have c66 := ok_lpt d66 c64
  have c68 := ok_lformat d68 c45 c46 c47 c48 c49
  have c69 := ok_lparse d69 c56 c57 c58 c59 c60
  have c70 := ok_bent Fr d70 c63
  have c71 := ok_again Fr tit (of_decide_eq_true (fact c 116)) d71 c69 c68
  have rp : Rpr prg w (He.frG g adrs) mg base clA := by
    obtain ⟨r1, r2⟩ := rep_of (fact c 125)
    obtain ⟨r3, r4⟩ := rep_of (fact c 126)
    obtain ⟨r5, r6⟩ := rep_of (fact c 124)
    exact ⟨⟨_, r1, r2, ok_poly_repr PC Fr FQ⟩, ⟨_, r3, r4, ok_conv_repr PC Fr FS⟩, ⟨_, r5, r6, ok_map_repr MC FH⟩⟩
  exact ⟨Fr, c62, c63, c64, c66, c68, c69, c70, c71, c41, mG, gl_of X G (fact c 73), Kt, rp⟩
theorem law_def (c : obsL g = valL) : ∃ fd, FunD (He.frG g adrs) "law" "law" (defArgs (topS 72)) (defBody (topS 72)) (defScope (topS 72)) [] [] 777 fd := dfn c 46
theorem law_glo (X : (He.frG g adrs).In h) (G : h.Ns mainGlobals mg) (c : obsL g = valL) : mg "law" = some (.ref 777) := gl_of X G (fact c 64)
end
end K82
set_option Elab.async false
set_option linter.all false
set_option maxRecDepth 100000
set_option maxHeartbeats 1000000
namespace K82
open PySem PySem.Spec PyProof.Rows L2 GenW K82G ClX He5
/-! ### the law's call at the top -/
theorem lawRun {w : World} {K : Fr} {mg mb : Str → Option Value} {fa a : Addr} {s : Shared} {its : List Value} {ns : List Int} (X : K.In s.heap) (gm : s.heap.Ns mainGlobals mg) (gb : s.heap.Ns builtinsNs mb)
    (gbb : ∀ x : Str, x ≠ "__name__" → mb x = bootBuiltins x) (nl : s.heap.NoLimit) (gg : s.gens = #[]) (oa : s.heap.get? a = some { cls := .type "list", data := .seq its.toArray }) (ri : IntsAre its ns) (sz : ns.length ≤ sizeLine) (rm : Room 14 callerA)
    (prom : ∀ b0 : Heap, K.In b0 → b0.Ns mainGlobals mg → FnG prg w K mg b0 CX0 14 fa (spLaw K)) :
    codeAny (model prg w) callerA (.call (.ref fa) ⟨[.ref a], []⟩) (fun r t => r = .ok (.ret (.bool true)) ∧ OldK s.heap t.heap ∧ t.os = s.os ∧ AllBare t.gens) s := by
  have vi := vals_ints ri
  have li : its.length = ns.length := ri.length
  obtain ⟨H, hH, hok, sq⟩ : ∃ H : Hp, (∀ b u, H b = some u → b = a ∧ K.lookup a = none ∧ ∃ ob xs, u = .frz ob xs ∧ s.heap.get? a = some ob) ∧ HOk prg w H s.heap ∧ SqL K H a (ns.map V.int) := by
    cases kl : K.lookup a with
    | some o =>
      have e := X a o kl
      rw [oa] at e
      cases e
      exact ⟨fun _ => none, fun b u z => (nomatch z), fun b u z => (nomatch z), .inr ⟨_, _, _, kl, rfl, rfl, rfl, by rw [List.size_toArray, li]; exact sz, by simpa using vi⟩⟩
    | none =>
      have one : ∀ b u, upd (fun _ => none) a (.frz { cls := .type "list", data := .seq its.toArray } (.lst (ns.map V.int))) b = some u → b = a ∧ u = .frz { cls := .type "list", data := .seq its.toArray } (.lst (ns.map V.int)) := fun b u z => by
        by_cases e : b = a
        · rw [e, upd_same] at z
          exact ⟨e, (Option.some.inj z).symm⟩
        · rw [upd_ne e] at z
          cases z
      refine ⟨upd (fun _ => none) a (.frz { cls := .type "list", data := .seq its.toArray } (.lst (ns.map V.int))), fun b u z => ?_, fun b u z => ?_, .inl (.inr ⟨_, upd_same⟩)⟩
      · obtain ⟨e1, e2⟩ := one b u z
        exact ⟨e1, rfl, _, _, e2, oa⟩
      · obtain ⟨rfl, rfl⟩ := one b u z
        exact ⟨oa, by rw [List.length_map]; exact sz, its, _, vi, oa⟩
  have nsK : ∀ {b : Addr} {m : Str → Option Value}, s.heap.Ns b m → (hidT s.heap H).Ns b m := fun {b m} ⟨o, es, ep, e, d, r⟩ => ⟨o, es, ep, hidT_get e (by
    cases z : H b with
    | none => rfl
    | some u =>
      obtain ⟨rfl, _⟩ := hH b u z
      rw [oa] at e
      cases e
      cases d), d, r⟩
  have inK : K.In (hidT s.heap H) := fun b o e => hidT_get (X b o e) (by
    cases z : H b with
    | none => rfl
    | some u =>
      obtain ⟨rfl, n, _⟩ := hH b u z
      rw [n] at e
      cases e)
  obtain ⟨mc, l1, l2⟩ := nl
  have e0 : Env0 prg w K mg (hidT s.heap H) callerA [] s H := ⟨rfl, ⟨inK, nsK gm, ⟨mb, nsK gb, gbb⟩, ⟨mc, nsK l1, l2⟩⟩, fun _ _ e => of_hidT e, Nat.le_of_eq (hidT_size _ _), trivial, fun b hb => absurd (show b ∈ ([] : List Addr) from hb) (by simp), hok, .of_eq gg⟩
  refine codeAny_mono (prom _ inK (nsK gm) callerA [] s H [.ref a] [.ref a] (fun v _ => v = .bl true) E0 rm rfl e0 (.cons rfl .nil) ⟨a, ns, rfl, sq, fun _ => rfl⟩) fun r t q => ?_
  match r, q with
  | .error e, q => exact q.elim
  | .ok .next, q => exact q.elim
  | .ok .brk, q => exact q.elim
  | .ok .cont, q => exact q.elim
  | .ok (.ret u), q =>
    obtain ⟨v, H2, os, bare, un, hok2, rv, ev⟩ := q
    have ev' : v = .bl true := ev
    subst ev'
    obtain rfl : u = Value.bool true := rv
    refine ⟨rfl, OldK.of_keep fun b o e => ?_, os, bare⟩
    cases z : H b with
    | none => exact un.keep b o e z (fun m => absurd (show b ∈ ([] : List Addr) from m) (by simp)) (by simp)
    | some u =>
      obtain ⟨rfl, _, ob, xs, rfl, eo⟩ := hH b u z
      rw [eo] at e
      cases e
      exact (hok2 b _ (un.frzs b _ xs z)).1
end K82
open PySem PySem.W PySem.Calls PyProof.Rows
theorem PySem.Challenge.cw_latticeshapes_k82_whole_formatted_and_pa_holds : PySem.Challenge.rw_latticeshapes_k82_whole_formatted_and_pa.Holds := by
  w_on; o_law
  refine HandSHeadRun.head_any (r := OpenLaw.row PySem.Challenge.rw_latticeshapes_k82_whole_formatted_and_pa) (q := view K82.R.prog [72]) (H := K82.hookL) (ob := K82.obT) (M := 20000) (loose := K82.nms) (d := HandSHeadRun.topDef K82.R.prog 72) (kwd := []) K82.obT_eq
    (by kernel_rfl) (fun s => by kernel_rfl) K82.run0 (by kernel_rfl) (by kernel_rfl) (by kernel_rfl) (by rfl) (by first | assumption | decide +kernel) (by decide +kernel) ⟨rfl, rfl, rfl, rfl, rfl, by decide +kernel⟩ ?hw ?hc
  case hw => w_witness2
  case hc =>
    refine Att.attach_call (n := 63) rfl (by kernel_rfl) fun w s₀ s₁ mg mb fa o pm cd doc a vs ns G Y ho hd hcd hmg hobj hints hlen hg => ?_
    obtain ⟨g, KX, c⟩ := Y
    have e : (HandSHeadRun.topDef K82.R.prog 72).name = ("law" : PySem.Str) := by kernel_rfl
    rw [e] at hmg
    have e2 := K82.law_glo KX G.T.g c
    rw [hmg] at e2
    cases e2
    obtain ⟨fd, F⟩ := K82.law_def c
    exact K82.lawRun KX G.T.g G.T.b G.T.builtins G.T.nolimit hg hobj hints (Nat.le_trans hlen (by decide)) ⟨rfl, by decide, by decide⟩ fun b0 _ _ => K82.ok_law (K82.lawF KX G.T.g c) F
