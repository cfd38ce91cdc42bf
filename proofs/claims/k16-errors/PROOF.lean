import PyProof.Rows.All
import Wide.All
import OpenK.AllK
import Wide.FinOn
import HandS.ForMost
import HandS.Wide
import HandS.IsInst
import HandS.Flow
import HandS.Defaults
import HandS.Walk
import HandS.TupAny
import HandS.StrMore
import HandS.HeadEnd
import PyProof.ReprRoads
import HandS.ExcInit
import HandS.ExcField
import HandS.ExcIs
import KE.KExcIs
import HandS.HeadHook1
import PyProof.EqKinds
import HandS.SetFor
import HandS.Head0
import HandS.Head1
import HandS.Head2
import HandS.HeadHook2
import HandS.HeadHook3
import HandS.HeadHook4
import HandS.Style
import PySem.Challenge.RW_unseenwrites_k16_errors_made
set_option Elab.async false
set_option linter.all false
set_option maxRecDepth 100000
set_option maxHeartbeats 4000000
namespace Ub
open PySem PySem.Spec PyProof.Rows L2
section
variable {X : Cx}
/-! ### rules that the layer lacks -/
/-- xs[i] as a value behind an operator's store, i not below 0 -/
theorem get_list : PGet X (fun x y H Q => ∃ p xs i v, x = .ref p ∧ y = .int i ∧ SqL X.K H p xs ∧ 0 ≤ i ∧ xs[i.toNat]? = some v ∧ Q v H) := by
  intro pins s σ H x y v u Q I rx ry h
  obtain ⟨p, xs, i, z, rfl, rfl, hq, h0, he, q⟩ := h
  cases rx
  obtain ⟨t, rfl⟩ := ry
  obtain ⟨its, r, pl, hz⟩ := I.list hq
  obtain ⟨w, ew, rw'⟩ := r.get he
  have hn := line63
  have hlt : i.toNat < xs.length := (List.getElem?_eq_some_iff.mp he).1
  have fin : EP X pins σ Q w s := ⟨z, H, I, rw', q⟩
  exact wpAny_getItem_list pl.isList h0 (by omega) (by simpa using ew) fin
/-- a text times a number -/
theorem op_mul_si : OpR X (binaryOp .Mult) (fun x y H Q => ∃ (z : Str) (n : Int) (L N : Nat), x = .str z ∧ y = .int n ∧ z.length ≤ L ∧ 0 ≤ n ∧ n ≤ (N : Int) ∧ N ≤ 16777216 ∧ L * N ≤ 16777216 ∧ Q (.str (Txt.mul z n)) H) := by
  intro pins s σ H x y v u Q I rx ry h
  obtain ⟨z, n, L, N, rfl, rfl, h1, h0, h2, h3, h4, q⟩ := h
  obtain ⟨t, rfl⟩ := rx
  obtain ⟨t', rfl⟩ := ry
  exact SB.mul (mulOk_of L N h1 h2 (by omega) h3 h4) fun t' k => ⟨.str (Txt.mul z n), H, I.tok _, ⟨_, rfl⟩, q⟩
theorem signs_vals (x : Str) : ∀ (acc : List Value) (i : Nat), (∀ (j : Nat) v, acc[j]? = some v → SignAt x (i + j) v) → acc.length + i = x.cps.size → Vals ((x.cps.toList.drop i).map fun c => V.str ⟨#[c]⟩) acc
  | [], i, _, hl => by
    have e : x.cps.toList.drop i = [] := List.drop_of_length_le (by simp at hl ⊢; omega)
    rw [e]
    exact .nil
  | v :: r, i, h, hl => by
    obtain ⟨c, u, e1, e2⟩ := h 0 v rfl
    have e3 : x.cps.toList[i]? = some c := by simpa using e1
    have hi : i < x.cps.toList.length := (List.getElem?_eq_some_iff.mp e3).1
    rw [List.drop_eq_getElem_cons hi, List.map_cons]
    have e4 : x.cps.toList[i] = c := (List.getElem?_eq_some_iff.mp e3).2
    rw [e4]
    refine .cons ⟨u, e2⟩ (signs_vals x r (i + 1) (fun j w e => ?_) (by simp at hl ⊢; omega))
    have := h (j + 1) w (by simpa using e)
    rw [show i + 1 + j = i + (j + 1) by omega]
    exact this
/-- list(text) -/
theorem call_list_str (hc : X.calm = true) : CallR X (.type "list") (fun xs H Q => ∃ z : Str, xs = [.str z] ∧ z.length ≤ sizeLine ∧ ∀ l, H l = none → Q (.ref l) (upd H l (.lst (z.cps.toList.map fun c => V.str ⟨#[c]⟩)))) := by
  intro pins s σ H xs us Q I r h
  obtain ⟨z, rfl, hz, q⟩ := h
  obtain ⟨u, rfl, t, rfl⟩ := vals1 r
  have hz2 : z.cps.size ≤ sizeLine := hz
  refine PySem.call_list_str (I.ok.hd hc) z t (fun h' tk acc' c' kp e hacc => ?_) hz2
  have hv : Vals (z.cps.toList.map fun c => V.str ⟨#[c]⟩) acc'.toList := by
    have := signs_vals z acc'.toList 0 (fun j v hj => by
      rw [Nat.zero_add]
      exact hacc.2 j v (by simpa using hj)) (by simpa using hacc.1)
    simpa using this
  refine ⟨.ref s.heap.objs.size, upd H s.heap.objs.size (.lst (z.cps.toList.map fun c => V.str ⟨#[c]⟩)), I.laid (t' := tk) kp (Nat.le_refl _) (show ObjOk X.prog X.w _ _ _ (.lst (z.cps.toList.map fun c => V.str ⟨#[c]⟩)) from ⟨by simpa using hz2, acc'.toList, c', hv, by rw [Array.toArray_toList]; exact e⟩), rfl, q _ (I.hok.fresh (Nat.le_refl _))⟩
end
/-! ### a def by its name -/
structure Cal (P : Program) (w : World) (K : PySem.W.Frag) (mg : Str → Option Value) (base : Heap) (k : Nat) (x : Str) (ps : List Str) (sp : Sp) : Prop where
  ex : ∃ f fd, FnOk P w K mg base CX0 k f fd ps sp ∧ mg x = some (.ref f) ∧ PySem.W.keepIn K (.ref f) = true ∧ Binds K fd ps []
section
variable {X : Cx} {k : Nat} {x : Str} {ps : List Str} {sp : Sp} {e : Expr} {es : List Expr} {p pos : Pos} {t : TA}
theorem pe_cal (C : Cal X.prog X.w X.K X.mg X.base k x ps sp) (hr : Room k X.A) (hg : Gl X x)
    (ha : PA X (e :: es) t) (hdb : (x == ("__debug__" : Str)) = false := by decide) (he : starEach (e :: es) X.env = (false, eval e X.env) :: starEach es X.env := by rfl) (hpl : (backTo pos (starEach es X.env)).any (·.1) = false := by rfl) :
    PE X (.Call (.Name x p) (e :: es) [] pos) (tCall sp [] E0 t) := by
  obtain ⟨f, fd, F, hm, hk, hb⟩ := C.ex
  exact pe_call F hr hg hm hk hb .nil pass0 ha hdb he hpl
theorem Cal.mono {P : Program} {w : World} {K : PySem.W.Frag} {mg : Str → Option Value} {base : Heap} {j k : Nat} (C : Cal P w K mg base j x ps sp) (h : j ≤ k) : Cal P w K mg base k x ps sp := by
  obtain ⟨f, fd, F, hm, hk, hb⟩ := C.ex
  exact ⟨f, fd, F.mono h, hm, hk, hb⟩
end
/-- a def with defaults, called with fewer arguments -/
structure CalD (P : Program) (w : World) (K : PySem.W.Frag) (mg : Str → Option Value) (base : Heap) (k : Nat) (x : Str) (ps : List Str) (dvs : List V) (sp : Sp) : Prop where
  ex : ∃ f fd ds, FnOk P w K mg base CX0 k f fd ps sp ∧ mg x = some (.ref f) ∧ PySem.W.keepIn K (.ref f) = true ∧ Binds K fd ps ds ∧ Vals dvs ds
theorem pe_calD {X : Cx} {k : Nat} {x : Str} {ps : List Str} {dvs : List V} {sp : Sp} {e : Expr} {es : List Expr} {p pos : Pos} {t : TA} (C : CalD X.prog X.w X.K X.mg X.base k x ps dvs sp) (hr : Room k X.A) (hg : Gl X x)
    (ha : PA X (e :: es) t) (hdb : (x == ("__debug__" : Str)) = false := by decide) (he : starEach (e :: es) X.env = (false, eval e X.env) :: starEach es X.env := by rfl) (hpl : (backTo pos (starEach es X.env)).any (·.1) = false := by rfl) :
    PE X (.Call (.Name x p) (e :: es) [] pos) (tCall sp dvs E0 t) := by
  obtain ⟨f, fd, ds, F, hm, hk, hb, hd⟩ := C.ex
  exact pe_call F hr hg hm hk hb hd pass0 ha hdb he hpl
/-! ### heaps -/
theorem same_upd {H : Hp} {p : Addr} {o : HO} (h : H p = none) : Same H (upd H p o) := fun b x e => by
  rw [upd_ne (ne_of_none e h)]
  exact e
theorem Same.tup {K : PySem.W.Frag} {H H' : Hp} {a : Addr} {xs : List V} (e : Same H H') (h : SqT K H a xs) : SqT K H' a xs := by
  rcases h with (h | ⟨o, h⟩) | h
  · exact .inl (.inl (e _ _ h))
  · exact .inl (.inr ⟨o, e _ _ h⟩)
  · exact .inr h
/-! ### names of the module by what they hold -/
section
variable {X : Cx} {x : Str} {pos : Pos}
theorem pe_globI {i : Int} (hg : Gl X x) (hm : ∃ t, X.mg x = some (.int i t)) (hd : (x == ("__debug__" : Str)) = false := by decide) : PE X (.Name x pos) (tC (.int i)) := by
  obtain ⟨t, hm⟩ := hm
  exact pe_glob hg hm ⟨t, rfl⟩ hd
theorem pe_globS {z : Str} (hg : Gl X x) (hm : ∃ t, X.mg x = some (.str z t)) (hd : (x == ("__debug__" : Str)) = false := by decide) : PE X (.Name x pos) (tC (.str z)) := by
  obtain ⟨t, hm⟩ := hm
  exact pe_glob hg hm ⟨t, rfl⟩ hd
theorem pe_globR {a : Addr} (hg : Gl X x) (hm : X.mg x = some (.ref a)) (hd : (x == ("__debug__" : Str)) = false := by decide) : PE X (.Name x pos) (tC (.ref a)) := pe_glob hg hm rfl hd
end
/-! ### the rules with the written part named -/
section
variable {X : Cx} {K : PySem.W.Frag}
theorem op_in_seqK (K : PySem.W.Frag) (e : X.K = K := by rfl) : OpR X (compareOp .In) (rIn K false) := e ▸ op_in_seq
theorem op_notIn_seqK (K : PySem.W.Frag) (e : X.K = K := by rfl) : OpR X (compareOp .NotIn) (rIn K true) := e ▸ op_notIn_seq
theorem op_eqDK (K : PySem.W.Frag) (hu : X.A.units + 64 < cLine) (e : X.K = K := by rfl) : OpR X (compareOp .Eq) (rEqD K) := e ▸ op_eqD hu
theorem op_neDK (K : PySem.W.Frag) (hu : X.A.units + 64 < cLine) (e : X.K = K := by rfl) : OpR X (compareOp .NotEq) (rNeD K) := e ▸ op_neD hu
theorem op_catAK (K : PySem.W.Frag) (e : X.K = K := by rfl) : OpR X (binaryOp .Add) (rCatA K) := e ▸ op_catA
theorem ix_listK (K : PySem.W.Frag) (e : X.K = K := by rfl) : IxR X (rIxL K) := e ▸ ix_list
theorem ix_tupK (K : PySem.W.Frag) (e : X.K = K := by rfl) : IxR X (rIxT K) := e ▸ ix_tup
theorem sl_listK (K : PySem.W.Frag) (e : X.K = K := by rfl) : SlR X (rSlL K) := e ▸ sl_list
theorem sl_tupAK (K : PySem.W.Frag) (e : X.K = K := by rfl) : SlR X (rSlA K) := e ▸ sl_tupA
def rLenQ (K : PySem.W.Frag) : List V → Hp → VK → Prop := fun xs H Q => ∃ p ys, xs = [.ref p] ∧ (SqL K H p ys ∨ SqT K H p ys) ∧ Q (.int ys.length) H
theorem call_len_seqK (K : PySem.W.Frag) (e : X.K = K := by rfl) : CallR X (.builtin "len") (rLenQ K) := e ▸ call_len_seq
def rListQ (K : PySem.W.Frag) : List V → Hp → VK → Prop := fun xs H Q => ∃ p ys, xs = [.ref p] ∧ (SqL K H p ys ∨ SqT K H p ys) ∧ ∀ l, H l = none → Q (.ref l) (upd H l (.lst ys))
theorem call_list_ofK (K : PySem.W.Frag) (e : X.K = K := by rfl) : CallR X (.type "list") (rListQ K) := e ▸ call_list_of
def rTupQ (K : PySem.W.Frag) : List V → Hp → VK → Prop := fun xs H Q => ∃ p ys, xs = [.ref p] ∧ ((SqL K H p ys ∧ ∀ l, H l = none → Q (.ref l) (upd H l (.tup ys))) ∨ (SqT K H p ys ∧ Q (.ref p) H))
theorem call_tuple_ofK (K : PySem.W.Frag) (e : X.K = K := by rfl) : CallR X (.type "tuple") (rTupQ K) := e ▸ call_tuple_of
theorem call_isiK' (K : PySem.W.Frag) (e : X.K = K := by rfl) : CallR X (.builtin "isinstance") (rIsi K) := e ▸ call_isi
theorem cr_allK (K : PySem.W.Frag) (hc : X.calm = true) (e : X.K = K := by rfl) : CallR X (.builtin "all") (rAll K) := e ▸ cr_all hc
theorem cr_anyK (K : PySem.W.Frag) (hc : X.calm = true) (e : X.K = K := by rfl) : CallR X (.builtin "any") (rAny K) := e ▸ cr_any hc
theorem cr_sumK (K : PySem.W.Frag) (hc : X.calm = true) (e : X.K = K := by rfl) : CallR X (.builtin "sum") (rSum K) := e ▸ cr_sum hc
theorem cr_maxK (K : PySem.W.Frag) (hc : X.calm = true) (e : X.K = K := by rfl) : CallR X (.builtin "max") (rMax K) := e ▸ cr_max hc
theorem cr_minK (K : PySem.W.Frag) (hc : X.calm = true) (e : X.K = K := by rfl) : CallR X (.builtin "min") (rMin K) := e ▸ cr_min hc
def rGetL (K : PySem.W.Frag) : V → V → Hp → VK → Prop := fun x y H Q => ∃ p xs i v, x = .ref p ∧ y = .int i ∧ SqL K H p xs ∧ 0 ≤ i ∧ xs[i.toNat]? = some v ∧ Q v H
theorem get_listK (K : PySem.W.Frag) (e : X.K = K := by rfl) : PGet X (rGetL K) := e ▸ get_list
theorem pi_listK (K : PySem.W.Frag) {tg l : Expr} {tl : TE} (hl : PE X l tl) (e : X.K = K := by rfl) : PI X tg l (iList K tl) := e ▸ pi_list hl
theorem pi_tupK (K : PySem.W.Frag) {tg l : Expr} {tl : TE} (hl : PE X l tl) (e : X.K = K := by rfl) : PI X tg l (iTup K tl) := e ▸ pi_tup hl
theorem pt_truthK (K : PySem.W.Frag) {a : Expr} {ta : TE} (ha : PE X a ta) (he : ∀ whole, isTrue a X.env whole = (do let v ← whole; standAt a.pos; holding [v] (truthy v))) (e : X.K = K := by rfl) : PT X a (fun σ H Q => ta σ H fun x H' => ∃ k, TruV K x H' k ∧ Q k H') := e ▸ pt_truth ha he
theorem pe_fldK (K : PySem.W.Frag) {e0 : Expr} {ta : TE} {f : Str} {pos : Pos} (he : PE X e0 ta) (hb : attributeBase e0 f X.env (eval e0 X.env) = eval e0 X.env) (e : X.K = K := by rfl) : PE X (.Attribute e0 f pos) (tFld K ta f) := e ▸ pe_fld he hb
end
/-- the heap by a name -/
theorem absH {G : Hp → Prop} {H' : Hp} (h : ∀ H'', H'' = H' → G H'') : G H' := h _ rfl
/-! ### ways that meet -/
theorem joinE {te : TE} {σ : L2.St} {H : Hp} {Q : VK} (R : VK) (hR : ∀ Q' : VK, (∀ v H', R v H' → Q' v H') → te σ H Q') (hQ : ∀ v H', R v H' → Q v H') : te σ H Q := hR Q hQ
theorem asgJ {te : TE} {g : TG} {D : Ends} {σ : L2.St} {H : Hp} (R : VK) (hR : ∀ Q' : VK, (∀ v H', R v H' → Q' v H') → te σ H Q') (hQ : ∀ v H', R v H' → g v σ H' D.nx) : tAsg te g D σ H := hR _ hQ
theorem asgS {te : TE} {g : TG} {u : TS} {D : Ends} {σ : L2.St} {H : Hp} (R : VK) (hR : ∀ Q' : VK, (∀ v H', R v H' → Q' v H') → te σ H Q') (hQ : ∀ v H', R v H' → g v σ H' (u D)) : tSeq (tAsg te g) u D σ H := hR _ hQ
theorem seqJ {t u : TS} {D : Ends} {σ : L2.St} {H : Hp} (R : L2.St → Hp → Prop) (hR : ∀ D' : Ends, (∀ σ' H', R σ' H' → D'.nx σ' H') → D'.rt = D.rt → D'.bk = D.bk → D'.ct = D.ct → t D' σ H) (hQ : ∀ σ' H', R σ' H' → u D σ' H') : tSeq t u D σ H := hR _ hQ rfl rfl rfl
theorem nextI {D : Ends} {σ : L2.St} {H : Hp} (h : D.nx σ H) : tNext D σ H := h
theorem at0 {α : Type} {x : α} {xs : List α} : atI (x :: xs) 0 = some x := atI_nat (j := 0) rfl
theorem ix0 {n : Nat} : ixN (n + 1) 0 = some 0 := by
  unfold ixN
  rw [if_pos (by decide), if_pos (by omega)]
  rfl
/-! ### comprehensions whose elements are values of their items -/
theorem fm_take {xs : List V} {f : V → Option V} {i : Nat} {x : V} (h : xs[i]? = some x) : (xs.take (i + 1)).filterMap f = (xs.take i).filterMap f ++ (f x).toList := by
  rw [List.take_add_one, h, List.filterMap_append]
  cases e : f x <;> simp [e]
theorem fm_len (xs : List V) (f : V → Option V) : (xs.filterMap f).length ≤ xs.length := List.length_filterMap_le f xs
section
variable {K : PySem.W.Frag} {a : Addr} {g : TG} {tt : TT} {te : TE} {vs : List Nat} {σ : L2.St} {H1 : Hp} {D : Addr} {Qd : Hp → Prop}
def LcTurn (g : TG) (tt : TT) (te : TE) (vs : List Nat) (σ : L2.St) (f : V → Option V) (x : V) (H : Hp) : Prop := ∀ (Q1 : VK) (Q0 : Hp → Prop), (∀ y H', f x = some y → Same H H' → Q1 y H') → (∀ H', f x = none → Same H H' → Q0 H') →
  g x (wipe σ vs) H fun σ2 H2 => wipe σ2 vs = wipe σ vs ∧ tt σ2 H2 fun b H3 => if b = true then te σ2 H3 Q1 else Q0 H3
theorem lc_step {xs : List V} {f : V → Option V} {i : Nat} {x : V} {H : Hp} (hx : xs[i]? = some x) (hz : xs.length ≤ sizeLine) (hD : H1 D = none) (s : Same H1 H) (d : H D = some (.lst ((xs.take i).filterMap f))) (t : LcTurn g tt te vs σ f x H) :
    g x (wipe σ vs) H fun σ2 H2 => wipe σ2 vs = wipe σ vs ∧ tt σ2 H2 fun b H3 => if b = true then te σ2 H3 fun y H4 => ∃ acc, H4 D = some (.lst acc) ∧ acc.length < sizeLine ∧ (Same H1 (upd H4 D (.lst (acc ++ [y]))) ∧ (upd H4 D (.lst (acc ++ [y]))) D = some (.lst ((xs.take (i + 1)).filterMap f))) else (Same H1 H3 ∧ H3 D = some (.lst ((xs.take (i + 1)).filterMap f))) := by
  have hi : i < xs.length := (List.getElem?_eq_some_iff.mp hx).1
  refine t (fun y H4 => ∃ acc, H4 D = some (.lst acc) ∧ acc.length < sizeLine ∧ (Same H1 (upd H4 D (.lst (acc ++ [y]))) ∧ (upd H4 D (.lst (acc ++ [y]))) D = some (.lst ((xs.take (i + 1)).filterMap f)))) (fun H3 => Same H1 H3 ∧ H3 D = some (.lst ((xs.take (i + 1)).filterMap f))) (fun y H' e s' => ?_) (fun H' e s' => ?_)
  · refine ⟨_, s' _ _ d, ?_, fun b o q => ?_, ?_⟩
    · have h1 := fm_len (xs.take i) f
      rw [List.length_take] at h1
      omega
    · rw [upd_ne (ne_of_none q hD)]
      exact s' _ _ (s _ _ q)
    · rw [upd_same, fm_take hx, e]
      rfl
  · refine ⟨s.trans s', ?_⟩
    rw [fm_take hx, e, s' _ _ d]
    simp
theorem lcW {J : It} {G : Hp → Prop} {xs : List V} (w : Walk J xs.length G (YAt xs)) (f : V → Option V) (hG : ∀ H, Same H1 H → G H) (hz : xs.length ≤ sizeLine) (hD : H1 D = none) (turn : ∀ (i : Nat) x H, xs[i]? = some x → Same H1 H → LcTurn g tt te vs σ f x H)
    (done : ∀ H', Same H1 H' → H' D = some (.lst (xs.filterMap f)) → Qd H') :
    ∃ W : Nat → Nat → Hp → Prop, (∃ m, W 0 m (upd H1 D (.lst []))) ∧ ∀ i m H, W i m H →
      (J.stop i H ∧ Qd H) ∨ (J.go i H ∧ ∃ Nx : Hp → Prop, (∀ H', Nx H' → ∃ m', m' < m ∧ W (i + 1) m' H') ∧ ∀ x H', J.yld i H x H' → g x (wipe σ vs) H' fun σ2 H2 => wipe σ2 vs = wipe σ vs ∧ tt σ2 H2 fun b H3 =>
        if b = true then te σ2 H3 fun y H4 => ∃ acc, H4 D = some (.lst acc) ∧ acc.length < sizeLine ∧ Nx (upd H4 D (.lst (acc ++ [y]))) else Nx H3) :=
  lc_it w (fun i H => Same H1 H ∧ H D = some (.lst ((xs.take i).filterMap f))) ⟨same_upd hD, upd_same⟩ (fun i H _ p => hG H p.1) (fun i x H H' _ p y => by
    obtain ⟨rfl, hx⟩ := y
    exact lc_step hx hz hD p.1 p.2 (turn i x _ hx p.1)) (fun H p => done H p.1 (by have := p.2; rwa [List.take_length] at this))
end
/-- a comprehension by a list of what its items stand for -/
theorem lcM {g : TG} {tt : TT} {te : TE} {vs : List Nat} {σ : L2.St} {H1 : Hp} {D : Addr} {Qd : Hp → Prop} {J : It} {G : Hp → Prop} {xs : List V} {α : Type} (w : Walk J xs.length G (YAt xs)) (ms : List α) (hl : ms.length = xs.length) (h : α → Option V) (hG : ∀ H, Same H1 H → G H) (hz : xs.length ≤ sizeLine) (hD : H1 D = none)
    (turn : ∀ (i : Nat) x m H, xs[i]? = some x → ms[i]? = some m → Same H1 H → LcTurn g tt te vs σ (fun _ => h m) x H)
    (done : ∀ H', Same H1 H' → H' D = some (.lst (ms.filterMap h)) → Qd H') :
    ∃ W : Nat → Nat → Hp → Prop, (∃ m, W 0 m (upd H1 D (.lst []))) ∧ ∀ i m H, W i m H →
      (J.stop i H ∧ Qd H) ∨ (J.go i H ∧ ∃ Nx : Hp → Prop, (∀ H', Nx H' → ∃ m', m' < m ∧ W (i + 1) m' H') ∧ ∀ x H', J.yld i H x H' → g x (wipe σ vs) H' fun σ2 H2 => wipe σ2 vs = wipe σ vs ∧ tt σ2 H2 fun b H3 =>
        if b = true then te σ2 H3 fun y H4 => ∃ acc, H4 D = some (.lst acc) ∧ acc.length < sizeLine ∧ Nx (upd H4 D (.lst (acc ++ [y]))) else Nx H3) :=
  lc_it w (fun i H => Same H1 H ∧ H D = some (.lst ((ms.take i).filterMap h))) ⟨same_upd hD, upd_same⟩ (fun i H _ p => hG H p.1) (fun i x H H' hi p y => by
    obtain ⟨rfl, hx⟩ := y
    have him : i < ms.length := by omega
    have hm : ms[i]? = some ms[i] := List.getElem?_eq_getElem him
    have et : (ms.take (i + 1)).filterMap h = (ms.take i).filterMap h ++ (h ms[i]).toList := by
      rw [List.take_add_one, hm, List.filterMap_append]
      cases e : h ms[i] <;> simp [e]
    have ln : ((ms.take i).filterMap h).length ≤ i := by
      have := List.length_filterMap_le h (ms.take i)
      rw [List.length_take] at this
      omega
    refine turn i x _ _ hx hm p.1 (fun y H4 => ∃ acc, H4 D = some (.lst acc) ∧ acc.length < sizeLine ∧ (Same H1 (upd H4 D (.lst (acc ++ [y]))) ∧ (upd H4 D (.lst (acc ++ [y]))) D = some (.lst ((ms.take (i + 1)).filterMap h)))) (fun H3 => Same H1 H3 ∧ H3 D = some (.lst ((ms.take (i + 1)).filterMap h))) (fun y H' e s' => ?_) (fun H' e s' => ?_)
    · have e : h ms[i] = some y := e
      refine ⟨_, s' _ _ p.2, by omega, fun b o q => ?_, ?_⟩
      · rw [upd_ne (ne_of_none q hD)]
        exact s' _ _ (p.1 _ _ q)
      · rw [upd_same, et, e]
        rfl
    · have e : h ms[i] = none := e
      refine ⟨p.1.trans s', ?_⟩
      rw [et, e, s' _ _ p.2]
      simp) (fun H p => done H p.1 (by have := p.2; rwa [← hl, List.take_length] at this))
def sgn (c : Nat) : V := .str ⟨#[c]⟩
theorem walk_strV {z : Str} : Walk (Its z) (z.cps.toList.map sgn).length (fun _ => True) (YAt (z.cps.toList.map sgn)) := by
  have e : (z.cps.toList.map sgn).length = z.cps.size := by simp
  refine ⟨fun i _ hi _ => ?_, fun _ _ => ?_, fun i H x H' hi _ y => ?_⟩
  · rw [e] at hi; exact hi
  · rw [e]; exact Nat.le_refl _
  · obtain ⟨h1, c, h2, h3⟩ := y
    refine ⟨h1, ?_⟩
    rw [List.getElem?_map, Array.getElem?_toList, h2, h3]
    rfl
theorem walk_rangeV {lo : Int} {n : Nat} : Walk (Itr lo n) ((List.range n).map fun i => V.int (lo + (i : Nat))).length (fun _ => True) (YAt ((List.range n).map fun i => V.int (lo + (i : Nat)))) := by
  have e : ((List.range n).map fun i => V.int (lo + (i : Nat))).length = n := by simp
  refine ⟨fun i _ hi _ => ?_, fun _ _ => ?_, fun i H x H' hi _ y => ?_⟩
  · rw [e] at hi; exact hi
  · rw [e]; exact Nat.le_refl _
  · obtain ⟨h1, h2⟩ := y
    refine ⟨h1, ?_⟩
    rw [e] at hi
    rw [List.getElem?_map, List.getElem?_range hi, h2]
    rfl
/-- a function of ints as one of values -/
def liftI (h : Int → Option Int) : V → Option V
  | .int i => (h i).map V.int
  | _ => none
theorem fm_lift (h : Int → Option Int) : ∀ ns : List Int, (ns.map V.int).filterMap (liftI h) = (ns.filterMap h).map V.int
  | [] => rfl
  | n :: r => by
    rw [List.map_cons, List.filterMap_cons, List.filterMap_cons, fm_lift h r]
    have e : liftI h (V.int n) = (h n).map V.int := rfl
    rw [e]
    cases h n <;> rfl
theorem cut_map {α β : Type} (f : α → β) (xs : List α) (lo hi : Option Int) : ∃ ys : List α, ys.length ≤ xs.length ∧ (∀ y ∈ ys, y ∈ xs) ∧ ((xs.map f).drop (HT.sIx (xs.map f).length 0 lo)).take (HT.sIx (xs.map f).length (xs.map f).length hi - HT.sIx (xs.map f).length 0 lo) = ys.map f := by
  refine ⟨(xs.drop (HT.sIx (xs.map f).length 0 lo)).take (HT.sIx (xs.map f).length (xs.map f).length hi - HT.sIx (xs.map f).length 0 lo), ?_, fun y hy => List.mem_of_mem_drop (List.mem_of_mem_take hy), ?_⟩
  · rw [List.length_take, List.length_drop]
    omega
  · rw [List.map_take, List.map_drop]
theorem cutV_ints (ns : List Int) (lo hi : Option Int) : ∃ ms : List Int, ms.length ≤ ns.length ∧ (∀ y ∈ ms, y ∈ ns) ∧ cutV (ns.map V.int) lo hi = ms.map V.int := cut_map V.int ns lo hi
/-- a function of signs as one of values -/
def liftS (h : Nat → Option V) : V → Option V
  | .str s => (match s.cps.toList with
    | [c] => h c
    | _ => none)
  | _ => none
theorem liftS_sgn (h : Nat → Option V) (c : Nat) : liftS h (sgn c) = h c := rfl
theorem fm_liftS (h : Nat → Option V) : ∀ cs : List Nat, (cs.map sgn).filterMap (liftS h) = cs.filterMap h
  | [] => rfl
  | c :: r => by
    rw [List.map_cons, List.filterMap_cons, List.filterMap_cons, fm_liftS h r, liftS_sgn]
/-! ### tests whose answer is known -/
theorem iteY {p : Prop} [Decidable p] {A B : Prop} (hp : p) (h : A) : if decide p = true then A else B := by
  rw [decide_eq_true hp]
  exact iteT h
theorem iteN {p : Prop} [Decidable p] {A B : Prop} (hp : ¬ p) (h : B) : if decide p = true then A else B := by
  rw [decide_eq_false hp]
  exact iteF h
theorem iteNY {p : Prop} [Decidable p] {A B : Prop} (hp : ¬ p) (h : A) : if (!decide p) = true then A else B := by
  rw [decide_eq_false hp]
  exact iteT h
theorem iteNN {p : Prop} [Decidable p] {A B : Prop} (hp : p) (h : B) : if (!decide p) = true then A else B := by
  rw [decide_eq_true hp]
  exact iteF h
theorem iteE {b c : Bool} {A B : Prop} (e : b = c) (h1 : c = true → A) (h2 : c = false → B) : if b = true then A else B := by
  subst e
  cases b with
  | true => exact iteT (h1 rfl)
  | false => exact iteF (h2 rfl)
theorem dI (a b : Int) : decide (V.int a = V.int b) = decide (a = b) := by
  by_cases h : a = b
  · rw [h]; simp
  · rw [decide_eq_false h, decide_eq_false fun e => h (V.int.inj e)]
/-! ### the layer's ops as steps -/
section
variable {K : PySem.W.Frag} {H : Hp} {Q : VK} {p : Addr} {xs : List V} {i : Int} {v : V}
theorem ixl (h : H p = some (.lst xs)) (ha : atI xs i = some v) (q : Q v H) : rIxL K (.ref p) (.int i) H Q := ⟨p, xs, i, v, rfl, rfl, .inl (.inl h), ha, q⟩
theorem ixt (h : H p = some (.tup xs)) (ha : atI xs i = some v) (q : Q v H) : rIxT K (.ref p) (.int i) H Q := ⟨p, xs, i, v, rfl, rfl, .inl (.inl h), ha, q⟩
end
end Ub

namespace Ug
open PySem PySem.Spec PyProof.Rows L2 Ub
/-! ### defs that are called with nothing of repr around them: FnOk with the guards known -/
structure FnG (P : Program) (w : World) (K : PySem.W.Frag) (mg : Str → Option Value) (base : Heap) (CX : CXT) (k : Nat) (f : Addr) (fd : FuncData) (ps : List Str) (sp : Sp) : Prop where
  len : ∀ vs H Q E, sp vs H Q E → vs.length = ps.length
  run : ∀ (A : Around) (outer : List Env) (s : Shared) (H : Hp) (args : Args) (us : List Value) (vs : List V) (Q : VK) (E : XK), A.guards = some [] → Room k A → Env0 P w K mg base A outer s H →
    BindsTo s fd args (ps.zip us) → Vals vs us → sp vs H Q E → codeAny (model P w) A (.call (.ref f) args) (CR CX outer P w H s Q E) s
theorem FnG.mono {P : Program} {w : World} {K : PySem.W.Frag} {mg : Str → Option Value} {base : Heap} {CX : CXT} {j k : Nat} {f : Addr} {fd : FuncData} {ps : List Str} {sp : Sp} (F : FnG P w K mg base CX j f fd ps sp) (h : j ≤ k) : FnG P w K mg base CX k f fd ps sp :=
  ⟨F.len, fun A outer s H args us vs Q E g r => F.run A outer s H args us vs Q E g (r.mono h)⟩
theorem deeper_guards {A : Around} {env : Env} (h : A.guards = some []) : (A.deeper env).guards = some [] := h
section
variable {CX : CXT} {P : Program} {w : World} {K : PySem.W.Frag} {mg : Str → Option Value} {base : Heap} {x qual : Str} {params : Arguments} {body : List Stmt} {scope : Scope} {dvs : List V} {kws : List (Str × V)} {f : Addr} {fd : FuncData} {N ps : List Str} {k : Nat} {sp : Sp}
theorem okG (F : FunD K x qual params body scope dvs kws f fd) (S : FnScope N ps scope) (len : ∀ vs H Q E, sp vs H Q E → vs.length = ps.length)
    (hb : ∀ (cdv : Value) (A : Around) (outer : List Env) (s : Shared) (H : Hp) (vs : List V) (Q : VK) (E : XK), A.guards = some [] → Room k (A.deeper (envOfC qual scope s.heap.objs.size f cdv)) → sp vs H Q E →
      ∃ t, PSs (cxOf CX P w K mg base N qual scope f cdv A outer s H E) body t ∧ t { nx := fun _ H' => Q .non H', rt := Q } (start N vs) H) : FnG P w K mg base CX (k + 1) f fd ps sp := by
  obtain ⟨oc, od, dV, kV, doc, pm, an, cdv, ct, osl, rfl, lk, hcd, _, _⟩ := F.ex
  refine ⟨len, fun A outer s H args us vs Q E hG hr e0 hbi rv hsp => ?_⟩
  have keep := fun b o e => (e0.bs b o e).1
  have inK := e0.mod.kin.keeps keep
  refine codeAny_call_function hr.depth (inK _ _ lk) rfl S.co S.gen rfl (PySem.W.codeRec_of inK hcd) (hbi _ _ _ _ ?_)
  refine wpAny_newFunctionEnv_cells S.kind (fun ⟨y, _⟩ hy => ?_) fun env he s1 cl => ?_
  · exact (S.par y (List.of_mem_zip hy).1).imp (fun q => q) fun q => ⟨q, PySem.W.cellsFrom_some _ _ _ (.inl q)⟩
  subst he
  obtain ⟨t, ht, hq⟩ := hb cdv A outer s H vs Q E hG (hr.deeper _) hsp
  have J : Inv (cxOf CX P w K mg base N qual scope f cdv A outer s H E) [] (start N vs) H s1 := inv_start S hr.hd e0 (len _ _ _ _ hsp) rv cl
  refine ⟨(e0.mod.nolimit.keeps keep).keeps cl.toInCall.keep, codeAny_func (wpAny_mono (ht.run [] s1 (start N vs) H _ J hq) (fun fl s2 h2 => ?_) fun _ _ z => z)⟩
  match fl, h2 with
  | .ret _, ⟨v, _, H2, J2, r2, q2⟩ => exact ⟨v, H2, J2.os, J2.bare, J2.base, J2.hok, r2, q2⟩
  | .next, ⟨_, H2, J2, q2⟩ => exact ⟨.non, H2, J2.os, J2.bare, J2.base, J2.hok, rfl, q2⟩
  | .brk, ⟨_, _, _, q2⟩ => exact q2.elim
  | .cont, ⟨_, _, _, q2⟩ => exact q2.elim
end
/-- such a def by its name -/
structure CalG (P : Program) (w : World) (K : PySem.W.Frag) (mg : Str → Option Value) (base : Heap) (k : Nat) (x : Str) (ps : List Str) (sp : Sp) : Prop where
  ex : ∃ f fd, FnG P w K mg base CX0 k f fd ps sp ∧ mg x = some (.ref f) ∧ PySem.W.keepIn K (.ref f) = true ∧ Binds K fd ps []
section
variable {X : Cx} {k : Nat} {x : Str} {ps : List Str} {sp : Sp} {e : Expr} {es : List Expr} {p pos : Pos} {t : TA}
theorem pe_calG (C : CalG X.prog X.w X.K X.mg X.base k x ps sp) (hG : X.A.guards = some []) (hr : Room k X.A) (hg : Gl X x)
    (ha : PA X (e :: es) t) (hdb : (x == ("__debug__" : Str)) = false := by decide) (he : starEach (e :: es) X.env = (false, eval e X.env) :: starEach es X.env := by rfl) (hpl : (backTo pos (starEach es X.env)).any (·.1) = false := by rfl) :
    PE X (.Call (.Name x p) (e :: es) [] pos) (tCall sp [] E0 t) := by
  obtain ⟨f, fd, F, hm, hk, hb⟩ := C.ex
  refine ⟨fun pins s σ H Q I h => wpAny_Call_Name_kw (ld_glob I hg hm ?_ hdb)⟩
  refine PySem.W.callWith_K (h₀ := X.base) I.ok.mod.kin hk (thn (ha.run pos pins s σ H _ I h) fun us s1 ⟨vs, H1, I1, rv, q⟩ => ⟨I1.kIn, ?_⟩) he hpl
  have q : sp (vs ++ []) H1 Q E0 := q
  rw [List.append_nil] at q
  have hl : us.length = ps.length := by rw [← rv.length]; exact F.len _ _ _ _ q
  have hbs : BindsTo s1 fd ⟨us, []⟩ (ps.zip us) := by
    have z := hb s1 us I1.kIn (by rw [List.append_nil]; exact hl)
    rwa [List.append_nil] at z
  refine wpAny_call (codeAny_mono (F.run X.A X.stack s1 H1 ⟨us, []⟩ us vs Q E0 hG hr I1.env0 hbs rv q) fun r s2 hq => ?_)
  match r, hq with
  | .error e, hq => exact pass0 pins σ H1 s1 e s2 I1 hq
  | .ok (.ret u), hq => exact I1.after hq
end
/-! ### the law's own end -/
section
variable {P : Program} {w : World} {K : PySem.W.Frag} {mg mb : Str → Option Value} {k : Nat} {fa a : Addr} {fd : FuncData} {x : Str} {sp : Sp} {s₁ : Shared} {vs : List Value} {ns : List Int}
theorem core_end (KX : K.In s₁.heap) (hns : s₁.heap.Ns mainGlobals mg) (hb : s₁.heap.Ns builtinsNs mb) (hbb : ∀ x : Str, x ≠ "__name__" → mb x = bootBuiltins x) (hlim : s₁.heap.NoLimit) (hg : s₁.gens = #[])
    (ha : s₁.heap.get? a = some { cls := .type "list", data := .seq vs.toArray }) (hr : Room k callerA) (F : ∀ base : Heap, K.In base → base.Ns mainGlobals mg → FnG P w K mg base CX0 k fa fd [x] sp) (hbind : ∀ (s : Shared) (u : Value), BindsTo s fd ⟨[u], []⟩ [(x, u)])
    (H : Hp) (hO : Only H) (hs : sp [.ref a] H (fun v _ => v = .bl true) fun _ _ _ => False) (hok : HOk P w H s₁.heap) (hA : ∀ b, H b ≠ none → b = a) (hK : H a ≠ none → K.lookup a = none) :
    codeAny (model P w) callerA (.call (.ref fa) ⟨[.ref a], []⟩) (fun r s' => r = .ok (.ret (.bool true)) ∧ OldK s₁.heap s'.heap ∧ s'.os = s₁.os ∧ AllBare s'.gens) s₁ := by
  have far : ∀ {b : Addr}, b ≠ a → H b = none := fun {b} n => Classical.byContradiction fun z => n (hA b z)
  have dictN : ∀ {b : Addr} {m : Str → Option Value}, s₁.heap.Ns b m → (hidT s₁.heap H).Ns b m := by
    intro b m ⟨o, es, ep, e, d, r⟩
    refine ⟨o, es, ep, hidT_get e (far fun z => ?_), d, r⟩
    rw [z, ha] at e
    rw [← Option.some.inj e] at d
    exact nomatch d
  have inB : K.In (hidT s₁.heap H) := fun b o e => hidT_get (KX b o e) (Classical.byContradiction fun z => by
    have eb := hA b z
    rw [eb] at e z
    rw [hK z] at e
    exact nomatch e)
  obtain ⟨mc, l1, l2⟩ := hlim
  have e0 : Env0 P w K mg (hidT s₁.heap H) callerA [] s₁ H := {
    frames := rfl
    mod := ⟨inB, dictN hns, ⟨mb, dictN hb, hbb⟩, ⟨mc, dictN l1, l2⟩⟩
    bs := fun _ _ e => of_hidT e
    bsz := Nat.le_of_eq (hidT_size _ _)
    funs := trivial
    frf := fun b z => absurd (show b ∈ ([] : List Addr) from z) (by simp)
    hok := hok
    bare := .of_eq hg }
  refine codeAny_mono ((F _ inB (dictN hns)).run callerA [] s₁ H ⟨[.ref a], []⟩ [.ref a] [.ref a] _ _ rfl hr e0 (hbind s₁ (.ref a)) (.cons rfl .nil) hs) fun r s2 h => ?_
  match r, h with
  | .error e, h => exact h.elim
  | .ok (.ret u), ⟨v, H2, os2, bare2, un2, hok2, r2, q2⟩ =>
    have ev : v = .bl true := q2
    subst ev
    have eu : u = Value.bool true := r2
    subst eu
    refine ⟨rfl, OldK.of_keep fun b o e => ?_, os2, bare2⟩
    rcases hO b with z | ⟨ob, xs, z⟩
    · exact un2.keep b o e z (fun y => absurd (show b ∈ ([] : List Addr) from y) (by simp)) (by simp)
    · obtain ⟨e1, _⟩ := hok b _ z
      obtain ⟨e2, _⟩ := hok2 b _ (un2.frzs b ob _ z)
      rw [e1] at e
      rw [← Option.some.inj e]
      exact e2
theorem law_callG (KX : K.In s₁.heap) (hns : s₁.heap.Ns mainGlobals mg) (hb : s₁.heap.Ns builtinsNs mb) (hbb : ∀ x : Str, x ≠ "__name__" → mb x = bootBuiltins x) (hlim : s₁.heap.NoLimit) (hg : s₁.gens = #[])
    (ha : s₁.heap.get? a = some { cls := .type "list", data := .seq vs.toArray }) (hi : IntsAre vs ns) (hl : ns.length ≤ sizeLine) (hr : Room k callerA) (F : ∀ base : Heap, K.In base → base.Ns mainGlobals mg → FnG P w K mg base CX0 k fa fd [x] sp)
    (hbind : ∀ (s : Shared) (u : Value), BindsTo s fd ⟨[u], []⟩ [(x, u)]) (hsp : ∀ H : Hp, Only H → SqL K H a (ns.map V.int) → sp [.ref a] H (fun v _ => v = .bl true) fun _ _ _ => False) :
    codeAny (model P w) callerA (.call (.ref fa) ⟨[.ref a], []⟩) (fun r s' => r = .ok (.ret (.bool true)) ∧ OldK s₁.heap s'.heap ∧ s'.os = s₁.os ∧ AllBare s'.gens) s₁ := by
  have rv := vals_ints hi
  have lv := hi.length
  by_cases hk : K.lookup a = none
  · let o0 : Obj := { cls := .type "list", data := .seq vs.toArray }
    let Hs : Hp := upd (fun _ => none) a (.frz o0 (.lst (ns.map V.int)))
    have at_ : Hs a = some (.frz o0 (.lst (ns.map V.int))) := upd_same
    have off : ∀ {b : Addr}, b ≠ a → Hs b = none := fun {b} n => upd_ne n
    have hO : Only Hs := fun b => by
      by_cases e : b = a
      · exact .inr ⟨o0, _, by rw [e]; exact at_⟩
      · exact .inl (off e)
    refine core_end KX hns hb hbb hlim hg ha hr F hbind Hs hO (hsp Hs hO (.inl (.inr ⟨o0, at_⟩))) (fun b u z => ?_) (fun b z => Classical.byContradiction fun n => z (off n)) fun _ => hk
    by_cases e : b = a
    · rw [e, at_] at z
      cases z
      rw [e]
      exact ⟨ha, by rw [List.length_map]; exact hl, vs, _, rv, ha⟩
    · rw [off e] at z
      exact nomatch z
  · obtain ⟨o, ho⟩ := Option.ne_none_iff_exists'.mp hk
    have e := KX a o ho
    rw [ha] at e
    cases e
    exact core_end KX hns hb hbb hlim hg ha hr F hbind (fun _ => none) (fun _ => .inl rfl) (hsp _ (fun _ => .inl rfl) (.inr ⟨_, vs.toArray, _, ho, rfl, rfl, rfl, by rw [List.size_toArray, lv]; exact hl, by simpa using rv⟩))
      (fun b u z => nomatch (show (none : Option HO) = some u from z)) (fun b z => absurd rfl z) fun z => absurd rfl z
end
theorem walk_ofG {l : PySem.W.OpenLaw} {n k : Nat} {q : Program} {loose : List Str} {XP : (Str → Option Value) → Heap → Prop} {YP : World → Heap → Prop} {d : DefRec} {x : Str}
    (hn : l.most = some n) (hn2 : n ≤ sizeLine) (hdf : d.params.defaults = []) (hr : Room k callerA)
    (F : ∀ (w : World) (mg : Str → Option Value) (fa : Addr) (h : Heap), YP w h → h.Ns mainGlobals mg → mg d.name = some (.ref fa) →
      ∃ (K : PySem.W.Frag) (fd : FuncData) (sp : Sp), K.In h ∧ (∀ (s : Shared) (u : Value), BindsTo s fd ⟨[u], []⟩ [(x, u)]) ∧
        (∀ (H : Hp) (a : Addr) (ns : List Int), ns.length ≤ n → Only H → SqL K H a (ns.map V.int) → sp [.ref a] H (fun v _ => v = .bl true) fun _ _ _ => False) ∧
        ∀ base : Heap, K.In base → base.Ns mainGlobals mg → FnG l.prog w K mg base CX0 k fa fd [x] sp) :
    PySem.W.WalkO q loose XP YP l.row.toRowW d [] (fun f vs => PySem.call f vs) := by
  refine Att.attach_call hn hdf fun w s₀ s₁ mg mb fa o pm cd doc a vs ns G Y ho hd hcd hmg hobj hints hlen hg => ?_
  obtain ⟨K, fd, sp, KX, hb, hsp, hF⟩ := F w mg fa _ Y G.T.g hmg
  exact law_callG KX G.T.g G.T.b G.T.builtins G.T.nolimit hg hobj hints (Nat.le_trans hlen hn2) hr hF hb fun H hO hS => hsp H a ns hlen hO hS
end Ug

namespace Ur
open PySem PySem.Spec PyProof.Rows L2 Ub
/-! ### values that are data, out of the places N -/
mutual
inductive DtV (N : List Addr) (H : Hp) : V → PyData → Prop
  | non : DtV N H .non .none
  | bl (b : Bool) : DtV N H (.bl b) (.bool b)
  | int (i : Int) : DtV N H (.int i) (.int i)
  | str (z : Str) : DtV N H (.str z) (.str z)
  | lst {p : Addr} {xs : List V} {ds : List PyData} : H p = some (.lst xs) → p ∉ N → DtVs N H xs ds → DtV N H (.ref p) (.list ds)
  | tup {p : Addr} {xs : List V} {ds : List PyData} : H p = some (.tup xs) → p ∉ N → DtVs N H xs ds → DtV N H (.ref p) (.tuple ds)
inductive DtVs (N : List Addr) (H : Hp) : List V → List PyData → Prop
  | nil : DtVs N H [] []
  | cons {x : V} {d : PyData} {xs : List V} {ds : List PyData} : DtV N H x d → DtVs N H xs ds → DtVs N H (x :: xs) (d :: ds)
end
mutual
theorem DtV.keep {N : List Addr} {H H' : Hp} (k : ∀ b o, H b = some o → b ∉ N → H' b = some o) : ∀ {v : V} {d : PyData}, DtV N H v d → DtV N H' v d
  | _, _, .non => .non
  | _, _, .bl b => .bl b
  | _, _, .int i => .int i
  | _, _, .str z => .str z
  | _, _, .lst h n r => .lst (k _ _ h n) n (DtVs.keep k r)
  | _, _, .tup h n r => .tup (k _ _ h n) n (DtVs.keep k r)
theorem DtVs.keep {N : List Addr} {H H' : Hp} (k : ∀ b o, H b = some o → b ∉ N → H' b = some o) : ∀ {xs : List V} {ds : List PyData}, DtVs N H xs ds → DtVs N H' xs ds
  | _, _, .nil => .nil
  | _, _, .cons h r => .cons (DtV.keep k h) (DtVs.keep k r)
end
theorem DtV.same {N : List Addr} {H H' : Hp} {v : V} {d : PyData} (h : DtV N H v d) (s : Same H H') : DtV N H' v d := h.keep fun b o e _ => s b o e
mutual
theorem DtV.free {N : List Addr} {H : Hp} : ∀ {v : V} {d : PyData}, DtV N H v d → DtV [] H v d
  | _, _, .non => .non
  | _, _, .bl b => .bl b
  | _, _, .int i => .int i
  | _, _, .str z => .str z
  | _, _, .lst h _ r => .lst h (by simp) (DtVs.free r)
  | _, _, .tup h _ r => .tup h (by simp) (DtVs.free r)
theorem DtVs.free {N : List Addr} {H : Hp} : ∀ {xs : List V} {ds : List PyData}, DtVs N H xs ds → DtVs [] H xs ds
  | _, _, .nil => .nil
  | _, _, .cons h r => .cons (DtV.free h) (DtVs.free r)
end
theorem DtVs.mem {N : List Addr} {H : Hp} : ∀ {xs : List V} {ds : List PyData}, DtVs N H xs ds → ∀ {x : V}, x ∈ xs → ∃ d ∈ ds, DtV N H x d
  | _, _, .nil, _, h => nomatch h
  | _, _, .cons h r, x, hx => by
    rcases List.mem_cons.mp hx with e | hx
    · exact ⟨_, List.mem_cons_self .., by rw [e]; exact h⟩
    · obtain ⟨d, h1, h2⟩ := DtVs.mem r hx
      exact ⟨d, List.mem_cons_of_mem _ h1, h2⟩
theorem DtVs.len {N : List Addr} {H : Hp} : ∀ {xs : List V} {ds : List PyData}, DtVs N H xs ds → xs.length = ds.length
  | _, _, .nil => rfl
  | _, _, .cons _ r => congrArg Nat.succ (DtVs.len r)
mutual
theorem DtV.reads {N : List Addr} {P : Program} {w : World} {H : Hp} {h : Heap} (hok : HOk P w H h) : ∀ {v : V} {d : PyData} {u : Value}, DtV N H v d → RelV v u → ∃ as, Reads h u d as
  | _, _, u, .non, r => by
    obtain rfl : u = Value.none := r
    exact ⟨_, .none⟩
  | _, _, u, .bl b, r => by
    obtain rfl : u = Value.bool b := r
    exact ⟨_, .bool b⟩
  | _, _, _, .int i, r => by
    obtain ⟨t, rfl⟩ := r
    exact ⟨_, .int i t⟩
  | _, _, _, .str z, r => by
    obtain ⟨t, rfl⟩ := r
    exact ⟨_, .str z t⟩
  | _, _, u, .lst (p := p) (xs := xs) e _ q, r => by
    obtain rfl : u = Value.ref p := r
    obtain ⟨_, its, n, rv, hg⟩ : ObjOk P w H h p (.lst xs) := hok p _ e
    obtain ⟨as, ra⟩ := DtVs.reads hok q rv
    exact ⟨_, .list hg rfl rfl (by simpa using ra)⟩
  | _, _, u, .tup (p := p) (xs := xs) e _ q, r => by
    obtain rfl : u = Value.ref p := r
    obtain ⟨_, its, rv, o, hg, hc, n, hd⟩ : ObjOk P w H h p (.tup xs) := hok p _ e
    obtain ⟨as, ra⟩ := DtVs.reads hok q rv
    exact ⟨_, .tuple hg hc hd (by simpa using ra)⟩
theorem DtVs.reads {N : List Addr} {P : Program} {w : World} {H : Hp} {h : Heap} (hok : HOk P w H h) : ∀ {xs : List V} {ds : List PyData} {us : List Value}, DtVs N H xs ds → Vals xs us → ∃ as, ReadsAll h us ds as
  | _, _, _, .nil, r => by
    cases r
    exact ⟨_, .nil⟩
  | _, _, _, .cons a b, r => by
    cases r with
    | cons r1 r2 =>
      obtain ⟨as, h1⟩ := DtV.reads hok a r1
      obtain ⟨bs, h2⟩ := DtVs.reads hok b r2
      exact ⟨_, .cons h1 h2⟩
end
/-! ### repr -/
def rpOk (d : PyData) : Bool := d.showable && !d.hasDict && decide (d.depth ≤ 40) && (match d with
  | .int _ => true
  | _ => decide (d.shown.length ≤ 100000))
def rRepr : List V → Hp → VK → Prop := fun xs H Q => ∃ v d, xs = [v] ∧ DtV [] H v d ∧ rpOk d = true ∧ Q (.str d.shown) H
theorem call_reprV {X : Cx} (hG : X.A.guards = some []) (hu : X.A.units + 64 < cLine) : CallR X (.builtin "repr") rRepr := by
  intro pins s σ H xs us Q I r h
  obtain ⟨v, d, rfl, hd, ok, q⟩ := h
  obtain ⟨u, rfl, rv⟩ := vals1 r
  unfold rpOk at ok
  simp only [Bool.and_eq_true, decide_eq_true_eq, Bool.not_eq_true'] at ok
  obtain ⟨⟨⟨o1, o2⟩, o3⟩, o4⟩ := ok
  have sz : ∀ {n : Nat}, n ≤ 100000 → n ≤ sizeLine := fun h => Nat.le_trans h (by decide)
  cases hd with
  | non =>
    obtain rfl : u = Value.none := rv
    exact PySem.P.repr_of_none ⟨.str "None", H, I.tok _, ⟨_, rfl⟩, q⟩
  | bl b =>
    obtain rfl : u = Value.bool b := rv
    refine PySem.P.repr_of_bool ⟨.str (if b then "True" else "False"), H, I.tok _, ⟨s.toks, ?_⟩, ?_⟩
    · cases b <;> rfl
    · cases b <;> exact q
  | int i =>
    obtain ⟨t, rfl⟩ := rv
    refine PySem.P.repr_of_int ?_ ⟨.str (toString i), H, I.tok _, ⟨_, rfl⟩, q⟩
    simpa [PyData.showable] using o1
  | str z =>
    obtain ⟨t, rfl⟩ := rv
    exact PySem.P.repr_of_str ⟨.str (reprText z), H, I.tok _, ⟨_, rfl⟩, q⟩ (sz (of_decide_eq_true o4))
  | lst e n z =>
    rename_i p ys ds
    obtain ⟨as, ra⟩ := DtV.reads I.hok (.lst e n z) rv
    obtain rfl : u = Value.ref p := rv
    exact repr_of_reads' ra o1 (PyData.noDict_hsm o2) hG (by omega) (fun _ _ z => z) (fun h' u tk k => ⟨.str (PyData.list ds).shown, H, I.kept (t' := tk) k, ⟨_, rfl⟩, q⟩) (sz (of_decide_eq_true o4))
  | tup e n z =>
    rename_i p ys ds
    obtain ⟨as, ra⟩ := DtV.reads I.hok (.tup e n z) rv
    obtain rfl : u = Value.ref p := rv
    exact repr_of_reads' ra o1 (PyData.noDict_hsm o2) hG (by omega) (fun _ _ z => z) (fun h' u tk k => ⟨.str (PyData.tuple ds).shown, H, I.kept (t' := tk) k, ⟨_, rfl⟩, q⟩) (sz (of_decide_eq_true o4))
/-! ### the odd values of the laws -/
def odds : List PyData := [.none, .bool true, .bool false, .int 0, .int 1, .int (-1), .int (10 ^ (29 : Int).toNat), .str "", .str "..", .str ".A", .str " ", .str "\n", .str "a b",
  .list [], .list [.int 0], .list [.int 1, .int 2], .tuple [.none], .tuple [.bool true], .tuple [.tuple [], .int 0], .tuple [.str "a", .int 1, .list []], .list [.list [], .list [.tuple []]],
  .list [.none], .str "update", .str "{", .str "}"]
theorem odds_rp : ∀ d ∈ odds, rpOk d = true := List.all_eq_true.mp (by decide +kernel)
end Ur

namespace Ub
open PySem PySem.Spec PyProof.Rows L2 Ur
/-! ### the law's own state -/
structure StAt (H : Hp) (st g l : Addr) : Prop where
  ex : ∃ (gs ls : List Int) (c a : Int), H st = some (.lst [.ref g, .ref l, .int c, .int a]) ∧ H g = some (.lst (gs.map V.int)) ∧ H l = some (.lst (ls.map V.int)) ∧ gs.length ≤ 63 ∧ ls.length ≤ 63 ∧ 0 ≤ a ∧ a < 4611686018427387904
  n1 : st ≠ g
  n2 : st ≠ l
  n3 : g ≠ l
def Kp (st g l : Addr) (H H' : Hp) : Prop := ∀ b o, H b = some o → b ≠ st → b ≠ g → b ≠ l → H' b = some o
theorem Kp.refl {st g l : Addr} (H : Hp) : Kp st g l H H := fun _ _ h _ _ _ => h
theorem Kp.trans {st g l : Addr} {H H1 H2 : Hp} (a : Kp st g l H H1) (b : Kp st g l H1 H2) : Kp st g l H H2 := fun c o h h1 h2 h3 => b c o (a c o h h1 h2 h3) h1 h2 h3
theorem Kp.of {st g l : Addr} {H H1 : Hp} (a : Same H H1) : Kp st g l H H1 := fun c o h _ _ _ => a c o h
theorem StAt.same {st g l : Addr} {H H1 : Hp} (s : StAt H st g l) (a : Same H H1) : StAt H1 st g l := by
  obtain ⟨⟨gs, ls, c, x, h1, h2, h3, r⟩, n1, n2, n3⟩ := s
  exact ⟨⟨gs, ls, c, x, a _ _ h1, a _ _ h2, a _ _ h3, r⟩, n1, n2, n3⟩
theorem StAt.back {st g l : Addr} {H H1 : Hp} (s : StAt H1 st g l) (k : Kp st g l H H1) {p : Addr} (h : H1 p = none) : H p = none := by
  obtain ⟨⟨gs, ls, c, x, h1, h2, h3, r⟩, n1, n2, n3⟩ := s
  cases e : H p with
  | none => rfl
  | some o => rw [k p o e (fun z => by rw [z, h1] at h; cases h) (fun z => by rw [z, h2] at h; cases h) (fun z => by rw [z, h3] at h; cases h)] at h; cases h
theorem small63 {n : Nat} (h : n ≤ 63) : n ≤ sizeLine := Nat.le_trans h (by decide)
theorem m100 {x m : Int} (h : 0 < m) (h2 : m ≤ 1000000000000000000000000000000) : CDivW x m := by
  have e : (2 : Nat) ^ 100 = 1267650600228229401496703205376 := by decide
  exact wide_div (b := 100) h (by omega) (by decide) (by decide)
structure DrI (H0 H : Hp) (st g l : Addr) (gs ls : List Int) (c a : Int) : Prop where
  h1 : H st = some (.lst [.ref g, .ref l, .int c, .int a])
  h2 : H g = some (.lst (gs.map V.int))
  h3 : H l = some (.lst (ls.map V.int))
  lg : gs.length ≤ 63
  kp : Kp st g l H0 H
theorem mulR {i j : Int} (h : -18446744073709551616 < j ∧ j < 18446744073709551616) : CMul i j := .inr h
def spDraw (st g l : Addr) (m : Int) (H : Hp) (Q : VK) : Prop := ∀ d H', 0 ≤ d → d < m → StAt H' st g l → Kp st g l H H' → Q (.int d) H'
def sp_draw : Sp := fun vs H Q _ => ∃ st g l m, vs = [.ref st, .int m] ∧ 0 < m ∧ m ≤ 1000000000000000000000000000000 ∧ StAt H st g l ∧ spDraw st g l m H Q
def sp_start (K : PySem.W.Frag) : Sp := fun vs H Q _ => ∃ (a : Addr) (ns : List Int), vs = [.ref a] ∧ SqL K H a (ns.map V.int) ∧ ns.length ≤ 63 ∧ ∀ st g l H', H st = none → H g = none → H l = none → StAt H' st g l → Same H H' → Q (.ref st) H'
def absI (i : Int) : Int := if i < 0 then -i else i
def kept : List Str := ["document", "update", "set", "new", "edit", "merge", "then", "old", "copy"]
/-! ### words -/
def letters : Str := "abcdefghijklmnopqrstuvwxyz"
def keptV : List V := kept.map V.str
def isLet (c : Nat) : Bool := decide (c ∈ letters.cps.toList)
def isWord (z : Str) : Bool := decide (1 ≤ z.length) && (decide (z.length ≤ 8) && (z.cps.toList.all isLet && !inV (.str z) keptV))
theorem split_kept : Txt.split "document update set new edit merge then old copy" " " = kept := by decide +kernel
theorem kept_flat : keptV.all flatV = true := by decide +kernel
/-- what both readings say -/
theorem good_eq (z : Str) (h : inV (.str z) keptV = false) (h0 : ¬ z.length = 0) (h8 : ¬ 8 < z.length) : decide (((z.cps.toList.filter isLet).length : Int) = (z.length : Int)) = isWord z := by
  have e1 : decide (1 ≤ z.length) = true := decide_eq_true (by omega)
  have e2 : decide (z.length ≤ 8) = true := decide_eq_true (by omega)
  unfold isWord
  rw [e1, e2, h]
  have el : z.length = z.cps.toList.length := by simp [Str.length]
  by_cases ha : z.cps.toList.all isLet = true
  · rw [ha]
    have := List.filter_eq_self.mpr (List.all_eq_true.mp ha)
    rw [this]
    simp [el]
  · rw [Bool.not_eq_true] at ha
    rw [ha]
    simp only [Bool.false_and, Bool.and_false]
    refine decide_eq_false fun e => ?_
    have e3 : (z.cps.toList.filter isLet).length = z.cps.toList.length := by
      rw [← el]; omega
    have := List.length_filter_eq_length_iff.mp e3
    rw [List.all_eq_true.mpr this] at ha
    cases ha
theorem isWord_len {z : Str} (h : isWord z = true) : 1 ≤ z.length ∧ z.length ≤ 8 := by
  unfold isWord at h
  simp only [Bool.and_eq_true, decide_eq_true_eq] at h
  exact ⟨h.1, h.2.1⟩
def sp_of : Sp := fun vs H Q _ => ∃ st g l p xs, vs = [.ref st, .ref p] ∧ H p = some (.lst xs) ∧ p ≠ st ∧ p ≠ g ∧ p ≠ l ∧ xs ≠ [] ∧ xs.length ≤ 1000 ∧ StAt H st g l ∧ ∀ v H', v ∈ xs → StAt H' st g l → Kp st g l H H' → Q v H'
/-- a value that is no part of the program -/
def OddAt (N : List Addr) (H : Hp) (x : V) : Prop := ∃ d ∈ odds, DtV N H x d
theorem OddAt.same {N : List Addr} {H H' : Hp} {x : V} (h : OddAt N H x) (s : Same H H') : OddAt N H' x := by
  obtain ⟨d, h1, h2⟩ := h
  exact ⟨d, h1, h2.same s⟩
def NotStr (K : PySem.W.Frag) (H : Hp) (x : V) : Prop := ∃ T : String, TyX K H x (.type T) ∧ kitB T "str" = some false
theorem odds_str : ∀ d ∈ odds, (match d with
  | .str z => decide (z.length ≤ 10)
  | _ => true) = true := List.all_eq_true.mp (by decide +kernel)
theorem OddAt.kind {K : PySem.W.Frag} {N : List Addr} {H : Hp} {x : V} (h : OddAt N H x) : (∃ z : Str, x = .str z ∧ z.length ≤ 10) ∨ NotStr K H x := by
  obtain ⟨d, hd, h⟩ := h
  cases h with
  | str z => exact .inl ⟨z, rfl, of_decide_eq_true (odds_str _ hd)⟩
  | non => exact .inr ⟨_, .base .non, by decide +kernel⟩
  | bl b => exact .inr ⟨_, .base (.bl b), by decide +kernel⟩
  | int i => exact .inr ⟨_, .base (.int i), by decide +kernel⟩
  | lst h1 => exact .inr ⟨_, .base (.lst h1), by decide +kernel⟩
  | tup h1 => exact .inr ⟨_, .base (.tup h1), by decide +kernel⟩
def sp_odd : Sp := fun vs H Q _ => ∃ st g l, vs = [.ref st] ∧ StAt H st g l ∧ ∀ v H', OddAt [st, g, l] H' v → StAt H' st g l → Kp st g l H H' → Q v H'
def sp_is_word (K : PySem.W.Frag) : Sp := fun vs H Q _ => ∃ x, vs = [x] ∧ ((∃ z : Str, x = .str z ∧ z.length ≤ 10000 ∧ ∀ H', Same H H' → Q (.bl (isWord z)) H') ∨ (NotStr K H x ∧ ∀ H', Same H H' → Q (.bl false) H'))
def sp_good : Sp := fun vs H Q _ => ∃ z : Str, vs = [.str z] ∧ z.length ≤ 10000 ∧ ∀ H', Same H H' → Q (.bl (isWord z)) H'
theorem sz4 {n : Nat} (h : n ≤ 10000) : n ≤ sizeLine := Nat.le_trans h (by decide)
theorem szI {n : Nat} (h : n ≤ 10000) : (n : Int) < 9223372036854775808 := by omega
theorem sub_len {α : Type} [BEq α] [LawfulBEq α] : ∀ (l m : List α), l.Nodup → (∀ x ∈ l, x ∈ m) → l.length ≤ m.length
  | [], _, _, _ => Nat.zero_le _
  | x :: r, m, hn, hs => by
    have hx : x ∈ m := hs x List.mem_cons_self
    have hr : r.Nodup := (List.nodup_cons.mp hn).2
    have hxr : x ∉ r := (List.nodup_cons.mp hn).1
    have ih := sub_len r (m.erase x) hr fun y hy => (List.mem_erase_of_ne (show y ≠ x from fun e => hxr (e ▸ hy))).mpr (hs y (List.mem_cons_of_mem _ hy))
    rw [List.length_erase_of_mem hx] at ih
    have : 0 < m.length := List.length_pos_of_mem hx
    rw [List.length_cons]
    omega
theorem app_cps (x y : Str) : (x ++ y).cps.toList = x.cps.toList ++ y.cps.toList := by
  show (Str.append x y).cps.toList = _
  simp [Str.append]
theorem len_app (x y : Str) : (x ++ y).length = x.length + y.length := by
  have := congrArg List.length (app_cps x y)
  simpa [Str.length] using this
theorem join_cps : ∀ ws : List Str, (Str.join "" ws).cps.toList = ws.flatMap fun w => w.cps.toList
  | [] => rfl
  | [x] => by simp [Str.join]
  | x :: y :: r => by
    have ih := join_cps (y :: r)
    show (x ++ "" ++ Str.join "" (y :: r)).cps.toList = _
    rw [app_cps, app_cps, ih]
    have e : (("" : Str)).cps.toList = [] := by decide +kernel
    rw [e]
    simp
theorem len_toList (z : Str) : z.cps.toList.length = z.length := by simp [Str.length]
/-- a text of letters -/
def Low (z : Str) : Prop := ∀ c ∈ z.cps.toList, isLet c = true
theorem cut_low {z : Str} {lo hi : Option Int} (h : Low z) : Low (cutS z lo hi) := fun c hc => by
  unfold cutS at hc
  exact h c (List.mem_of_mem_drop (List.mem_of_mem_take (by simpa using hc)))
theorem cut_7 (z : Str) : (cutS z none (some 7)).length ≤ 7 := by
  have e : HT.sIx z.length z.length (some 7) ≤ 7 := by
    rw [show (some (7 : Int)) = some (((7 : Nat) : Int)) from rfl, HT.sIx_nat]
    omega
  unfold cutS
  show ((z.cps.toList.drop _).take _).toArray.size ≤ 7
  rw [List.size_toArray, List.length_take]
  omega
def way (z : Str) (c : Nat) : Str := cutS z none (some 7) ++ ⟨#[c]⟩
theorem way_low {z : Str} {c : Nat} (h : Low z) (hc : isLet c = true) : Low (way z c) := fun d hd => by
  unfold way at hd
  rw [app_cps] at hd
  rcases List.mem_append.mp hd with hd | hd
  · exact cut_low h d hd
  · have : d = c := by simpa using hd
    rw [this]; exact hc
theorem way_len (z : Str) (c : Nat) : 1 ≤ (way z c).length ∧ (way z c).length ≤ 8 := by
  have h7 := cut_7 z
  have e : ((⟨#[c]⟩ : Str)).length = 1 := rfl
  unfold way
  rw [len_app, e]
  omega
theorem way_inj {z : Str} {c d : Nat} (h : way z c = way z d) : c = d := by
  have h1 := congrArg (fun s : Str => s.cps.toList) h
  unfold way at h1
  simp only [app_cps] at h1
  have h2 := List.append_cancel_left h1
  simpa using h2
theorem lets_nd : letters.cps.toList.Nodup := by decide +kernel
theorem lets_len : letters.cps.toList.length = 26 := by decide +kernel
def ways (z : Str) : List Str := z :: letters.cps.toList.map (way z)
theorem ways_ex (z : Str) (bad : List Str) (hb : bad.length ≤ 25) : ∃ c ∈ letters.cps.toList, way z c ∉ bad := by
  refine Classical.byContradiction fun h => ?_
  have hs : ∀ x ∈ letters.cps.toList.map (way z), x ∈ bad := fun x hx => by
    obtain ⟨c, hc, rfl⟩ := List.mem_map.mp hx
    exact Classical.byContradiction fun hn => h ⟨c, hc, hn⟩
  have hn : (letters.cps.toList.map (way z)).Nodup := by
    unfold List.Nodup
    rw [List.pairwise_map]
    exact lets_nd.imp fun hne e => hne (way_inj e)
  have := sub_len _ _ hn hs
  rw [List.length_map, lets_len] at this
  omega
theorem inV_str (z : Str) : ∀ ws : List Str, inV (.str z) (ws.map V.str) = decide (z ∈ ws)
  | [] => rfl
  | w :: r => by
    have ih := inV_str z r
    unfold inV at ih ⊢
    rw [List.map_cons, List.any_cons, ih]
    show ((w == z) || decide (z ∈ r)) = decide (z ∈ w :: r)
    by_cases e : w = z
    · subst e; simp
    · have e2 : (w == z) = false := beq_eq_false_iff_ne.mpr e
      rw [e2]
      have : ¬ z = w := fun q => e q.symm
      simp [this]
theorem isWord_iff {z : Str} : isWord z = true ↔ 1 ≤ z.length ∧ z.length ≤ 8 ∧ Low z ∧ z ∉ kept := by
  unfold isWord keptV
  rw [inV_str]
  simp only [Bool.and_eq_true, decide_eq_true_eq, Bool.not_eq_true', decide_eq_false_iff_not, List.all_eq_true]
  exact Iff.rfl
def sp_word : Sp := fun vs H Q _ => ∃ (st g l t : Addr) (taken : List Str), vs = [.ref st, .ref t] ∧ H t = some (.lst (taken.map V.str)) ∧ t ≠ st ∧ t ≠ g ∧ t ≠ l ∧ taken.length ≤ 16 ∧ StAt H st g l ∧ ∀ (z : Str) H', isWord z = true → z ∉ taken → StAt H' st g l → Kp st g l H H' → Q (.str z) H'
theorem StAt.ne {H : Hp} {st g l p : Addr} (S : StAt H st g l) (h : H p = none) : p ≠ st ∧ p ≠ g ∧ p ≠ l := by
  obtain ⟨⟨_, _, _, _, h1, h2, h3, _⟩, _⟩ := S
  exact ⟨(ne_of_none h1 h).symm, (ne_of_none h2 h).symm, (ne_of_none h3 h).symm⟩
theorem flat_strs (ws : List Str) : (ws.map V.str).all flatV = true := by
  rw [List.all_eq_true]
  intro x hx
  obtain ⟨w, _, rfl⟩ := List.mem_map.mp hx
  rfl
theorem StAt.upd {H : Hp} {st g l p : Addr} {o : HO} (S : StAt H st g l) (h1 : p ≠ st) (h2 : p ≠ g) (h3 : p ≠ l) : StAt (upd H p o) st g l := by
  obtain ⟨⟨gs, ls, c, a, e1, e2, e3, r⟩, n1, n2, n3⟩ := S
  exact ⟨⟨gs, ls, c, a, by rw [upd_ne h1.symm]; exact e1, by rw [upd_ne h2.symm]; exact e2, by rw [upd_ne h3.symm]; exact e3, r⟩, n1, n2, n3⟩
theorem mul_len (z : Str) (n : Nat) : (Txt.mul z (n : Int)).length = z.length * n := by
  have h := len_mul z (n : Int)
  have e : (if decide ((n : Int) < 0) = true then (0 : Int) else (n : Int)) = (n : Int) := by
    rw [decide_eq_false (by omega)]
    rfl
  rw [e] at h
  have : (((Txt.mul z (n : Int)).length : Nat) : Int) = ((z.length * n : Nat) : Int) := by rw [h, Int.natCast_mul]
  omega
theorem memS {P : Str → Prop} {ws : List Str} {x : V} {i : Nat} (h : ∀ y ∈ ws, P y) (hx : (ws.map V.str)[i]? = some x) : ∃ y, x = .str y ∧ P y := by
  obtain ⟨y, hy, rfl⟩ := List.mem_map.mp (List.mem_of_getElem? hx)
  exact ⟨y, rfl, h y hy⟩
theorem kept_len : ∀ x ∈ kept, x.length ≤ 8 := by decide +kernel
end Ub

namespace Ue
open PySem PySem.Spec PyProof.Rows L2 Ub
/-! ### own error classes with one field -/
structure ExK (K : PySem.W.Frag) (C fI : Addr) (f : Str) : Prop where
  o : OexC K C
  x : XfC K C
  e : ExcC K C
  no : PySem.W.findIn K (.ref C) f = some none
  iC : PySem.W.findIn K (.ref C) "__init__" = some (some (.ref fI))
  tI : PySem.W.typeIn K (.ref fI) = some (.type "function")
def clB (K : PySem.W.Frag) (C : Addr) : Bool := match K.lookup C with
  | some ⟨.type T, _, .cls cd, sl⟩ => (match cd.mro, sl.toList with
    | .ref C' :: bm, [_, _, _, _, some (.builtin n), _] => decide (T = "type") && (decide (C' = C) && (decide (n = "ValueError.__new__") && (!cd.hasDel && (cd.hasDict && PySem.HandSPX.refsVE bm))))
    | _, _ => false)
  | _ => false
theorem clB_ok {K : PySem.W.Frag} {C : Addr} (h : clB K C = true) : ∃ nm q N bs bm sn sub ab col dd k0 k1 k2 k3 k5, K.lookup C = some (excClassObj nm q C N bs bm true sn sub ab col dd k0 k1 k2 k3 k5 "ValueError.__new__") ∧ PySem.HandSPX.refsVE bm = true := by
  unfold clB at h
  split at h
  · rename_i T dd cd sl ho
    split at h
    · rename_i C' bm k0 k1 k2 k3 n k5 hm hs
      obtain ⟨nm, bs, mro, ns, qn, hd, sn, sub, ab, col, del⟩ := cd
      obtain ⟨ls⟩ := sl
      simp only [Bool.and_eq_true, decide_eq_true_eq, Bool.not_eq_true'] at h
      obtain ⟨rfl, rfl, rfl, h1, h2, h3⟩ := h
      dsimp only at hm hs h1 h2
      subst hm hs h1 h2
      exact ⟨nm, qn, ns, bs, bm, sn, sub, ab, col, dd, k0, k1, k2, k3, k5, ho, h3⟩
    · cases h
  · cases h
def exB (K : PySem.W.Frag) (C fI : Addr) (f : Str) : Bool :=
  clB K C && (He.eqO (PySem.W.findIn K (.ref C) "__setattr__") (some (some (.builtin "object.__setattr__"))) && (decide (PySem.W.typeIn K (.ref C) = some (.type "type")) && (PySem.W.keepIn K (.ref C) && (xfB K C &&
  (He.eqO (PySem.W.findIn K (.ref C) "__class__") (some (some (.builtin "object.__class__"))) && (He.eqO (PySem.W.specialIn K (.builtin "object.__class__") "__get__") (some (some (.builtin "getset_descriptor.__get__"))) &&
  (decide (PySem.W.takesIn K (.builtin "object.__class__") = some true) && (decide (PySem.W.mroIn K C (.type "object") = some true) && (He.eqO (PySem.W.findIn K (.ref C) f) (some none) &&
  (He.eqO (PySem.W.findIn K (.ref C) "__init__") (some (some (.ref fI))) && decide (PySem.W.typeIn K (.ref fI) = some (.type "function"))))))))))))
theorem exB_ok {K : PySem.W.Frag} {C fI : Addr} {f : Str} (h : exB K C fI f = true) : ExK K C fI f := by
  obtain ⟨h1, h⟩ := He.ba h
  obtain ⟨h2, h⟩ := He.ba h
  obtain ⟨h3, h⟩ := He.ba h
  obtain ⟨h4, h⟩ := He.ba h
  obtain ⟨h5, h⟩ := He.ba h
  obtain ⟨h6, h⟩ := He.ba h
  obtain ⟨h7, h⟩ := He.ba h
  obtain ⟨h8, h⟩ := He.ba h
  obtain ⟨h9, h⟩ := He.ba h
  obtain ⟨h10, h⟩ := He.ba h
  obtain ⟨h11, h12⟩ := He.ba h
  have x := xfB_ok h5
  exact ⟨⟨clB_ok h1, He.eqO_ok h2, x.exC, of_decide_eq_true h3, h4⟩, x, ⟨x.ga, x.gg, x.exC, x.hdC, He.eqO_ok h6, He.eqO_ok h7, of_decide_eq_true h8, of_decide_eq_true h9⟩, He.eqO_ok h10, He.eqO_ok h11, of_decide_eq_true h12⟩
/-- what such an __init__ does -/
def sp_exi (C : Addr) (f : Str) : Sp := fun vs H Q _ => ∃ a y, vs = [.ref a, y] ∧ H a = some (exo a C none) ∧ ∀ d, H d = none → d ≠ a → Q .non (upd (upd H d (exd d [(f, y)])) a (exo a C (some d)))
/-- such a class by its name -/
structure CalX (P : Program) (w : World) (K : PySem.W.Frag) (mg : Str → Option Value) (base : Heap) (k : Nat) (x : Str) (C : Addr) (f : Str) : Prop where
  ex : ∃ fI fd ps, ExK K C fI f ∧ FnOk P w K mg base CX0 k fI fd ps (sp_exi C f) ∧ Binds K fd ps [] ∧ mg x = some (.ref C)
def MkX (C : Addr) (f : Str) (v : V) (H1 : Hp) (W : XK) : Prop := [v].length ≤ 1000 ∧ ∀ a, H1 a = none → sp_exi C f (.ref a :: ([v] ++ [])) (upd H1 a (exo a C none))
  (fun v H2 => v = .non ∧ ∃ (d : Addr) (fs : List (Str × V)), H2 a = some (exo a C (some d)) ∧ H2 d = some (exd d fs) ∧ H1 d = none ∧ W (.ref C) (some d) (upd (del H2 a) d (.xd fs))) (fun _ _ _ => False)
theorem mkX {C : Addr} {f : Str} {v : V} {H1 : Hp} {W : XK} (h : ∀ d H', Same H1 H' → H1 d = none → H' d = some (.xd [(f, v)]) → W (.ref C) (some d) H') : MkX C f v H1 W := by
  refine ⟨by simp, fun a ha => ⟨a, v, rfl, upd_same, fun d hd hne => ⟨rfl, d, [(f, v)], upd_same, ?_, ?_, h d _ (fun b o q => ?_) ?_ upd_same⟩⟩⟩
  · rw [upd_ne hne, upd_same]
  · rwa [upd_ne hne] at hd
  · rw [upd_ne hne] at hd
    have hb := ne_of_none q ha
    have hbd := ne_of_none q hd
    rw [upd_ne hbd, del_ne hb, upd_ne hb, upd_ne hbd, upd_ne hb]
    exact q
  · rwa [upd_ne hne] at hd
section
variable {X : Cx} {k : Nat} {x : Str} {C : Addr} {f : Str} {e : Expr} {te : TE} {p pos pos' : Pos}
/-- raise x(e) -/
theorem ps_raiseX {W : WX} (c : CalX X.prog X.w X.K X.mg X.base k x C f) (hc : X.calm = true) (tk : Takes X W) (hr : Room (k + 1) X.A) (hg : Gl X x) (he : PE X e te)
    (hdb : (x == ("__debug__" : Str)) = false := by decide) (hs : starEach [e] X.env = (false, eval e X.env) :: starEach [] X.env := by rfl) :
    PS X (.Raise (some (.Call (.Name x p) [e] [] pos)) none pos') (fun _ σ H => te σ H fun v H1 => MkX C f v H1 fun cls d H' => W cls d σ H') := by
  obtain ⟨fI, fd, ps, E, F, hb, hm⟩ := c.ex
  exact ps_raise hc tk (pmk_oex E.o E.iC E.tI F hr hb .nil pass0 hg hm (pa_cons he pa_nil hs) hdb hs rfl)
/-- x(e), as a value -/
def Mk1 (C : Addr) (f : Str) (Q : VK) (v : V) (H1 : Hp) : Prop := ∀ a d H', Same H1 H' → H1 a = none → H1 d = none → H' a = some (exo a C (some d)) → H' d = some (exd d [(f, v)]) → Q (.ref a) H'
def MkL (C : Addr) (f : Str) (Q : VK) : List V → Hp → Prop
  | [v], H1 => Mk1 C f Q v H1
  | _, _ => False
def tMkX (C : Addr) (f : Str) (te : TE) : TE := fun σ H Q => te σ H (Mk1 C f Q)
theorem MkL.one {C : Addr} {f : Str} {Q : VK} {vs : List V} {H1 : Hp} (h : MkL C f Q vs H1) : ∃ v, vs = [v] ∧ Mk1 C f Q v H1 := by
  match vs, h with
  | [v], h => exact ⟨v, rfl, h⟩
theorem pe_mkX (c : CalX X.prog X.w X.K X.mg X.base k x C f) (hr : Room (k + 1) X.A) (hg : Gl X x) (he : PE X e te)
    (hdb : (x == ("__debug__" : Str)) = false := by decide) (hs : starEach [e] X.env = (false, eval e X.env) :: starEach [] X.env := by rfl) :
    PE X (.Call (.Name x p) [e] [] pos) (tMkX C f te) := by
  obtain ⟨fI, fd, ps, E, F, hb, hm⟩ := c.ex
  obtain ⟨nm, q, N, bs, bm, sn, sub, ab, col, dd, k0, k1, k2, k3, k5, lk, hbm⟩ := E.o.cls
  refine ⟨fun pins s σ H Q I h => wpAny_Call_Name_kw (ld_glob I hg hm ?_ hdb)⟩
  refine PySem.W.callWith_K (h₀ := X.base) I.ok.mod.kin E.o.kC (thn ((pa_cons he pa_nil hs).run pos pins s σ H (MkL C f Q) I h) fun us s1 ⟨vs, H1, J, rv, ml⟩ => ⟨J.kIn, ?_⟩) hs rfl
  obtain ⟨v, rfl, m1⟩ := ml.one
  obtain ⟨hp, g, dr, tk, os⟩ := s1
  show wpAny _ _ (call (.ref C) us) _ _ _
  let n := hp.objs.size
  let h2 := (hp.push (PySem.W.kdv_tup us)).push (PySem.HandSPX.excO C n)
  have hn : H1 (n + 1) = none := J.hok.fresh (Nat.le_succ _)
  have kk : ∀ b o, hp.get? b = some o → h2.get? b = some o := fun b o z => Heap.get?_push_of_some _ (Heap.get?_push_of_some _ z)
  have at_ : h2.get? (n + 1) = some (PySem.HandSPX.excO C n) := by
    show ((hp.push (PySem.W.kdv_tup us)).push (PySem.HandSPX.excO C hp.objs.size)).get? (hp.objs.size + 1) = some (PySem.HandSPX.excO C hp.objs.size)
    heap_get
  have J2 : Inv X pins σ (upd H1 (n + 1) (exo (n + 1) C none)) ⟨h2, g, dr, tk, os⟩ := J.laid (t' := tk) kk (Nat.le_succ _) (exo_ok at_)
  have hl1 : us.length = 1 := by rw [← rv.length]; rfl
  have sp : sp_exi C f [.ref (n + 1), v] (upd H1 (n + 1) (exo (n + 1) C none)) (fun z H2 => z = .non ∧ Q (.ref (n + 1)) H2) (fun _ _ _ => False) := by
    refine ⟨n + 1, v, rfl, upd_same, fun d hd hne => ⟨rfl, ?_⟩⟩
    rw [upd_ne hne] at hd
    refine m1 (n + 1) d _ (fun b o z => ?_) hn hd upd_same (by rw [upd_ne hne, upd_same])
    rw [upd_ne (ne_of_none z hn), upd_ne (ne_of_none z hd), upd_ne (ne_of_none z hn)]
    exact z
  have r2 : Vals [V.ref (n + 1), v] (Value.ref (n + 1) :: us) := .cons rfl rv
  have hl : (Value.ref (n + 1) :: us).length = ps.length := by
    rw [← r2.length]
    exact F.len _ _ _ _ sp
  have bi : BindsTo ⟨h2, g, dr, tk, os⟩ fd ⟨Value.ref (n + 1) :: us, []⟩ (ps.zip (Value.ref (n + 1) :: us)) := by
    have z := hb ⟨h2, g, dr, tk, os⟩ (Value.ref (n + 1) :: us) J2.kIn (by rw [List.append_nil]; exact hl)
    rwa [List.append_nil] at z
  refine wpAny_call (PySem.HandSPX.call_own PySem.F.excBase_ValueError (fun Y => PySem.HandSPX.refsVE_contains Y bm hbm) (J.kIn _ _ lk) (PySem.W.looks_findIn J.kIn E.iC) (fun self => PySem.W.bind_fn J.kIn self E.tI) (by rw [hl1]; decide)
    (codeAny_mono (F.run _ X.stack _ _ ⟨Value.ref (n + 1) :: us, []⟩ (Value.ref (n + 1) :: us) _ _ (fun _ _ _ => False) (hr.make C us []) (J2.env0.make C us []) bi r2 sp) fun r s2 hq => ?_))
  match r, hq with
  | .error _, hq => exact hq.elim
  | .ok (.ret u), hq =>
    obtain ⟨z, H2, J3, rz, ez, q2⟩ := J2.after hq
    subst ez
    exact ⟨rz, .ref (n + 1), H2, J3, rfl, q2⟩
/-- x.f, x such a value -/
def tExf (K : PySem.W.Frag) (f : Str) (te : TE) : TE := fun σ H Q => te σ H fun x H1 => ∃ (a C d : Addr) (fs : List (Str × V)) (v : V), x = .ref a ∧ H1 a = some (exo a C (some d)) ∧ H1 d = some (exd d fs) ∧ XfC K C ∧ PySem.W.findIn K (.ref C) f = some none ∧ fs.lookup f = some v ∧ Q v H1
theorem exo_inst {P : Program} {w : World} {H : Hp} {h : Heap} {a C d : Addr} {fs : List (Str × V)} (hok : HOk P w H h) (ea : H a = some (exo a C (some d))) (ed : H d = some (exd d fs)) :
    ∃ (oe od : Obj) (mA : Str → Option Value), PySem.W.InstAt h a oe C (some od) ∧ (∀ n, PySem.W.lookIn n od = some (mA n)) ∧ ∀ n, RelO (fs.lookup n) (mA n) := by
  obtain ⟨t, ho⟩ := exo_at hok ea
  obtain ⟨mA, hns, hr⟩ := exd_at hok ed
  obtain ⟨od, h1, h2⟩ := lookIn_ns hns
  exact ⟨_, od, mA, ⟨ho, rfl, rfl, h1⟩, h2, hr⟩
theorem pe_exf (he : PE X e te) (hb : attributeBase e f X.env (eval e X.env) = eval e X.env := by rfl) : PE X (.Attribute e f pos) (tExf X.K f te) := by
  refine ⟨fun pins s σ H Q I h => attr_of hb (thn (he.run pins s σ H _ I h) fun u s1 hh => ?_)⟩
  obtain ⟨x, H1, J, rx, a, C, d, fs, v, rfl, ea, ed, T, no, l, q⟩ := hh
  obtain rfl : u = Value.ref a := rx
  obtain ⟨oe, od, mA, Z, hl, hr⟩ := exo_inst J.hok ea ed
  obtain ⟨y, hy, ry⟩ := RelO.some_of (v := v) (o := mA f) (by rw [← l]; exact hr f)
  exact HandSPX.exc_get J.kIn Z T.ga T.gg T.exC (PySem.W.findObj_own T.hdC no rfl (by rw [hl, hy])) (handed_of ry) ⟨v, H1, J.tok _, ry, q⟩
/-- isinstance(x, c), x such a value -/
def rIsX (K : PySem.W.Frag) : List V → Hp → VK → Prop := fun xs H Q => ∃ (a C d : Addr) (fs : List (Str × V)) (c : V) (cv : Value) (b : Bool), xs = [.ref a, c] ∧ H a = some (exo a C (some d)) ∧ H d = some (exd d fs) ∧ ExcC K C ∧ (∀ u, RelV c u → u = cv) ∧ PySem.W.kitOne K (.ref C) cv = some b ∧ Q (.bl b) H
theorem clsSome {K : PySem.W.Frag} {C : Addr} (h : PySem.W.hasDictIn K C = true) : (PySem.W.clsIn K C).isSome = true := by
  obtain ⟨cd, hc, _⟩ := PySem.W.any_some h
  rw [hc]
  rfl
theorem call_isX : CallR X (.builtin "isinstance") (rIsX X.K) := by
  intro pins s σ H xs us Q I r h
  obtain ⟨a, C, d, fs, c, cv, b, rfl, ea, ed, T, hc, hk, q⟩ := h
  match us, r with
  | [u1, u2], .cons r1 (.cons r2 .nil) =>
    obtain rfl : u1 = Value.ref a := r1
    obtain rfl := hc _ r2
    obtain ⟨oe, od, mA, Z, _, _⟩ := exo_inst I.hok ea ed
    exact PySem.W.kia_one (PySem.W.kitx_exc (clsSome T.hd) T.hg T.hk T.hs T.ha T.hn T.ht T.hm) I.kIn Z hk (fun z => nomatch z) fun tk => ⟨.bl b, H, I.kept (t' := tk) fun _ _ z => z, rfl, q⟩
/-- isinstance(e, c), e what an except clause holds, with its dict -/
def rIsS (K : PySem.W.Frag) (a : Addr) (cls : Value) (d : Option Addr) : List V → Hp → VK → Prop := fun xs H Q => ∃ (C dd : Addr) (fs : List (Str × V)) (c : V) (cv : Value) (b : Bool), xs = [.ref a, c] ∧ cls = .ref C ∧ d = some dd ∧ H dd = some (.xd fs) ∧ ExcC K C ∧ (∀ u, RelV c u → u = cv) ∧ PySem.W.kitOne K (.ref C) cv = some b ∧ Q (.bl b) H
theorem call_isS {a : Addr} {oe : Obj} {cls : Value} {d : Option Addr} {pn : List (Addr × Obj)} (hz : Zc cls d oe) (hf : ∃ vs, oe.data = .fields vs) : CallR (X.suite a ((a, oe) :: pn)) (.builtin "isinstance") (rIsS X.K a cls d) := by
  intro pins s σ H xs us Q I r h
  obtain ⟨C, dd, fs, c, cv, b, rfl, rfl, rfl, ed, T, hc, hk, q⟩ := h
  match us, r with
  | [u1, u2], .cons r1 (.cons r2 .nil) =>
    obtain rfl : u1 = Value.ref a := r1
    obtain rfl := hc _ r2
    obtain ⟨ha, _⟩ := I.pin (a, oe) (List.mem_append_left _ List.mem_cons_self)
    obtain ⟨vs, hd⟩ := hf
    obtain ⟨mA, hns, _⟩ : ObjOk X.prog X.w H s.heap dd (.xd fs) := I.hok dd _ ed
    obtain ⟨od, ho, _⟩ := lookIn_ns hns
    have Z : PySem.W.InstAt s.heap a oe C (some od) := ⟨ha, hz.1, by unfold PySem.W.notCls; rw [hd] <;> rfl, by rw [hz.2]; exact ho⟩
    exact PySem.W.kia_one (PySem.W.kitx_exc (clsSome T.hd) T.hg T.hk T.hs T.ha T.hn T.ht T.hm) I.kIn Z hk (fun z => nomatch z) fun tk => ⟨.bl b, H, I.kept (t' := tk) fun _ _ z => z, rfl, q⟩
end
theorem takes0 {X : Cx} : Takes X (fun _ _ _ _ => False) := fun _ _ ⟨_, _, _, _, _, _, _, _, _, _, _, _, _, _, _, _, z⟩ => z.elim
/-- who is whose -/
structure KitT (K : PySem.W.Frag) (b : Str) (xs : List Str) : Prop where
  own : ∀ x ∈ xs, ∀ y ∈ xs, PySem.W.kitOne K (.ref (He.ga K x)) (.ref (He.ga K y)) = some (decide (x = y))
  base : ∀ x ∈ xs, PySem.W.kitOne K (.ref (He.ga K x)) (.ref (He.ga K b)) = some true
  ve : ∀ x ∈ xs, PySem.W.kitOne K (.ref (He.ga K x)) (.type "ValueError") = some true
def kitTB (K : PySem.W.Frag) (b : Str) (xs : List Str) : Bool := (xs.all fun x => xs.all fun y => decide (PySem.W.kitOne K (.ref (He.ga K x)) (.ref (He.ga K y)) = some (decide (x = y)))) &&
  ((xs.all fun x => decide (PySem.W.kitOne K (.ref (He.ga K x)) (.ref (He.ga K b)) = some true)) && xs.all fun x => decide (PySem.W.kitOne K (.ref (He.ga K x)) (.type "ValueError") = some true))
theorem kitTB_ok {K : PySem.W.Frag} {b : Str} {xs : List Str} (h : kitTB K b xs = true) : KitT K b xs := by
  obtain ⟨h1, h⟩ := He.ba h
  obtain ⟨h2, h3⟩ := He.ba h
  exact ⟨fun x hx y hy => of_decide_eq_true (List.all_eq_true.mp (List.all_eq_true.mp h1 x hx) y hy), fun x hx => of_decide_eq_true (List.all_eq_true.mp h2 x hx), fun x hx => of_decide_eq_true (List.all_eq_true.mp h3 x hx)⟩
end Ue

namespace Uh
open PySem PySem.Spec PyProof.Rows L2 Ub
def eqb (k : Bool) (v : Value) : Bool := match v with
  | .bool b => b == k
  | _ => false
theorem eqb_at {k : Bool} {A : Around} {s : Shared} : ∀ {bs : List Bool} {us : List Value}, Vals (bs.map V.bl) us → (∀ y ∈ us, SeqAt.EqAt A s y (.bool k) (eqb k y)) ∧ us.countP (eqb k) = bs.count k
  | [], us, r => by
    cases r
    exact ⟨(fun y hy => nomatch hy), rfl⟩
  | b :: bs, us, r => by
    cases r with
    | @cons _ u _ ur r1 r2 =>
      obtain rfl : u = Value.bool b := r1
      obtain ⟨h1, h2⟩ := eqb_at (k := k) (A := A) (s := s) r2
      refine ⟨fun y hy => ?_, ?_⟩
      · rcases List.mem_cons.mp hy with e | hy
        · rw [e]
          exact SeqAt.EqAt.bool_bool b k
        · exact h1 y hy
      · rw [List.countP_cons, List.count_cons, h2]
        rfl
def rCntB (K : PySem.W.Frag) : V → List V → Hp → VK → Prop := fun x xs H Q => ∃ (p : Addr) (bs : List Bool) (k : Bool), x = .ref p ∧ xs = [.bl k] ∧ SqL K H p (bs.map V.bl) ∧ Q (.int (bs.count k : Nat)) H
theorem mt_countB {X : Cx} : MtR X "list.count" (rCntB X.K) := by
  intro pins s σ H x xs v us Q I rx rxs h
  obtain ⟨p, bs, k, rfl, rfl, hs, q⟩ := h
  cases rx
  obtain ⟨u, rfl, ru⟩ := rxs.one
  obtain rfl : u = Value.bool k := ru
  obtain ⟨its, rv, ⟨⟨cls, dd, data, sl⟩, n, ho, hc, hdn, hd⟩, hlen⟩ := I.list hs
  simp only at hc hd
  subst hc hd
  refine call_meets PySem.F.slot_list_count ⟨_, ho, rfl⟩ PySem.F.entry_list_count (PySem.F.args_list_count_2 _ _)
    (SeqAt.list_countAt p its.toArray n dd sl (.bool k) (eqb k)) ⟨ho, fun y hy => (eqb_at rv).1 y (by simpa using hy), ?_⟩
  have ec : its.toArray.toList.countP (eqb k) = bs.count k := (eqb_at (A := X.A) (s := s) rv).2
  refine ⟨.int (bs.count k : Nat), H, I.tok _, ⟨s.toks, ?_⟩, q⟩
  rw [← ec]
end Uh

namespace Ub
open PySem PySem.Spec PyProof.Rows L2
theorem sz5 {n : Nat} (h : n ≤ 100000) : n ≤ sizeLine := Nat.le_trans h (by decide)
theorem natSum (l : List Nat) : ((l.sum : Nat) : Int) = (l.map fun (n : Nat) => ((n : Nat) : Int)).sum := by
  induction l with
  | nil => rfl
  | cons a r ih => rw [List.sum_cons, List.map_cons, List.sum_cons, ← ih]; omega
/-! ### trees: the fields one behind the other; none: a plain value -/
inductive Tr where
  | nil
  | cons (w : Str) (t r : Tr)
namespace Tr
def isNil : Tr → Bool
  | nil => true
  | cons _ _ _ => false
def fields : Tr → List (Str × Tr)
  | nil => []
  | cons w t r => (w, t) :: fields r
def ofFields : List (Str × Tr) → Tr
  | [] => nil
  | (w, t) :: r => cons w t (ofFields r)
theorem of_fields : ∀ t : Tr, ofFields t.fields = t
  | nil => rfl
  | cons w t r => by
    show cons w t (ofFields r.fields) = _
    rw [of_fields r]
theorem fields_of : ∀ l : List (Str × Tr), (ofFields l).fields = l
  | [] => rfl
  | (w, t) :: r => by
    show (w, t) :: (ofFields r).fields = _
    rw [fields_of r]
/-- records, plain values, depth of the fields; of the tree -/
def srec : Tr → Nat
  | nil => 0
  | cons _ t r => (if t.isNil then 0 else 1 + srec t) + srec r
def recs (t : Tr) : Nat := if t.isNil then 0 else 1 + srec t
def spla : Tr → Nat
  | nil => 0
  | cons _ t r => (if t.isNil then 1 else spla t) + spla r
def plains (t : Tr) : Nat := if t.isNil then 1 else spla t
def sdep : Tr → Nat
  | nil => 0
  | cons _ t r => max (if t.isNil then 0 else 1 + sdep t) (sdep r)
def depth (t : Tr) : Nat := if t.isNil then 0 else 1 + sdep t
def pieces : Tr → List Str
  | nil => []
  | cons w t r => (w ++ ": " ++ (if t.isNil then (".": Str) else "{" ++ Str.join ", " (pieces t) ++ "}")) :: pieces r
def text (t : Tr) : Str := if t.isNil then "." else "{" ++ Str.join ", " (pieces t) ++ "}"
theorem srec_eq : ∀ t : Tr, srec t = (t.fields.map fun p => recs p.2).sum
  | nil => rfl
  | cons w t r => by
    show (if t.isNil then 0 else 1 + srec t) + srec r = ((recs t) :: (r.fields.map fun p => recs p.2)).sum
    rw [List.sum_cons, srec_eq r]
    rfl
theorem spla_eq : ∀ t : Tr, spla t = (t.fields.map fun p => plains p.2).sum
  | nil => rfl
  | cons w t r => by
    show (if t.isNil then 1 else spla t) + spla r = ((plains t) :: (r.fields.map fun p => plains p.2)).sum
    rw [List.sum_cons, spla_eq r]
    rfl
theorem pieces_eq : ∀ t : Tr, pieces t = t.fields.map fun p => p.1 ++ ": " ++ text p.2
  | nil => rfl
  | cons w t r => by
    show (w ++ ": " ++ text t) :: pieces r = _
    rw [pieces_eq r]
    rfl
theorem sdep_mem : ∀ {t : Tr} {p : Str × Tr}, p ∈ t.fields → depth p.2 ≤ sdep t
  | nil, p, h => by cases h
  | cons w t r, p, h => by
    rcases List.mem_cons.mp h with rfl | h
    · exact Nat.le_max_left _ _
    · exact Nat.le_trans (sdep_mem h) (Nat.le_max_right _ _)
theorem sdep_at : ∀ {t : Tr}, t.isNil = false → ∃ p ∈ t.fields, depth p.2 = sdep t
  | nil, h => by cases h
  | cons w t nil, _ => ⟨(w, t), List.mem_cons_self, by show depth t = max (depth t) 0; omega⟩
  | cons w t (cons w2 t2 r), _ => by
    obtain ⟨p, hp, e⟩ := sdep_at (t := cons w2 t2 r) rfl
    by_cases h : depth t ≤ sdep (cons w2 t2 r)
    · refine ⟨p, List.mem_cons_of_mem _ hp, ?_⟩
      show depth p.2 = max (depth t) (sdep (cons w2 t2 r))
      omega
    · refine ⟨(w, t), List.mem_cons_self, ?_⟩
      show depth t = max (depth t) (sdep (cons w2 t2 r))
      omega
theorem depth_lt {t : Tr} {p : Str × Tr} (h : p ∈ t.fields) : depth p.2 < depth t := by
  have h1 := sdep_mem h
  have h2 : t.isNil = false := by
    cases t with
    | nil => cases h
    | cons _ _ _ => rfl
  unfold depth
  rw [h2]
  show depth p.2 < 1 + sdep t
  omega
/-- how many fields in all; words of at most eight signs -/
def size : Tr → Nat
  | nil => 0
  | cons _ t r => 1 + size t + size r
def short : Tr → Prop
  | nil => True
  | cons w t r => w.length ≤ 8 ∧ short t ∧ short r
theorem fields_len : ∀ t : Tr, t.fields.length ≤ t.size
  | nil => Nat.le_refl _
  | cons w t r => by
    have := fields_len r
    show r.fields.length + 1 ≤ 1 + t.size + r.size
    omega
theorem size_mem : ∀ {t : Tr} {p : Str × Tr}, p ∈ t.fields → p.2.size < t.size
  | nil, p, h => by cases h
  | cons w t r, p, h => by
    show p.2.size < 1 + t.size + r.size
    rcases List.mem_cons.mp h with rfl | h
    · show t.size < _
      omega
    · have := size_mem h
      omega
theorem short_mem : ∀ {t : Tr} {p : Str × Tr}, t.short → p ∈ t.fields → p.1.length ≤ 8 ∧ p.2.short
  | nil, p, _, h => by cases h
  | cons w t r, p, hs, h => by
    rcases List.mem_cons.mp h with rfl | h
    · exact ⟨hs.1, hs.2.1⟩
    · exact short_mem hs.2.2 h
theorem join_len (sep : Str) : ∀ ws : List Str, (Str.join sep ws).length ≤ (ws.map (·.length)).sum + ws.length * sep.length
  | [] => Nat.zero_le _
  | [x] => by
    show x.length ≤ _
    simp only [List.map_cons, List.map_nil, List.sum_cons, List.sum_nil]
    omega
  | x :: y :: r => by
    have ih := join_len sep (y :: r)
    show (x ++ sep ++ Str.join sep (y :: r)).length ≤ _
    rw [len_app, len_app, List.map_cons, List.sum_cons, List.length_cons, Nat.succ_mul]
    omega
theorem join_le : ∀ {t : Tr}, t.short → ((pieces t).map (·.length)).sum + (pieces t).length * 2 ≤ 14 * t.size ∧ (text t).length ≤ 2 + 14 * t.size
  | nil, _ => ⟨Nat.le_refl _, by decide +kernel⟩
  | cons w t r, h => by
    obtain ⟨h1, h2, h3⟩ := h
    obtain ⟨_, a2⟩ := join_le h2
    obtain ⟨b1, _⟩ := join_le h3
    have e2 : ((": " : Str)).length = 2 := by decide +kernel
    have e3 : ((", " : Str)).length = 2 := by decide +kernel
    have e4 : (("{" : Str)).length = 1 := by decide +kernel
    have e5 : (("}" : Str)).length = 1 := by decide +kernel
    have k : ((pieces (cons w t r)).map (·.length)).sum + (pieces (cons w t r)).length * 2 ≤ 14 * (1 + t.size + r.size) := by
      show (((w ++ ": " ++ text t) :: pieces r).map (·.length)).sum + ((w ++ ": " ++ text t) :: pieces r).length * 2 ≤ _
      rw [List.map_cons, List.sum_cons, List.length_cons, len_app, len_app, e2]
      omega
    refine ⟨k, ?_⟩
    show ("{" ++ Str.join ", " (pieces (cons w t r)) ++ "}" : Str).length ≤ _
    have j := join_len ", " (pieces (cons w t r))
    rw [e3] at j
    rw [len_app, len_app, e4, e5]
    show _ ≤ 2 + 14 * (1 + t.size + r.size)
    omega
theorem nil_iff {t : Tr} : t.isNil = t.fields.isEmpty := by cases t <;> rfl
theorem nil_of {t : Tr} (h : t.isNil = true) : t = nil := by
  cases t with
  | nil => rfl
  | cons _ _ _ => cases h
end Tr
theorem recs_int {t : Tr} (h : t.isNil = false) : (1 : Int) + (t.fields.map fun m => ((m.2.recs : Nat) : Int)).sum = ((t.recs : Nat) : Int) := by
  have e : t.recs = 1 + (t.fields.map fun p => p.2.recs).sum := by
    rw [← Tr.srec_eq]
    show (if t.isNil then 0 else 1 + t.srec) = _
    rw [h]
    rfl
  have e2 := natSum (t.fields.map fun p => p.2.recs)
  rw [List.map_map] at e2
  have e3 : (t.fields.map ((fun (n : Nat) => ((n : Nat) : Int)) ∘ fun p => p.2.recs)).sum = (t.fields.map fun m => ((m.2.recs : Nat) : Int)).sum := rfl
  rw [e3] at e2
  rw [e, ← e2]
  omega
theorem plains_int {t : Tr} (h : t.isNil = false) : (t.fields.map fun m => ((m.2.plains : Nat) : Int)).sum = ((t.plains : Nat) : Int) := by
  have e : t.plains = (t.fields.map fun p => p.2.plains).sum := by
    rw [← Tr.spla_eq]
    show (if t.isNil then 1 else t.spla) = _
    rw [h]
    rfl
  have e2 := natSum (t.fields.map fun p => p.2.plains)
  rw [List.map_map] at e2
  rw [e, e2]
  rfl
theorem text_eq {t : Tr} (h : t.isNil = false) : t.text = "{" ++ Str.join ", " t.pieces ++ "}" := by
  show (if t.isNil then (("." : Str)) else "{" ++ Str.join ", " t.pieces ++ "}") = _
  rw [h]
  rfl
theorem depth_int {t : Tr} (h : t.isNil = false) {m : Int} (h1 : m ∈ t.fields.map fun m => ((m.2.depth : Nat) : Int)) (h2 : ∀ y ∈ t.fields.map (fun m => ((m.2.depth : Nat) : Int)), y ≤ m) : (1 : Int) + m = ((t.depth : Nat) : Int) := by
  have e : t.depth = 1 + t.sdep := by
    show (if t.isNil then 0 else 1 + t.sdep) = _
    rw [h]
    rfl
  obtain ⟨p, hp, ep⟩ := Tr.sdep_at h
  obtain ⟨q, hq, rfl⟩ := List.mem_map.mp h1
  have h3 := h2 _ (List.mem_map.mpr ⟨p, hp, rfl⟩)
  have h4 := Tr.sdep_mem hq
  rw [e]
  have h5 : ((p.2.depth : Nat) : Int) ≤ ((q.2.depth : Nat) : Int) := h3
  show (1 : Int) + ((q.2.depth : Nat) : Int) = _
  omega
/-! ### a tree as it stands -/
def FsAt (H : Hp) : Tr → List V → Prop
  | .nil, ps => ps = []
  | .cons w t r, ps => ∃ p q qs, ps = .ref p :: qs ∧ H p = some (.tup [.str w, q]) ∧ (∃ a ps', q = .ref a ∧ H a = some (.tup ps') ∧ FsAt H t ps') ∧ FsAt H r qs
def TrAt (H : Hp) (t : Tr) (v : V) : Prop := ∃ a ps, v = .ref a ∧ H a = some (.tup ps) ∧ FsAt H t ps
theorem FsAt.same {H H' : Hp} (s : Same H H') : ∀ {t : Tr} {ps : List V}, FsAt H t ps → FsAt H' t ps
  | .nil, _, h => h
  | .cons w t r, _, ⟨p, q, qs, e, h1, ⟨a, ps', e2, h2, h3⟩, h4⟩ => ⟨p, q, qs, e, s _ _ h1, ⟨a, ps', e2, s _ _ h2, FsAt.same s h3⟩, FsAt.same s h4⟩
/-- a tree stands while tuples stand -/
theorem FsAt.tups {H H' : Hp} (s : ∀ c xs, H c = some (.tup xs) → H' c = some (.tup xs)) : ∀ {t : Tr} {ps : List V}, FsAt H t ps → FsAt H' t ps
  | .nil, _, h => h
  | .cons w t r, _, ⟨p, q, qs, e, h1, ⟨a, ps', e2, h2, h3⟩, h4⟩ => ⟨p, q, qs, e, s _ _ h1, ⟨a, ps', e2, s _ _ h2, FsAt.tups s h3⟩, FsAt.tups s h4⟩
theorem TrAt.tups {H H' : Hp} (s : ∀ c xs, H c = some (.tup xs) → H' c = some (.tup xs)) {t : Tr} {v : V} (h : TrAt H t v) : TrAt H' t v := by
  obtain ⟨a, ps, e, h1, h2⟩ := h
  exact ⟨a, ps, e, s _ _ h1, h2.tups s⟩
theorem TrAt.same {H H' : Hp} (s : Same H H') {t : Tr} {v : V} (h : TrAt H t v) : TrAt H' t v := by
  obtain ⟨a, ps, e, h1, h2⟩ := h
  exact ⟨a, ps, e, s _ _ h1, h2.same s⟩
theorem FsAt.len {H : Hp} : ∀ {t : Tr} {ps : List V}, FsAt H t ps → ps.length = t.fields.length
  | .nil, _, h => by rw [show _ = [] from h]; rfl
  | .cons w t r, _, ⟨p, q, qs, e, _, _, h4⟩ => by
    rw [e, List.length_cons, FsAt.len h4]
    rfl
theorem FsAt.get {H : Hp} : ∀ {t : Tr} {ps : List V} {i : Nat} {m : Str × Tr}, FsAt H t ps → t.fields[i]? = some m → ∃ p q, ps[i]? = some (.ref p) ∧ H p = some (.tup [.str m.1, q]) ∧ TrAt H m.2 q
  | .nil, _, _, _, _, e => by cases e
  | .cons w t r, _, 0, m, ⟨p, q, qs, e, h1, h2, _⟩, em => by
    have e2 : (w, t) = m := Option.some.inj em
    subst e2 e
    exact ⟨p, q, rfl, h1, h2⟩
  | .cons w t r, _, i + 1, m, ⟨p, q, qs, e, _, _, h4⟩, em => by
    obtain ⟨p', q', g1, g2, g3⟩ := FsAt.get (i := i) (m := m) h4 em
    subst e
    exact ⟨p', q', g1, g2, g3⟩
theorem FsAt.snoc {H : Hp} : ∀ {l : List (Str × Tr)} {ps : List V} {p : Addr} {q : V} {w : Str} {t : Tr}, FsAt H (.ofFields l) ps → H p = some (.tup [.str w, q]) → TrAt H t q → FsAt H (.ofFields (l ++ [(w, t)])) (ps ++ [.ref p])
  | [], ps, p, q, w, t, h, h1, h2 => by
    rw [show ps = [] from h]
    exact ⟨p, q, [], rfl, h1, h2, rfl⟩
  | (w0, t0) :: l, _, p, q, w, t, ⟨p0, q0, qs, e, g1, g2, g3⟩, h1, h2 => by
    rw [e]
    exact ⟨p0, q0, qs ++ [.ref p], rfl, g1, g2, FsAt.snoc g3 h1 h2⟩
theorem FsAt.nil_iff {H : Hp} {t : Tr} {ps : List V} (h : FsAt H t ps) : ps.isEmpty = t.isNil := by
  cases t with
  | nil => rw [show ps = [] from h]; rfl
  | cons w t r =>
    obtain ⟨p, q, qs, e, _⟩ := h
    rw [e]; rfl
/-- a def of a tree of a depth below d: its value -/
def sp_tree (d : Nat) (val : Tr → V) : Sp := fun vs H Q _ => ∃ t v, vs = [v] ∧ TrAt H t v ∧ t.depth < d ∧ t.size ≤ 1000 ∧ t.short ∧ ∀ H', Same H H' → Q (val t) H'
theorem sp_tree.len1 {d : Nat} {val : Tr → V} {vs : List V} {H : Hp} {Q : VK} {E : XK} (h : sp_tree d val vs H Q E) : vs.length = 1 := by
  obtain ⟨t, v, rfl, _⟩ := h
  rfl
theorem no_tree {P : Program} {w : World} {K : PySem.W.Frag} {mg : Str → Option Value} {base : Heap} {f : Addr} {fd : FuncData} {x : Str} {val : Tr → V} : FnOk P w K mg base CX0 0 f fd [x] (sp_tree 0 val) :=
  ⟨fun vs H Q E h => h.len1, fun A outer s H args us vs Q E _ _ _ _ h => by
    obtain ⟨t, v, _, _, hd, _⟩ := h
    exact absurd hd (Nat.not_lt_zero _)⟩
/-! ### == with an empty tuple -/
section
variable {X : Cx}
def rEqNil (K : PySem.W.Frag) (f : Bool → Bool) : R2 := fun x y H Q => ∃ a b xs, x = .ref a ∧ y = .ref b ∧ SqT K H a xs ∧ SqT K H b [] ∧ Q (.bl (f xs.isEmpty)) H
theorem op_eq_nilK (K : PySem.W.Frag) (hu : X.A.units < cLine) (e : X.K = K := by rfl) : OpR X (compareOp .Eq) (rEqNil K fun b => b) := by
  subst e
  intro pins s σ H x y v u Q I rx ry h
  obtain ⟨a, b, xs, rfl, rfl, h1, h2, q⟩ := h
  cases rx
  cases ry
  obtain ⟨its, r, p1, _⟩ := I.tuple h1
  obtain ⟨its2, r2, p2, _⟩ := I.tuple h2
  cases r2
  refine PySem.SeqAt.eq_tupleAt (e := fun _ => true) p1 p2 hu (fun j h1 h2 => absurd h2 (by simp)) ?_
  have e : ((List.range (min its.toArray.size ([] : List Value).toArray.size)).all (fun _ => true) && its.toArray.size == ([] : List Value).toArray.size) = xs.isEmpty := by
    have hl := r.length
    cases xs with
    | nil => cases r; rfl
    | cons x xs => cases r; simp
  rw [e]
  exact ⟨.bl xs.isEmpty, H, I, rfl, q⟩
theorem pg_tupK (K : PySem.W.Frag) {es : List Expr} {k : Nat} {t : TGs} {n : Nat} {pos : Pos} (hc : X.calm = true) (h : PGs X es t) (hn : (assignEach es X.env).length = n := by rfl) (hst : (assignEach es X.env).findIdx? (·.1) = none := by rfl) (e : X.K = K := by rfl) : PG X (.Tuple es k pos) (gTup K n t) := by
  subst e
  exact pg_tup hc h hn hst
end
end Ub

namespace Lx
open PySem PySem.Spec PyProof.Rows L2 Ub
def topS (i : Nat) : Stmt := PySem.Challenge.pw_unseenwrites_k16_errors_made.main.body.getD i (.Pass ⟨0, 0, 0, 0⟩)
abbrev s_BadShape___init__ : Stmt := inClass (topS 2) 0
abbrev s_BadPath___init__ : Stmt := inClass (topS 3) 0
abbrev s_BadValues___init__ : Stmt := inClass (topS 4) 0
abbrev s_BadValue___init__ : Stmt := inClass (topS 5) 0
abbrev s_BadParameters___init__ : Stmt := inClass (topS 6) 0
abbrev s_BadRow___init__ : Stmt := inClass (topS 7) 0
abbrev s_BadLine___init__ : Stmt := inClass (topS 8) 0
abbrev s_BadName___init__ : Stmt := inClass (topS 9) 0
abbrev s_NoUpdate___init__ : Stmt := inClass (topS 10) 0
abbrev s_BadUpdate___init__ : Stmt := inClass (topS 11) 0
abbrev s_TooMany___init__ : Stmt := inClass (topS 12) 0
abbrev s_BadMark___init__ : Stmt := inClass (topS 13) 0
abbrev s_BadChoice___init__ : Stmt := inClass (topS 14) 0
abbrev s_BadDocument___init__ : Stmt := inClass (topS 15) 0
abbrev s_BadKind___init__ : Stmt := inClass (topS 16) 0
abbrev s_BadWhen___init__ : Stmt := inClass (topS 17) 0
abbrev s_BadGoal___init__ : Stmt := inClass (topS 18) 0
abbrev s_BadDeed___init__ : Stmt := inClass (topS 19) 0
abbrev s_BadWorld___init__ : Stmt := inClass (topS 20) 0
abbrev s_BadLabel___init__ : Stmt := inClass (topS 21) 0
abbrev s_UnlikeFaces___init__ : Stmt := inClass (topS 22) 0
abbrev s_law_start : Stmt := topS 24
abbrev s_law_draw : Stmt := topS 25
abbrev s_law_of : Stmt := topS 26
abbrev s_law_odd : Stmt := topS 27
abbrev s_law_number : Stmt := topS 28
abbrev s_law_first : Stmt := topS 29
abbrev s_law_others : Stmt := topS 30
abbrev s_law_kinds : Stmt := topS 31
abbrev s_law_caught : Stmt := topS 32
abbrev s_law : Stmt := topS 33
def dd (at_ : Str × Option Str) (x q : Str) (st : Stmt) (dfl : List He.Dv) : He.DefD := ⟨at_, x, q, defArgs st, defBody st, defScope st, dfl, []⟩
def fn : List He.DefD := [dd ("BadShape", some "__init__") "__init__" "BadShape.__init__" s_BadShape___init__ [],
  dd ("BadPath", some "__init__") "__init__" "BadPath.__init__" s_BadPath___init__ [],
  dd ("BadValues", some "__init__") "__init__" "BadValues.__init__" s_BadValues___init__ [],
  dd ("BadValue", some "__init__") "__init__" "BadValue.__init__" s_BadValue___init__ [],
  dd ("BadParameters", some "__init__") "__init__" "BadParameters.__init__" s_BadParameters___init__ [],
  dd ("BadRow", some "__init__") "__init__" "BadRow.__init__" s_BadRow___init__ [],
  dd ("BadLine", some "__init__") "__init__" "BadLine.__init__" s_BadLine___init__ [],
  dd ("BadName", some "__init__") "__init__" "BadName.__init__" s_BadName___init__ [],
  dd ("NoUpdate", some "__init__") "__init__" "NoUpdate.__init__" s_NoUpdate___init__ [],
  dd ("BadUpdate", some "__init__") "__init__" "BadUpdate.__init__" s_BadUpdate___init__ [],
  dd ("TooMany", some "__init__") "__init__" "TooMany.__init__" s_TooMany___init__ [],
  dd ("BadMark", some "__init__") "__init__" "BadMark.__init__" s_BadMark___init__ [],
  dd ("BadChoice", some "__init__") "__init__" "BadChoice.__init__" s_BadChoice___init__ [],
  dd ("BadDocument", some "__init__") "__init__" "BadDocument.__init__" s_BadDocument___init__ [],
  dd ("BadKind", some "__init__") "__init__" "BadKind.__init__" s_BadKind___init__ [],
  dd ("BadWhen", some "__init__") "__init__" "BadWhen.__init__" s_BadWhen___init__ [],
  dd ("BadGoal", some "__init__") "__init__" "BadGoal.__init__" s_BadGoal___init__ [],
  dd ("BadDeed", some "__init__") "__init__" "BadDeed.__init__" s_BadDeed___init__ [],
  dd ("BadWorld", some "__init__") "__init__" "BadWorld.__init__" s_BadWorld___init__ [],
  dd ("BadLabel", some "__init__") "__init__" "BadLabel.__init__" s_BadLabel___init__ [],
  dd ("UnlikeFaces", some "__init__") "__init__" "UnlikeFaces.__init__" s_UnlikeFaces___init__ [],
  dd ("_law_start", none) "_law_start" "_law_start" s_law_start [],
  dd ("_law_draw", none) "_law_draw" "_law_draw" s_law_draw [],
  dd ("_law_of", none) "_law_of" "_law_of" s_law_of [],
  dd ("_law_odd", none) "_law_odd" "_law_odd" s_law_odd [],
  dd ("_law_number", none) "_law_number" "_law_number" s_law_number [],
  dd ("_law_first", none) "_law_first" "_law_first" s_law_first [],
  dd ("_law_others", none) "_law_others" "_law_others" s_law_others [],
  dd ("_law_kinds", none) "_law_kinds" "_law_kinds" s_law_kinds [],
  dd ("_law_caught", none) "_law_caught" "_law_caught" s_law_caught [],
  dd ("law", none) "law" "law" s_law []]
def fa : List He.Fa := [.glo "UnseenwritesError", .glo "BadShape", .glo "BadPath", .glo "BadValues", .glo "BadValue", .glo "BadParameters", .glo "BadRow", .glo "BadLine", .glo "BadName", .glo "NoUpdate", .glo "BadUpdate", .glo "TooMany", .glo "BadMark", .glo "BadChoice", .glo "BadDocument", .glo "BadKind", .glo "BadWhen", .glo "BadGoal", .glo "BadDeed", .glo "BadWorld", .glo "BadLabel", .glo "UnlikeFaces", .glo "_law_start", .glo "_law_draw", .glo "_law_of", .glo "_law_odd", .glo "_law_number", .glo "_law_first", .glo "_law_others", .glo "_law_kinds", .glo "_law_caught", .glo "law", .free "ValueError", .free "abs", .free "enumerate", .free "int", .free "isinstance", .free "len", .free "range", .free "repr", .exm "BadGoal" "UnseenwritesError" true]
def ex (K : PySem.W.Frag) : Bool := (Ue.kitTB K "UnseenwritesError" ["BadShape", "BadPath", "BadValues", "BadValue", "BadParameters", "BadRow", "BadLine", "BadName", "NoUpdate", "BadUpdate", "TooMany", "BadMark", "BadChoice", "BadDocument", "BadKind", "BadWhen", "BadGoal", "BadDeed", "BadWorld", "BadLabel", "UnlikeFaces"]) && (decide (PySem.W.exmOne K (.ref (He.ga K "BadGoal")) (.ref (He.ga K "UnseenwritesError")) = some true)) && (Ue.exB K (He.ga K "BadShape") (He.fAd K ("BadShape", some "__init__")) "text") && (Ue.exB K (He.ga K "BadPath") (He.fAd K ("BadPath", some "__init__")) "path") && (Ue.exB K (He.ga K "BadValues") (He.fAd K ("BadValues", some "__init__")) "given") && (Ue.exB K (He.ga K "BadValue") (He.fAd K ("BadValue", some "__init__")) "value") && (Ue.exB K (He.ga K "BadParameters") (He.fAd K ("BadParameters", some "__init__")) "parameters") && (Ue.exB K (He.ga K "BadRow") (He.fAd K ("BadRow", some "__init__")) "at") && (Ue.exB K (He.ga K "BadLine") (He.fAd K ("BadLine", some "__init__")) "at") && (Ue.exB K (He.ga K "BadName") (He.fAd K ("BadName", some "__init__")) "name") && (Ue.exB K (He.ga K "NoUpdate") (He.fAd K ("NoUpdate", some "__init__")) "name") && (Ue.exB K (He.ga K "BadUpdate") (He.fAd K ("BadUpdate", some "__init__")) "name") && (Ue.exB K (He.ga K "TooMany") (He.fAd K ("TooMany", some "__init__")) "what") && (Ue.exB K (He.ga K "BadMark") (He.fAd K ("BadMark", some "__init__")) "mark") && (Ue.exB K (He.ga K "BadChoice") (He.fAd K ("BadChoice", some "__init__")) "choice") && (Ue.exB K (He.ga K "BadDocument") (He.fAd K ("BadDocument", some "__init__")) "document") && (Ue.exB K (He.ga K "BadKind") (He.fAd K ("BadKind", some "__init__")) "kind") && (Ue.exB K (He.ga K "BadWhen") (He.fAd K ("BadWhen", some "__init__")) "when") && (Ue.exB K (He.ga K "BadGoal") (He.fAd K ("BadGoal", some "__init__")) "goal") && (Ue.exB K (He.ga K "BadDeed") (He.fAd K ("BadDeed", some "__init__")) "deed") && (Ue.exB K (He.ga K "BadWorld") (He.fAd K ("BadWorld", some "__init__")) "form") && (Ue.exB K (He.ga K "BadLabel") (He.fAd K ("BadLabel", some "__init__")) "label") && (Ue.exB K (He.ga K "UnlikeFaces") (He.fAd K ("UnlikeFaces", some "__init__")) "name")
abbrev R : PySem.W.OpenRow := PySem.W.OpenLaw.row PySem.Challenge.rw_unseenwrites_k16_errors_made
abbrev hk : PySem.W.Hook := He.hookX 5 fa fn [] [] ex
def ob (s : PySem.W.SharedT) : He.AlX := He.obsX 5 fa fn [] [] ex (HandSHeadRun.getT s)
theorem ob_eq (s : PySem.W.SharedT) : ob s = hk.obs s.abs := He.obsX_eq (HandSHeadRun.getT_eq s)
abbrev loose0 : List Str := ["__name__", "UnseenwritesError", "BadShape", "BadPath", "BadValues", "BadValue", "BadParameters", "BadRow", "BadLine", "BadName", "NoUpdate", "BadUpdate", "TooMany", "BadMark", "BadChoice", "BadDocument", "BadKind", "BadWhen", "BadGoal", "BadDeed", "BadWorld", "BadLabel", "UnlikeFaces", "_law_start", "_law_draw", "_law_of", "_law_odd", "_law_number", "_law_first", "_law_others"]
abbrev loose1 : List Str := ["_law_kinds", "_law_caught"]
abbrev loose : List Str := loose0 ++ loose1
theorem run (w : World) : HandSHeadRun.RunEq R (PySem.W.view R.prog [33]) hk ob 12000 loose w := by
  intro os
  kernel_rfl
/-! ### what the top has left -/
structure Tx (K : PySem.W.Frag) (mg : Str → Option Value) : Prop where
  ValueError : mg "ValueError" = none
  abs : mg "abs" = none
  enumerate : mg "enumerate" = none
  int : mg "int" = none
  isinstance : mg "isinstance" = none
  len : mg "len" = none
  range : mg "range" = none
  repr : mg "repr" = none
  g_UnseenwritesError : mg "UnseenwritesError" = some (.ref (He.ga K "UnseenwritesError"))
  g_BadShape : mg "BadShape" = some (.ref (He.ga K "BadShape"))
  g_BadPath : mg "BadPath" = some (.ref (He.ga K "BadPath"))
  g_BadValues : mg "BadValues" = some (.ref (He.ga K "BadValues"))
  g_BadValue : mg "BadValue" = some (.ref (He.ga K "BadValue"))
  g_BadParameters : mg "BadParameters" = some (.ref (He.ga K "BadParameters"))
  g_BadRow : mg "BadRow" = some (.ref (He.ga K "BadRow"))
  g_BadLine : mg "BadLine" = some (.ref (He.ga K "BadLine"))
  g_BadName : mg "BadName" = some (.ref (He.ga K "BadName"))
  g_NoUpdate : mg "NoUpdate" = some (.ref (He.ga K "NoUpdate"))
  g_BadUpdate : mg "BadUpdate" = some (.ref (He.ga K "BadUpdate"))
  g_TooMany : mg "TooMany" = some (.ref (He.ga K "TooMany"))
  g_BadMark : mg "BadMark" = some (.ref (He.ga K "BadMark"))
  g_BadChoice : mg "BadChoice" = some (.ref (He.ga K "BadChoice"))
  g_BadDocument : mg "BadDocument" = some (.ref (He.ga K "BadDocument"))
  g_BadKind : mg "BadKind" = some (.ref (He.ga K "BadKind"))
  g_BadWhen : mg "BadWhen" = some (.ref (He.ga K "BadWhen"))
  g_BadGoal : mg "BadGoal" = some (.ref (He.ga K "BadGoal"))
  g_BadDeed : mg "BadDeed" = some (.ref (He.ga K "BadDeed"))
  g_BadWorld : mg "BadWorld" = some (.ref (He.ga K "BadWorld"))
  g_BadLabel : mg "BadLabel" = some (.ref (He.ga K "BadLabel"))
  g_UnlikeFaces : mg "UnlikeFaces" = some (.ref (He.ga K "UnlikeFaces"))
  g__law_start : mg "_law_start" = some (.ref (He.ga K "_law_start"))
  g__law_draw : mg "_law_draw" = some (.ref (He.ga K "_law_draw"))
  g__law_of : mg "_law_of" = some (.ref (He.ga K "_law_of"))
  g__law_odd : mg "_law_odd" = some (.ref (He.ga K "_law_odd"))
  g__law_number : mg "_law_number" = some (.ref (He.ga K "_law_number"))
  g__law_first : mg "_law_first" = some (.ref (He.ga K "_law_first"))
  g__law_others : mg "_law_others" = some (.ref (He.ga K "_law_others"))
  g__law_kinds : mg "_law_kinds" = some (.ref (He.ga K "_law_kinds"))
  g__law_caught : mg "_law_caught" = some (.ref (He.ga K "_law_caught"))
  g_law : mg "law" = some (.ref (He.ga K "law"))
  kt : Ue.KitT K "UnseenwritesError" ["BadShape", "BadPath", "BadValues", "BadValue", "BadParameters", "BadRow", "BadLine", "BadName", "NoUpdate", "BadUpdate", "TooMany", "BadMark", "BadChoice", "BadDocument", "BadKind", "BadWhen", "BadGoal", "BadDeed", "BadWorld", "BadLabel", "UnlikeFaces"]
  em : PySem.W.exmOne K (.ref (He.ga K "BadGoal")) (.ref (He.ga K "UnseenwritesError")) = some true
  x_BadShape : Ue.ExK K (He.ga K "BadShape") (He.fAd K ("BadShape", some "__init__")) "text"
  x_BadPath : Ue.ExK K (He.ga K "BadPath") (He.fAd K ("BadPath", some "__init__")) "path"
  x_BadValues : Ue.ExK K (He.ga K "BadValues") (He.fAd K ("BadValues", some "__init__")) "given"
  x_BadValue : Ue.ExK K (He.ga K "BadValue") (He.fAd K ("BadValue", some "__init__")) "value"
  x_BadParameters : Ue.ExK K (He.ga K "BadParameters") (He.fAd K ("BadParameters", some "__init__")) "parameters"
  x_BadRow : Ue.ExK K (He.ga K "BadRow") (He.fAd K ("BadRow", some "__init__")) "at"
  x_BadLine : Ue.ExK K (He.ga K "BadLine") (He.fAd K ("BadLine", some "__init__")) "at"
  x_BadName : Ue.ExK K (He.ga K "BadName") (He.fAd K ("BadName", some "__init__")) "name"
  x_NoUpdate : Ue.ExK K (He.ga K "NoUpdate") (He.fAd K ("NoUpdate", some "__init__")) "name"
  x_BadUpdate : Ue.ExK K (He.ga K "BadUpdate") (He.fAd K ("BadUpdate", some "__init__")) "name"
  x_TooMany : Ue.ExK K (He.ga K "TooMany") (He.fAd K ("TooMany", some "__init__")) "what"
  x_BadMark : Ue.ExK K (He.ga K "BadMark") (He.fAd K ("BadMark", some "__init__")) "mark"
  x_BadChoice : Ue.ExK K (He.ga K "BadChoice") (He.fAd K ("BadChoice", some "__init__")) "choice"
  x_BadDocument : Ue.ExK K (He.ga K "BadDocument") (He.fAd K ("BadDocument", some "__init__")) "document"
  x_BadKind : Ue.ExK K (He.ga K "BadKind") (He.fAd K ("BadKind", some "__init__")) "kind"
  x_BadWhen : Ue.ExK K (He.ga K "BadWhen") (He.fAd K ("BadWhen", some "__init__")) "when"
  x_BadGoal : Ue.ExK K (He.ga K "BadGoal") (He.fAd K ("BadGoal", some "__init__")) "goal"
  x_BadDeed : Ue.ExK K (He.ga K "BadDeed") (He.fAd K ("BadDeed", some "__init__")) "deed"
  x_BadWorld : Ue.ExK K (He.ga K "BadWorld") (He.fAd K ("BadWorld", some "__init__")) "form"
  x_BadLabel : Ue.ExK K (He.ga K "BadLabel") (He.fAd K ("BadLabel", some "__init__")) "label"
  x_UnlikeFaces : Ue.ExK K (He.ga K "UnlikeFaces") (He.fAd K ("UnlikeFaces", some "__init__")) "name"
theorem tx_of {K : PySem.W.Frag} {w : World} {h : Heap} {mg : Str → Option Value} (X : K.In h) (G : h.Ns mainGlobals mg) (c : He.SaysX fa fn [] [] ex w h K) : Tx K mg where
  ValueError := He.free_ok X G (c.t.d.fact 32 (f := .free "ValueError") rfl)
  abs := He.free_ok X G (c.t.d.fact 33 (f := .free "abs") rfl)
  enumerate := He.free_ok X G (c.t.d.fact 34 (f := .free "enumerate") rfl)
  int := He.free_ok X G (c.t.d.fact 35 (f := .free "int") rfl)
  isinstance := He.free_ok X G (c.t.d.fact 36 (f := .free "isinstance") rfl)
  len := He.free_ok X G (c.t.d.fact 37 (f := .free "len") rfl)
  range := He.free_ok X G (c.t.d.fact 38 (f := .free "range") rfl)
  repr := He.free_ok X G (c.t.d.fact 39 (f := .free "repr") rfl)
  kt := Ue.kitTB_ok (He.ba (He.ba (He.ba (He.ba (He.ba (He.ba (He.ba (He.ba (He.ba (He.ba (He.ba (He.ba (He.ba (He.ba (He.ba (He.ba (He.ba (He.ba (He.ba (He.ba (He.ba (He.ba c.more).1).1).1).1).1).1).1).1).1).1).1).1).1).1).1).1).1).1).1).1).1).1
  em := of_decide_eq_true (He.ba (He.ba (He.ba (He.ba (He.ba (He.ba (He.ba (He.ba (He.ba (He.ba (He.ba (He.ba (He.ba (He.ba (He.ba (He.ba (He.ba (He.ba (He.ba (He.ba (He.ba (He.ba c.more).1).1).1).1).1).1).1).1).1).1).1).1).1).1).1).1).1).1).1).1).1).2
  x_BadShape := Ue.exB_ok (He.ba (He.ba (He.ba (He.ba (He.ba (He.ba (He.ba (He.ba (He.ba (He.ba (He.ba (He.ba (He.ba (He.ba (He.ba (He.ba (He.ba (He.ba (He.ba (He.ba (He.ba c.more).1).1).1).1).1).1).1).1).1).1).1).1).1).1).1).1).1).1).1).1).2
  x_BadPath := Ue.exB_ok (He.ba (He.ba (He.ba (He.ba (He.ba (He.ba (He.ba (He.ba (He.ba (He.ba (He.ba (He.ba (He.ba (He.ba (He.ba (He.ba (He.ba (He.ba (He.ba (He.ba c.more).1).1).1).1).1).1).1).1).1).1).1).1).1).1).1).1).1).1).1).2
  x_BadValues := Ue.exB_ok (He.ba (He.ba (He.ba (He.ba (He.ba (He.ba (He.ba (He.ba (He.ba (He.ba (He.ba (He.ba (He.ba (He.ba (He.ba (He.ba (He.ba (He.ba (He.ba c.more).1).1).1).1).1).1).1).1).1).1).1).1).1).1).1).1).1).1).2
  x_BadValue := Ue.exB_ok (He.ba (He.ba (He.ba (He.ba (He.ba (He.ba (He.ba (He.ba (He.ba (He.ba (He.ba (He.ba (He.ba (He.ba (He.ba (He.ba (He.ba (He.ba c.more).1).1).1).1).1).1).1).1).1).1).1).1).1).1).1).1).1).2
  x_BadParameters := Ue.exB_ok (He.ba (He.ba (He.ba (He.ba (He.ba (He.ba (He.ba (He.ba (He.ba (He.ba (He.ba (He.ba (He.ba (He.ba (He.ba (He.ba (He.ba c.more).1).1).1).1).1).1).1).1).1).1).1).1).1).1).1).1).2
  x_BadRow := Ue.exB_ok (He.ba (He.ba (He.ba (He.ba (He.ba (He.ba (He.ba (He.ba (He.ba (He.ba (He.ba (He.ba (He.ba (He.ba (He.ba (He.ba c.more).1).1).1).1).1).1).1).1).1).1).1).1).1).1).1).2
  x_BadLine := Ue.exB_ok (He.ba (He.ba (He.ba (He.ba (He.ba (He.ba (He.ba (He.ba (He.ba (He.ba (He.ba (He.ba (He.ba (He.ba (He.ba c.more).1).1).1).1).1).1).1).1).1).1).1).1).1).1).2
  x_BadName := Ue.exB_ok (He.ba (He.ba (He.ba (He.ba (He.ba (He.ba (He.ba (He.ba (He.ba (He.ba (He.ba (He.ba (He.ba (He.ba c.more).1).1).1).1).1).1).1).1).1).1).1).1).1).2
  x_NoUpdate := Ue.exB_ok (He.ba (He.ba (He.ba (He.ba (He.ba (He.ba (He.ba (He.ba (He.ba (He.ba (He.ba (He.ba (He.ba c.more).1).1).1).1).1).1).1).1).1).1).1).1).2
  x_BadUpdate := Ue.exB_ok (He.ba (He.ba (He.ba (He.ba (He.ba (He.ba (He.ba (He.ba (He.ba (He.ba (He.ba (He.ba c.more).1).1).1).1).1).1).1).1).1).1).1).2
  x_TooMany := Ue.exB_ok (He.ba (He.ba (He.ba (He.ba (He.ba (He.ba (He.ba (He.ba (He.ba (He.ba (He.ba c.more).1).1).1).1).1).1).1).1).1).1).2
  x_BadMark := Ue.exB_ok (He.ba (He.ba (He.ba (He.ba (He.ba (He.ba (He.ba (He.ba (He.ba (He.ba c.more).1).1).1).1).1).1).1).1).1).2
  x_BadChoice := Ue.exB_ok (He.ba (He.ba (He.ba (He.ba (He.ba (He.ba (He.ba (He.ba (He.ba c.more).1).1).1).1).1).1).1).1).2
  x_BadDocument := Ue.exB_ok (He.ba (He.ba (He.ba (He.ba (He.ba (He.ba (He.ba (He.ba c.more).1).1).1).1).1).1).1).2
  x_BadKind := Ue.exB_ok (He.ba (He.ba (He.ba (He.ba (He.ba (He.ba (He.ba c.more).1).1).1).1).1).1).2
  x_BadWhen := Ue.exB_ok (He.ba (He.ba (He.ba (He.ba (He.ba (He.ba c.more).1).1).1).1).1).2
  x_BadGoal := Ue.exB_ok (He.ba (He.ba (He.ba (He.ba (He.ba c.more).1).1).1).1).2
  x_BadDeed := Ue.exB_ok (He.ba (He.ba (He.ba (He.ba c.more).1).1).1).2
  x_BadWorld := Ue.exB_ok (He.ba (He.ba (He.ba c.more).1).1).2
  x_BadLabel := Ue.exB_ok (He.ba (He.ba c.more).1).2
  x_UnlikeFaces := Ue.exB_ok (He.ba c.more).2
  g_UnseenwritesError := He.glo_ok X G (c.t.d.fact 0 (f := .glo "UnseenwritesError") rfl)
  g_BadShape := He.glo_ok X G (c.t.d.fact 1 (f := .glo "BadShape") rfl)
  g_BadPath := He.glo_ok X G (c.t.d.fact 2 (f := .glo "BadPath") rfl)
  g_BadValues := He.glo_ok X G (c.t.d.fact 3 (f := .glo "BadValues") rfl)
  g_BadValue := He.glo_ok X G (c.t.d.fact 4 (f := .glo "BadValue") rfl)
  g_BadParameters := He.glo_ok X G (c.t.d.fact 5 (f := .glo "BadParameters") rfl)
  g_BadRow := He.glo_ok X G (c.t.d.fact 6 (f := .glo "BadRow") rfl)
  g_BadLine := He.glo_ok X G (c.t.d.fact 7 (f := .glo "BadLine") rfl)
  g_BadName := He.glo_ok X G (c.t.d.fact 8 (f := .glo "BadName") rfl)
  g_NoUpdate := He.glo_ok X G (c.t.d.fact 9 (f := .glo "NoUpdate") rfl)
  g_BadUpdate := He.glo_ok X G (c.t.d.fact 10 (f := .glo "BadUpdate") rfl)
  g_TooMany := He.glo_ok X G (c.t.d.fact 11 (f := .glo "TooMany") rfl)
  g_BadMark := He.glo_ok X G (c.t.d.fact 12 (f := .glo "BadMark") rfl)
  g_BadChoice := He.glo_ok X G (c.t.d.fact 13 (f := .glo "BadChoice") rfl)
  g_BadDocument := He.glo_ok X G (c.t.d.fact 14 (f := .glo "BadDocument") rfl)
  g_BadKind := He.glo_ok X G (c.t.d.fact 15 (f := .glo "BadKind") rfl)
  g_BadWhen := He.glo_ok X G (c.t.d.fact 16 (f := .glo "BadWhen") rfl)
  g_BadGoal := He.glo_ok X G (c.t.d.fact 17 (f := .glo "BadGoal") rfl)
  g_BadDeed := He.glo_ok X G (c.t.d.fact 18 (f := .glo "BadDeed") rfl)
  g_BadWorld := He.glo_ok X G (c.t.d.fact 19 (f := .glo "BadWorld") rfl)
  g_BadLabel := He.glo_ok X G (c.t.d.fact 20 (f := .glo "BadLabel") rfl)
  g_UnlikeFaces := He.glo_ok X G (c.t.d.fact 21 (f := .glo "UnlikeFaces") rfl)
  g__law_start := He.glo_ok X G (c.t.d.fact 22 (f := .glo "_law_start") rfl)
  g__law_draw := He.glo_ok X G (c.t.d.fact 23 (f := .glo "_law_draw") rfl)
  g__law_of := He.glo_ok X G (c.t.d.fact 24 (f := .glo "_law_of") rfl)
  g__law_odd := He.glo_ok X G (c.t.d.fact 25 (f := .glo "_law_odd") rfl)
  g__law_number := He.glo_ok X G (c.t.d.fact 26 (f := .glo "_law_number") rfl)
  g__law_first := He.glo_ok X G (c.t.d.fact 27 (f := .glo "_law_first") rfl)
  g__law_others := He.glo_ok X G (c.t.d.fact 28 (f := .glo "_law_others") rfl)
  g__law_kinds := He.glo_ok X G (c.t.d.fact 29 (f := .glo "_law_kinds") rfl)
  g__law_caught := He.glo_ok X G (c.t.d.fact 30 (f := .glo "_law_caught") rfl)
  g_law := He.glo_ok X G (c.t.d.fact 31 (f := .glo "law") rfl)
/-- a def of the top as it stands -/
abbrev Df (K : PySem.W.Frag) (at_ : Str × Option Str) (x q : Str) (st : Stmt) (dvs : List V) (fd : FuncData) : Prop := FunD K x q (defArgs st) (defBody st) (defScope st) dvs [] (He.fAd K at_) fd
theorem df_BadShape___init__ {K : PySem.W.Frag} {w : World} {h : Heap} (c : He.SaysX fa fn [] [] ex w h K) : ∃ fd, Df K ("BadShape", some "__init__") "__init__" "BadShape.__init__" s_BadShape___init__ [] fd := c.t.d.def_ 0 (d := dd ("BadShape", some "__init__") "__init__" "BadShape.__init__" s_BadShape___init__ []) rfl
theorem df_BadPath___init__ {K : PySem.W.Frag} {w : World} {h : Heap} (c : He.SaysX fa fn [] [] ex w h K) : ∃ fd, Df K ("BadPath", some "__init__") "__init__" "BadPath.__init__" s_BadPath___init__ [] fd := c.t.d.def_ 1 (d := dd ("BadPath", some "__init__") "__init__" "BadPath.__init__" s_BadPath___init__ []) rfl
theorem df_BadValues___init__ {K : PySem.W.Frag} {w : World} {h : Heap} (c : He.SaysX fa fn [] [] ex w h K) : ∃ fd, Df K ("BadValues", some "__init__") "__init__" "BadValues.__init__" s_BadValues___init__ [] fd := c.t.d.def_ 2 (d := dd ("BadValues", some "__init__") "__init__" "BadValues.__init__" s_BadValues___init__ []) rfl
theorem df_BadValue___init__ {K : PySem.W.Frag} {w : World} {h : Heap} (c : He.SaysX fa fn [] [] ex w h K) : ∃ fd, Df K ("BadValue", some "__init__") "__init__" "BadValue.__init__" s_BadValue___init__ [] fd := c.t.d.def_ 3 (d := dd ("BadValue", some "__init__") "__init__" "BadValue.__init__" s_BadValue___init__ []) rfl
theorem df_BadParameters___init__ {K : PySem.W.Frag} {w : World} {h : Heap} (c : He.SaysX fa fn [] [] ex w h K) : ∃ fd, Df K ("BadParameters", some "__init__") "__init__" "BadParameters.__init__" s_BadParameters___init__ [] fd := c.t.d.def_ 4 (d := dd ("BadParameters", some "__init__") "__init__" "BadParameters.__init__" s_BadParameters___init__ []) rfl
theorem df_BadRow___init__ {K : PySem.W.Frag} {w : World} {h : Heap} (c : He.SaysX fa fn [] [] ex w h K) : ∃ fd, Df K ("BadRow", some "__init__") "__init__" "BadRow.__init__" s_BadRow___init__ [] fd := c.t.d.def_ 5 (d := dd ("BadRow", some "__init__") "__init__" "BadRow.__init__" s_BadRow___init__ []) rfl
theorem df_BadLine___init__ {K : PySem.W.Frag} {w : World} {h : Heap} (c : He.SaysX fa fn [] [] ex w h K) : ∃ fd, Df K ("BadLine", some "__init__") "__init__" "BadLine.__init__" s_BadLine___init__ [] fd := c.t.d.def_ 6 (d := dd ("BadLine", some "__init__") "__init__" "BadLine.__init__" s_BadLine___init__ []) rfl
theorem df_BadName___init__ {K : PySem.W.Frag} {w : World} {h : Heap} (c : He.SaysX fa fn [] [] ex w h K) : ∃ fd, Df K ("BadName", some "__init__") "__init__" "BadName.__init__" s_BadName___init__ [] fd := c.t.d.def_ 7 (d := dd ("BadName", some "__init__") "__init__" "BadName.__init__" s_BadName___init__ []) rfl
theorem df_NoUpdate___init__ {K : PySem.W.Frag} {w : World} {h : Heap} (c : He.SaysX fa fn [] [] ex w h K) : ∃ fd, Df K ("NoUpdate", some "__init__") "__init__" "NoUpdate.__init__" s_NoUpdate___init__ [] fd := c.t.d.def_ 8 (d := dd ("NoUpdate", some "__init__") "__init__" "NoUpdate.__init__" s_NoUpdate___init__ []) rfl
theorem df_BadUpdate___init__ {K : PySem.W.Frag} {w : World} {h : Heap} (c : He.SaysX fa fn [] [] ex w h K) : ∃ fd, Df K ("BadUpdate", some "__init__") "__init__" "BadUpdate.__init__" s_BadUpdate___init__ [] fd := c.t.d.def_ 9 (d := dd ("BadUpdate", some "__init__") "__init__" "BadUpdate.__init__" s_BadUpdate___init__ []) rfl
theorem df_TooMany___init__ {K : PySem.W.Frag} {w : World} {h : Heap} (c : He.SaysX fa fn [] [] ex w h K) : ∃ fd, Df K ("TooMany", some "__init__") "__init__" "TooMany.__init__" s_TooMany___init__ [] fd := c.t.d.def_ 10 (d := dd ("TooMany", some "__init__") "__init__" "TooMany.__init__" s_TooMany___init__ []) rfl
theorem df_BadMark___init__ {K : PySem.W.Frag} {w : World} {h : Heap} (c : He.SaysX fa fn [] [] ex w h K) : ∃ fd, Df K ("BadMark", some "__init__") "__init__" "BadMark.__init__" s_BadMark___init__ [] fd := c.t.d.def_ 11 (d := dd ("BadMark", some "__init__") "__init__" "BadMark.__init__" s_BadMark___init__ []) rfl
theorem df_BadChoice___init__ {K : PySem.W.Frag} {w : World} {h : Heap} (c : He.SaysX fa fn [] [] ex w h K) : ∃ fd, Df K ("BadChoice", some "__init__") "__init__" "BadChoice.__init__" s_BadChoice___init__ [] fd := c.t.d.def_ 12 (d := dd ("BadChoice", some "__init__") "__init__" "BadChoice.__init__" s_BadChoice___init__ []) rfl
theorem df_BadDocument___init__ {K : PySem.W.Frag} {w : World} {h : Heap} (c : He.SaysX fa fn [] [] ex w h K) : ∃ fd, Df K ("BadDocument", some "__init__") "__init__" "BadDocument.__init__" s_BadDocument___init__ [] fd := c.t.d.def_ 13 (d := dd ("BadDocument", some "__init__") "__init__" "BadDocument.__init__" s_BadDocument___init__ []) rfl
theorem df_BadKind___init__ {K : PySem.W.Frag} {w : World} {h : Heap} (c : He.SaysX fa fn [] [] ex w h K) : ∃ fd, Df K ("BadKind", some "__init__") "__init__" "BadKind.__init__" s_BadKind___init__ [] fd := c.t.d.def_ 14 (d := dd ("BadKind", some "__init__") "__init__" "BadKind.__init__" s_BadKind___init__ []) rfl
theorem df_BadWhen___init__ {K : PySem.W.Frag} {w : World} {h : Heap} (c : He.SaysX fa fn [] [] ex w h K) : ∃ fd, Df K ("BadWhen", some "__init__") "__init__" "BadWhen.__init__" s_BadWhen___init__ [] fd := c.t.d.def_ 15 (d := dd ("BadWhen", some "__init__") "__init__" "BadWhen.__init__" s_BadWhen___init__ []) rfl
theorem df_BadGoal___init__ {K : PySem.W.Frag} {w : World} {h : Heap} (c : He.SaysX fa fn [] [] ex w h K) : ∃ fd, Df K ("BadGoal", some "__init__") "__init__" "BadGoal.__init__" s_BadGoal___init__ [] fd := c.t.d.def_ 16 (d := dd ("BadGoal", some "__init__") "__init__" "BadGoal.__init__" s_BadGoal___init__ []) rfl
theorem df_BadDeed___init__ {K : PySem.W.Frag} {w : World} {h : Heap} (c : He.SaysX fa fn [] [] ex w h K) : ∃ fd, Df K ("BadDeed", some "__init__") "__init__" "BadDeed.__init__" s_BadDeed___init__ [] fd := c.t.d.def_ 17 (d := dd ("BadDeed", some "__init__") "__init__" "BadDeed.__init__" s_BadDeed___init__ []) rfl
theorem df_BadWorld___init__ {K : PySem.W.Frag} {w : World} {h : Heap} (c : He.SaysX fa fn [] [] ex w h K) : ∃ fd, Df K ("BadWorld", some "__init__") "__init__" "BadWorld.__init__" s_BadWorld___init__ [] fd := c.t.d.def_ 18 (d := dd ("BadWorld", some "__init__") "__init__" "BadWorld.__init__" s_BadWorld___init__ []) rfl
theorem df_BadLabel___init__ {K : PySem.W.Frag} {w : World} {h : Heap} (c : He.SaysX fa fn [] [] ex w h K) : ∃ fd, Df K ("BadLabel", some "__init__") "__init__" "BadLabel.__init__" s_BadLabel___init__ [] fd := c.t.d.def_ 19 (d := dd ("BadLabel", some "__init__") "__init__" "BadLabel.__init__" s_BadLabel___init__ []) rfl
theorem df_UnlikeFaces___init__ {K : PySem.W.Frag} {w : World} {h : Heap} (c : He.SaysX fa fn [] [] ex w h K) : ∃ fd, Df K ("UnlikeFaces", some "__init__") "__init__" "UnlikeFaces.__init__" s_UnlikeFaces___init__ [] fd := c.t.d.def_ 20 (d := dd ("UnlikeFaces", some "__init__") "__init__" "UnlikeFaces.__init__" s_UnlikeFaces___init__ []) rfl
theorem df_law_start {K : PySem.W.Frag} {w : World} {h : Heap} (c : He.SaysX fa fn [] [] ex w h K) : ∃ fd, Df K ("_law_start", none) "_law_start" "_law_start" s_law_start [] fd := c.t.d.def_ 21 (d := dd ("_law_start", none) "_law_start" "_law_start" s_law_start []) rfl
theorem df_law_draw {K : PySem.W.Frag} {w : World} {h : Heap} (c : He.SaysX fa fn [] [] ex w h K) : ∃ fd, Df K ("_law_draw", none) "_law_draw" "_law_draw" s_law_draw [] fd := c.t.d.def_ 22 (d := dd ("_law_draw", none) "_law_draw" "_law_draw" s_law_draw []) rfl
theorem df_law_of {K : PySem.W.Frag} {w : World} {h : Heap} (c : He.SaysX fa fn [] [] ex w h K) : ∃ fd, Df K ("_law_of", none) "_law_of" "_law_of" s_law_of [] fd := c.t.d.def_ 23 (d := dd ("_law_of", none) "_law_of" "_law_of" s_law_of []) rfl
theorem df_law_odd {K : PySem.W.Frag} {w : World} {h : Heap} (c : He.SaysX fa fn [] [] ex w h K) : ∃ fd, Df K ("_law_odd", none) "_law_odd" "_law_odd" s_law_odd [] fd := c.t.d.def_ 24 (d := dd ("_law_odd", none) "_law_odd" "_law_odd" s_law_odd []) rfl
theorem df_law_number {K : PySem.W.Frag} {w : World} {h : Heap} (c : He.SaysX fa fn [] [] ex w h K) : ∃ fd, Df K ("_law_number", none) "_law_number" "_law_number" s_law_number [] fd := c.t.d.def_ 25 (d := dd ("_law_number", none) "_law_number" "_law_number" s_law_number []) rfl
theorem df_law_first {K : PySem.W.Frag} {w : World} {h : Heap} (c : He.SaysX fa fn [] [] ex w h K) : ∃ fd, Df K ("_law_first", none) "_law_first" "_law_first" s_law_first [] fd := c.t.d.def_ 26 (d := dd ("_law_first", none) "_law_first" "_law_first" s_law_first []) rfl
theorem df_law_others {K : PySem.W.Frag} {w : World} {h : Heap} (c : He.SaysX fa fn [] [] ex w h K) : ∃ fd, Df K ("_law_others", none) "_law_others" "_law_others" s_law_others [] fd := c.t.d.def_ 27 (d := dd ("_law_others", none) "_law_others" "_law_others" s_law_others []) rfl
theorem df_law_kinds {K : PySem.W.Frag} {w : World} {h : Heap} (c : He.SaysX fa fn [] [] ex w h K) : ∃ fd, Df K ("_law_kinds", none) "_law_kinds" "_law_kinds" s_law_kinds [] fd := c.t.d.def_ 28 (d := dd ("_law_kinds", none) "_law_kinds" "_law_kinds" s_law_kinds []) rfl
theorem df_law_caught {K : PySem.W.Frag} {w : World} {h : Heap} (c : He.SaysX fa fn [] [] ex w h K) : ∃ fd, Df K ("_law_caught", none) "_law_caught" "_law_caught" s_law_caught [] fd := c.t.d.def_ 29 (d := dd ("_law_caught", none) "_law_caught" "_law_caught" s_law_caught []) rfl
theorem df_law {K : PySem.W.Frag} {w : World} {h : Heap} (c : He.SaysX fa fn [] [] ex w h K) : ∃ fd, Df K ("law", none) "law" "law" s_law [] fd := c.t.d.def_ 30 (d := dd ("law", none) "law" "law" s_law []) rfl
end Lx

namespace Lx
open PySem PySem.Spec PyProof.Rows L2 Ub Ur
section
variable {P : Program} {w : World} {K : PySem.W.Frag} {mg : Str → Option Value} {base : Heap}
theorem sc_law_draw : FnScope ["_law_state", "_law_many", "_law_great", "_law_lesser", "_law_digit", "_law_own", "_law_mixed"] ["_law_state", "_law_many"] (defScope s_law_draw) := ⟨rfl, rfl, rfl, by decide +kernel, rfl, by decide +kernel, by decide +kernel⟩
theorem ok_law_draw {f : Addr} {fd : FuncData} {k : Nat} (F : FunD K "_law_draw" "_law_draw" (defArgs s_law_draw) (defBody s_law_draw) (defScope s_law_draw) [] [] f fd) (T : Tx K mg) : FnOk P w K mg base CX0 (k + 1) f fd ["_law_state", "_law_many"] sp_draw := by
  refine F.ok sc_law_draw (fun vs H Q E h => ?_) (fun cdv A outer s H vs Q E hr h => ?_)
  · obtain ⟨st, g, l, m, rfl, _⟩ := h
    rfl
  · obtain ⟨st, g, l, m, rfl, m0, m1, S, q⟩ := h
    have hu := hu_of hr
    refine ⟨_, PSs.nox (pss_cons (ps_augS (pv 0) pe_int (get_listK K) pe_int ip_add set_list)
      (pss_cons (ps_par (i := 2) (j := 3) (by rfl) sc_law_draw.nd rfl rfl (by decide) rfl rfl (pa_cons (pe_ix (ix_listK K) (pv 0) pe_int (fun _ _ => rfl)) (pa_cons (pe_ix (ix_listK K) (pv 0) pe_int (fun _ _ => rfl)) pa_nil)) (by rfl))
      (pss_cons (ps_while PassesOwn.never (PW.pt (pw_and (pt_truthK K (pv 2) (by intro _; rfl)) (pw_and1 (pt_cmpR op_eq (pe_ix (ix_listK K) (pv 2) pe_int (fun _ _ => rfl)) pe_int (nomark _)))))
        (pss_one (ps_expr (pe_bm PySem.F.plainAttrs_list PySem.F.slot_list_pop PySem.F.type_list_pop mt_popAt (pv 2) (pa_cons pe_int pa_nil)))))
      (pss_cons (ps_if (pt_truthK K (pv 2) (by intro _; rfl))
        (pss_cons (ps_set (i := 4) sc_law_draw.nd rfl (by first | exact Or.inl rfl | exact Or.inr rfl) (pe_op op_mod (pe_callTy call_int1 (by rfl) T.int (by decide +kernel) (pa_cons (pe_ix (ix_listK K) (pv 2) pe_int (fun _ _ => rfl)) pa_nil)) (pv 1)))
          (pss_cons (ps_asg (pe_op op_fdivW (pe_ix (ix_listK K) (pv 2) pe_int (fun _ _ => rfl)) (pv 1)) (pg_sub (pv 2) pe_int set_list))
          (pss_one (ps_ret (pv 4)))))
        pss_nil)
      (pss_cons (ps_set (i := 5) sc_law_draw.nd rfl (by first | exact Or.inl rfl | exact Or.inr rfl) (pe_ifExp (pt_truthK K (pv 3) (by intro _; rfl)) (pe_ix (ix_listK K) (pv 3) (pe_op op_mod (pe_callTy call_int1 (by rfl) T.int (by decide +kernel) (pa_cons (pe_ix (ix_listK K) (pv 0) pe_int (fun _ _ => rfl)) pa_nil)) (pe_callB (call_len_seqK K) (by rfl) T.len (by decide +kernel) (pa_cons (pv 3) pa_nil))) (fun _ _ => rfl)) pe_int))
      (pss_cons (ps_asg (pe_op op_mod (pe_callTy call_int1 (by rfl) T.int (by decide +kernel) (pa_cons (pe_op op_add (pe_op op_add (pe_op op_add (pe_op op_mul (pe_ix (ix_listK K) (pv 0) pe_int (fun _ _ => rfl)) pe_int) (pe_op op_mul (pv 5) pe_int)) (pe_op op_mul (pe_ix (ix_listK K) (pv 0) pe_int (fun _ _ => rfl)) pe_int)) pe_int) pa_nil)) pe_int) (pg_sub (pv 0) pe_int set_list))
      (pss_cons (ps_set (i := 6) sc_law_draw.nd rfl (by first | exact Or.inl rfl | exact Or.inr rfl) (pe_op op_mod (pe_callTy call_int1 (by rfl) T.int (by decide +kernel) (pa_cons (pe_op op_add (pe_op op_mul (pe_ix (ix_listK K) (pv 0) pe_int (fun _ _ => rfl)) (pe_ix (ix_listK K) (pv 0) pe_int (fun _ _ => rfl))) (pe_op op_mul (pe_ix (ix_listK K) (pv 0) pe_int (fun _ _ => rfl)) pe_int)) pa_nil)) pe_int))
      (pss_one (ps_ret (pe_op op_mod (pe_callTy call_int1 (by rfl) T.int (by decide +kernel) (pa_cons (pe_op op_fdivW (pv 6) pe_int) pa_nil)) (pv 1))))))))))), ?_⟩
    obtain ⟨⟨gs, ls, c, a, h1, h2, h3, lg, ll, a0, a1⟩, n1, n2, n3⟩ := S
    -- state[2] += 1
    refine ⟨.ref st, rfl, st, _, 2, .int c, rfl, rfl, .inl (.inl h1), by decide, rfl, c, 1, rfl, rfl, st, _, 2, 2, rfl, rfl, h1, rfl, ?_⟩
    have e1 : (upd H st (.lst [.ref g, .ref l, .int (c + 1), .int a])) st = some (.lst [.ref g, .ref l, .int (c + 1), .int a]) := upd_same
    -- great, lesser = state[0], state[1]
    refine ⟨.ref st, rfl, st, _, 0, .ref g, rfl, rfl, .inl (.inl e1), rfl, .ref st, rfl, st, _, 1, .ref l, rfl, rfl, .inl (.inl e1), rfl, .ref g, .ref l, rfl, ?_⟩
    -- while great and great[0] == 0
    refine ⟨fun n σ H1 => ∃ gs', n = gs'.length ∧ σ = [some (.ref st), some (.int m), some (.ref g), some (.ref l), none, none, none] ∧ DrI H H1 st g l gs' ls (c + 1) a, ⟨_, gs, rfl, rfl, e1, ?_, ?_, lg, ?_⟩, ?_⟩
    · rw [upd_ne n1.symm]; exact h2
    · rw [upd_ne n2.symm]; exact h3
    · intro b o e b1 _ _; rw [upd_ne b1]; exact e
    rintro n σ H1 ⟨gs', rfl, rfl, I⟩
    cases gs' with
    | nil =>
      refine ⟨.ref g, rfl, false, .inl ⟨_, .inl (.inl I.h2), rfl⟩, ?_⟩
      refine iteF ?_
      refine iteF ?_
      -- if great
      refine ⟨.ref g, rfl, false, .inl ⟨_, .inl (.inl I.h2), rfl⟩, iteF ?_⟩
      -- own
      dsimp only [tNext]
      refine asgS (fun v H' => H' = H1 ∧ ∃ o : Int, v = .int o) (fun Q' hQ' => ?_) ?_
      · cases ls with
        | nil => exact ⟨.ref l, rfl, false, .inl ⟨_, .inl (.inl I.h3), rfl⟩, iteF (hQ' _ _ ⟨rfl, 5, rfl⟩)⟩
        | cons y ys =>
          have h0 : (0 : Int) < (((y :: ys).map V.int).length : Int) := by rw [List.length_map, List.length_cons]; omega
          have h5 := Int.emod_nonneg (c + 1) (Int.ne_of_gt h0)
          have h6 := Int.emod_lt_of_pos (c + 1) h0
          obtain ⟨j, hj⟩ : ∃ j : Nat, (c + 1) % (((y :: ys).map V.int).length : Int) = (j : Int) := ⟨_, (Int.toNat_of_nonneg h5).symm⟩
          have hlt : j < (y :: ys).length := by
            rw [hj, List.length_map] at h6
            omega
          have hget : ((y :: ys).map V.int)[j]? = some (.int (y :: ys)[j]) := by
            rw [List.getElem?_map, List.getElem?_eq_getElem hlt]
            rfl
          refine ⟨.ref l, rfl, true, .inl ⟨_, .inl (.inl I.h3), rfl⟩, iteT ?_⟩
          refine ⟨.ref l, rfl, .ref st, rfl, st, _, 2, .int (c + 1), rfl, rfl, .inl (.inl I.h1), rfl, .inl ⟨_, rfl, .ref l, rfl, l, _, rfl, .inl (.inl (.inl I.h3)), _, _, rfl, rfl, h0, l, _, _, .int (y :: ys)[j], rfl, rfl, .inl (.inl I.h3), at_of hj hget, hQ' _ _ ⟨rfl, (y :: ys)[j], rfl⟩⟩⟩
      rintro v H' ⟨rfl, o, rfl⟩
      -- state[3] = ..
      refine ⟨.ref st, rfl, st, _, 3, .int a, rfl, rfl, .inl (.inl I.h1), rfl, a, 69621, rfl, rfl, mulR (by decide), .int o, rfl, o, 48271, rfl, rfl, mulR (by decide), _, _, rfl, rfl, .ref st, rfl, st, _, 2, .int (c + 1), rfl, rfl, .inl (.inl I.h1), rfl, _, _, rfl, rfl, mulR (by decide), _, _, rfl, rfl, _, _, rfl, rfl, .inl ⟨_, rfl, _, _, rfl, rfl, by show (0 : Int) < 2305843009213693951; decide, ?_⟩⟩
      dsimp only
      generalize ha' : (a * 69621 + o * 48271 + (c + 1) * 40014 + 7) % 2305843009213693951 = a'
      have b0 : 0 ≤ a' := by rw [← ha']; exact Int.emod_nonneg _ (by decide)
      have b1 : a' < 2305843009213693951 := by rw [← ha']; exact Int.emod_lt_of_pos _ (by decide)
      refine ⟨.ref st, rfl, st, _, 3, 3, rfl, rfl, I.h1, rfl, ?_⟩
      have e2 : (upd H' st (.lst [.ref g, .ref l, .int (c + 1), .int a'])) st = some (.lst [.ref g, .ref l, .int (c + 1), .int a']) := upd_same
      -- mixed
      refine ⟨.ref st, rfl, st, _, 3, .int a', rfl, rfl, .inl (.inl e2), rfl, .ref st, rfl, st, _, 3, .int a', rfl, rfl, .inl (.inl e2), rfl, a', a', rfl, rfl, mulR (by omega), .ref st, rfl, st, [.ref g, .ref l, .int (c + 1), .int a'], 2, .int (c + 1), rfl, rfl, .inl (.inl e2), rfl, _, _, rfl, rfl, mulR (by decide), _, _, rfl, rfl, .inl ⟨_, rfl, _, _, rfl, rfl, by show (0 : Int) < 2305843009213693921; decide, ?_⟩⟩
      -- return
      refine ⟨_, rfl, _, _, rfl, rfl, m100 (by decide) (by decide), .inl ⟨_, rfl, .int m, rfl, _, _, rfl, rfl, m0, ?_⟩⟩
      refine q _ _ (Int.emod_nonneg _ (Int.ne_of_gt m0)) (Int.emod_lt_of_pos _ m0) ⟨⟨[], ls, c + 1, a', e2, ?_, ?_, by decide, ll, b0, by omega⟩, n1, n2, n3⟩ ?_
      · rw [upd_ne n1.symm]; exact I.h2
      · rw [upd_ne n2.symm]; exact I.h3
      · intro b o e b1 b2 b3; rw [upd_ne b1]; exact I.kp b o e b1 b2 b3
    | cons z r =>
      refine ⟨.ref g, rfl, true, .inl ⟨_, .inl (.inl I.h2), rfl⟩, ?_⟩
      refine iteT ?_
      refine ⟨.ref g, rfl, g, _, 0, .int z, rfl, rfl, .inl (.inl I.h2), at0, rfl, _, rfl, ite2 (fun e => ?_) (fun e => ?_)⟩
      · -- great.pop(0)
        refine ⟨fun σ' H' => σ' = [some (.ref st), some (.int m), some (.ref g), some (.ref l), none, none, none] ∧ DrI H H' st g l r ls (c + 1) a, ?_, ?_⟩
        · rintro σ' H' ⟨rfl, I'⟩
          exact ⟨r.length, Nat.lt_succ_self _, r, rfl, rfl, I'⟩
        · refine ⟨.ref g, rfl, .inl ⟨rfl, _, .inl (.inl I.h2)⟩, g, _, 0, 0, .int z, rfl, rfl, I.h2, by decide, by decide, ?_, rfl, rfl, ⟨?_, ?_, ?_, ?_, ?_⟩⟩
          · show seqIndex? 0 ((z :: r).map V.int).length = some 0
            unfold seqIndex?
            simp
          · rw [upd_ne n1]; exact I.h1
          · exact upd_same
          · rw [upd_ne n3.symm]; exact I.h3
          · have := I.lg; rw [List.length_cons] at this; omega
          · intro b o e b1 b2 b3; rw [upd_ne b2]; exact I.kp b o e b1 b2 b3
      · -- if great
        refine ⟨.ref g, rfl, true, .inl ⟨_, .inl (.inl I.h2), rfl⟩, iteT ?_⟩
        refine ⟨.ref g, rfl, g, _, 0, .int z, rfl, rfl, .inl (.inl I.h2), at0, .inl ⟨_, rfl, .int m, rfl, _, _, rfl, rfl, m0, ?_⟩⟩
        refine ⟨.ref g, rfl, g, _, 0, .int z, rfl, rfl, .inl (.inl I.h2), at0, .int m, rfl, _, _, rfl, rfl, m100 m0 m1, .ref g, rfl, g, _, 0, 0, rfl, rfl, I.h2, ix0, ?_⟩
        refine ⟨_, rfl, ?_⟩
        refine q _ _ (Int.emod_nonneg _ (Int.ne_of_gt m0)) (Int.emod_lt_of_pos _ m0) ⟨⟨(z / m) :: r, ls, c + 1, a, ?_, upd_same, ?_, I.lg, ll, a0, a1⟩, n1, n2, n3⟩ ?_
        · rw [upd_ne n1]; exact I.h1
        · rw [upd_ne n3.symm]; exact I.h3
        · intro b o e b1 b2 b3; rw [upd_ne b2]; exact I.kp b o e b1 b2 b3
theorem sc_law_start : FnScope ["_law_script", "_law_cells", "_law_great", "_law_lesser", "_law_cell"] ["_law_script"] (defScope s_law_start) := ⟨rfl, rfl, rfl, by decide +kernel, rfl, by decide +kernel, by decide +kernel⟩
theorem ok_law_start {f : Addr} {fd : FuncData} {k : Nat} (F : FunD K "_law_start" "_law_start" (defArgs s_law_start) (defBody s_law_start) (defScope s_law_start) [] [] f fd) (T : Tx K mg) : FnOk P w K mg base CX0 (k + 1) f fd ["_law_script"] (sp_start K) := by
  refine F.ok sc_law_start (fun vs H Q E h => ?_) (fun cdv A outer s H vs Q E hr h => ?_)
  · obtain ⟨a, ns, rfl, _⟩ := h
    rfl
  · obtain ⟨a, ns, rfl, hS, hl, q⟩ := h
    refine ⟨_, PSs.nox (pss_cons (ps_setLc (i := 1) (own := [("_law_cell", 4)]) (by rfl) sc_law_start.nd rfl rfl (sw_true rfl rfl rfl (by decide +kernel)) (pi_listK K (pe_slice (sl_listK K) (pv 0) po_none (po_some pe_int))) (blkOk_by (N := ["_law_script", "_law_cells", "_law_great", "_law_lesser", "_law_cell"]) (sc := defScope s_law_start) (by decide +kernel)) (fun _ _ _ _ _ => (pg_name (i := 4) sc_law_start.nd rfl (by first | exact Or.inl rfl | exact Or.inr rfl))) (fun _ _ _ _ _ => pts_nil) (fun _ _ _ _ _ => (pe_callTy call_int1 (by rfl) T.int (by decide +kernel) (pa_cons (pv 4) pa_nil))))
      (pss_cons (ps_setLc (i := 2) (own := [("_law_cell", 4)]) (by rfl) sc_law_start.nd rfl rfl (sw_true rfl rfl rfl (by decide +kernel)) (pi_listK K (pv 1)) (blkOk_by (N := ["_law_script", "_law_cells", "_law_great", "_law_lesser", "_law_cell"]) (sc := defScope s_law_start) (by decide +kernel)) (fun _ _ _ _ _ => (pg_name (i := 4) sc_law_start.nd rfl (by first | exact Or.inl rfl | exact Or.inr rfl))) (fun _ _ _ _ _ => pts_one (pt_cmpR op_ge (pe_callB call_abs (by rfl) T.abs (by decide +kernel) (pa_cons (pv 4) pa_nil)) (pe_op op_pow pe_int pe_int) (nomark _))) (fun _ _ _ _ _ => (pe_callB call_abs (by rfl) T.abs (by decide +kernel) (pa_cons (pv 4) pa_nil))))
      (pss_cons (ps_setLc (i := 3) (own := [("_law_cell", 4)]) (by rfl) sc_law_start.nd rfl rfl (sw_true rfl rfl rfl (by decide +kernel)) (pi_listK K (pv 1)) (blkOk_by (N := ["_law_script", "_law_cells", "_law_great", "_law_lesser", "_law_cell"]) (sc := defScope s_law_start) (by decide +kernel)) (fun _ _ _ _ _ => (pg_name (i := 4) sc_law_start.nd rfl (by first | exact Or.inl rfl | exact Or.inr rfl))) (fun _ _ _ _ _ => pts_one (pt_cmpR op_lt (pe_callB call_abs (by rfl) T.abs (by decide +kernel) (pa_cons (pv 4) pa_nil)) (pe_op op_pow pe_int pe_int) (nomark _))) (fun _ _ _ _ _ => (pe_op op_add (pe_op op_mod (pe_callTy call_int1 (by rfl) T.int (by decide +kernel) (pa_cons (pv 4) pa_nil)) pe_int) pe_int)))
      (pss_one (ps_ret (pe_lst (pa_cons (pv 2) (pa_cons (pv 3) (pa_cons pe_int (pa_cons (pe_op op_add pe_int (pe_callB (call_len_seqK K) (by rfl) T.len (by decide +kernel) (pa_cons (pv 1) pa_nil))) pa_nil)))))))))), ?_⟩
    obtain ⟨ms, lm, _, em⟩ := cutV_ints ns none (some 63)
    -- cells
    refine ⟨.ref a, rfl, 63, rfl, a, _, rfl, hS, fun p hp => ?_⟩
    rw [em]
    have s0 := same_upd (o := .lst (ms.map V.int)) hp
    refine ⟨p, rfl, ⟨ms.map V.int, .inl (.inl upd_same)⟩, fun C hC => ?_⟩
    refine lcW (walk_list (xs := ms.map V.int)) (liftI fun i => some i) (fun H s => s.seq (.inl (.inl upd_same))) (small63 (by rw [List.length_map]; omega)) hC (fun i x H' hx s' => ?_) (fun H1 s1 d1 => ?_)
    · obtain ⟨z, hz, rfl⟩ := List.mem_map.mp (List.mem_of_getElem? hx)
      intro Q1 Q0 h1 h0
      exact ⟨rfl, _, rfl, .inl ⟨_, rfl, h1 _ _ rfl (Same.refl _)⟩⟩
    rw [fm_lift] at d1
    generalize hcs : (ms.filterMap fun i => some i) = cs at d1
    have lc : cs.length ≤ 63 := by
      have := List.length_filterMap_le (fun i : Int => some i) ms
      rw [← hcs]; omega
    -- great
    refine ⟨_, rfl, C, rfl, ⟨_, .inl (.inl d1)⟩, fun g hg => ?_⟩
    refine lcW (walk_list (xs := cs.map V.int)) (liftI fun i => if (1000000000000000000 : Int) ≤ absI i then some (absI i) else none) (fun H s => s.seq (.inl (.inl d1))) (small63 (by rw [List.length_map]; omega)) hg (fun i x H' hx s' => ?_) (fun H2 s2 d2 => ?_)
    · obtain ⟨z, hz, rfl⟩ := List.mem_map.mp (List.mem_of_getElem? hx)
      intro Q1 Q0 h1 h0
      refine ⟨rfl, _, rfl, z, rfl, 10, 18, rfl, rfl, ⟨by decide, by decide, by decide⟩, _, _, rfl, rfl, _, rfl, ?_⟩
      by_cases hge : (1000000000000000000 : Int) ≤ absI z
      · refine ite2 (fun _ => ?_) (fun e => ?_)
        · exact ⟨_, rfl, z, rfl, h1 _ _ (by show (if (1000000000000000000 : Int) ≤ absI z then some (absI z) else none).map V.int = _; rw [if_pos hge]; rfl) (Same.refl _)⟩
        · exact absurd (decide_eq_true hge) e
      · refine ite2 (fun e => ?_) (fun e => ?_)
        · exact absurd (of_decide_eq_true e) hge
        · exact h0 _ (by show (if (1000000000000000000 : Int) ≤ absI z then some (absI z) else none).map V.int = _; rw [if_neg hge]; rfl) (Same.refl _)
    rw [fm_lift] at d2
    generalize hgs : (cs.filterMap fun i => if (1000000000000000000 : Int) ≤ absI i then some (absI i) else none) = gs at d2
    have lg : gs.length ≤ 63 := by
      have := List.length_filterMap_le (fun i : Int => if (1000000000000000000 : Int) ≤ absI i then some (absI i) else none) cs
      rw [← hgs]; omega
    -- lesser
    refine ⟨_, rfl, C, rfl, ⟨_, .inl (.inl (s2 _ _ d1))⟩, fun l hl' => ?_⟩
    refine lcW (walk_list (xs := cs.map V.int)) (liftI fun i => if absI i < (1000000000000000000 : Int) then some (i % 2147483587 + 1) else none) (fun H s => s.seq (.inl (.inl (s2 _ _ d1)))) (small63 (by rw [List.length_map]; omega)) hl' (fun i x H' hx s' => ?_) (fun H3 s3 d3 => ?_)
    · obtain ⟨z, hz, rfl⟩ := List.mem_map.mp (List.mem_of_getElem? hx)
      intro Q1 Q0 h1 h0
      refine ⟨rfl, _, rfl, z, rfl, 10, 18, rfl, rfl, ⟨by decide, by decide, by decide⟩, _, _, rfl, rfl, _, rfl, ?_⟩
      by_cases hge : absI z < (1000000000000000000 : Int)
      · refine ite2 (fun _ => ?_) (fun e => ?_)
        · refine ⟨_, rfl, .inl ⟨_, rfl, _, _, rfl, rfl, by show (0 : Int) < 2147483587; decide, _, _, rfl, rfl, h1 _ _ ?_ (Same.refl _)⟩⟩
          show (if absI z < (1000000000000000000 : Int) then some (z % 2147483587 + 1) else none).map V.int = _
          rw [if_pos hge]; rfl
        · exact absurd (decide_eq_true hge) e
      · refine ite2 (fun e => ?_) (fun e => ?_)
        · exact absurd (of_decide_eq_true e) hge
        · exact h0 _ (by show (if absI z < (1000000000000000000 : Int) then some (z % 2147483587 + 1) else none).map V.int = _; rw [if_neg hge]; rfl) (Same.refl _)
    rw [fm_lift] at d3
    generalize hls : (cs.filterMap fun i => if absI i < (1000000000000000000 : Int) then some (i % 2147483587 + 1) else none) = ls at d3
    have ll : ls.length ≤ 63 := by
      have := List.length_filterMap_le (fun i : Int => if absI i < (1000000000000000000 : Int) then some (i % 2147483587 + 1) else none) cs
      rw [← hls]; omega
    -- return
    refine ⟨_, rfl, _, rfl, _, rfl, C, _, rfl, .inl (.inl (.inl (s3 _ _ (s2 _ _ d1)))), _, _, rfl, rfl, (by show 4 ≤ sizeLine; decide), fun st hst => ?_⟩
    have f1 : H1 st = none := s2.free (s3.free hst)
    have d2' := s3 _ _ d2
    refine q st g l _ (s0.free (s1.free f1)) (s0.free (s1.free hg)) (s0.free (s1.free (s2.free hl'))) ⟨⟨gs, ls, 0, _, upd_same, ?_, ?_, lg, ll, ?_, ?_⟩, (ne_of_none d2' hst).symm, (ne_of_none d3 hst).symm, ne_of_none d2 hl'⟩ ?_
    · rw [upd_ne (ne_of_none d2' hst)]; exact d2'
    · rw [upd_ne (ne_of_none d3 hst)]; exact d3
    · show (0 : Int) ≤ 17 + ((cs.map V.int).length : Int); omega
    · show (17 : Int) + ((cs.map V.int).length : Int) < 4611686018427387904; rw [List.length_map]; omega
    · exact (((s0.trans s1).trans s2).trans s3).trans (same_upd hst)
theorem sc_law_of : FnScope ["_law_state", "_law_some"] ["_law_state", "_law_some"] (defScope s_law_of) := ⟨rfl, rfl, rfl, by decide +kernel, rfl, by decide +kernel, by decide +kernel⟩
theorem ok_law_of {f : Addr} {fd : FuncData} (F : FunD K "_law_of" "_law_of" (defArgs s_law_of) (defBody s_law_of) (defScope s_law_of) [] [] f fd) (T : Tx K mg) (c_law_draw : Cal P w K mg base 1 "_law_draw" ["_law_state", "_law_many"] sp_draw) : FnOk P w K mg base CX0 2 f fd ["_law_state", "_law_some"] sp_of := by
  refine F.ok sc_law_of (fun vs H Q E h => ?_) (fun cdv A outer s H vs Q E hr h => ?_)
  · obtain ⟨st, g, l, p, xs, rfl, _⟩ := h
    rfl
  · obtain ⟨st, g, l, p, xs, rfl, hp, n1, n2, n3, h0, hz, S, q⟩ := h
    refine ⟨_, PSs.nox (pss_one (ps_ret (pe_ix (ix_listK K) (pv 1) (pe_cal c_law_draw (hr.mono (by omega)) (by rfl) (pa_cons (pv 0) (pa_cons (pe_callB (call_len_seqK K) (by rfl) T.len (by decide +kernel) (pa_cons (pv 1) pa_nil)) pa_nil))) (fun _ _ => rfl)))), ?_⟩
    refine ⟨_, rfl, _, rfl, _, rfl, p, xs, rfl, .inl (.inl (.inl hp)), st, g, l, _, rfl, ?_, ?_, S, fun d H' d0 d1 S' k => ?_⟩
    · have : 0 < xs.length := List.length_pos_iff.mpr h0
      omega
    · omega
    · have hp' := k _ _ hp n1 n2 n3
      obtain ⟨j, rfl⟩ : ∃ j : Nat, d = (j : Int) := ⟨d.toNat, by omega⟩
      have hj : j < xs.length := by omega
      exact ixl hp' (atI_nat (List.getElem?_eq_getElem hj)) (q _ _ (List.getElem_mem hj) S' k)
end
end Lx

namespace Lx
open PySem PySem.Spec PyProof.Rows L2 Ub Ur
section
variable {P : Program} {w : World} {K : PySem.W.Frag} {mg : Str → Option Value} {base : Heap}
theorem sc_law_odd : FnScope ["_law_state", "_law_some"] ["_law_state"] (defScope s_law_odd) := ⟨rfl, rfl, rfl, by decide +kernel, rfl, by decide +kernel, by decide +kernel⟩
theorem ok_law_odd {f : Addr} {fd : FuncData} (F : FunD K "_law_odd" "_law_odd" (defArgs s_law_odd) (defBody s_law_odd) (defScope s_law_odd) [] [] f fd) (T : Tx K mg) (c_law_of : Cal P w K mg base 2 "_law_of" ["_law_state", "_law_some"] sp_of) : FnOk P w K mg base CX0 3 f fd ["_law_state"] sp_odd := by
  refine F.ok sc_law_odd (fun vs H Q E h => ?_) (fun cdv A outer s H vs Q E hr h => ?_)
  · obtain ⟨st, g, l, rfl, _⟩ := h
    rfl
  · obtain ⟨st, g, l, rfl, S, q⟩ := h
    refine ⟨_, PSs.nox (pss_cons (ps_set (i := 1) sc_law_odd.nd rfl (by first | exact Or.inl rfl | exact Or.inr rfl) (pe_lst (pa_cons pe_non (pa_cons pe_bl (pa_cons pe_bl (pa_cons pe_int (pa_cons pe_int (pa_cons (pe_un un_neg pe_int) (pa_cons (pe_op op_pow pe_int pe_int) (pa_cons pe_str (pa_cons pe_str (pa_cons pe_str (pa_cons pe_str (pa_cons pe_str (pa_cons pe_str pa_nil)))))))))))))))
      (pss_cons (ps_set (i := 1) sc_law_odd.nd rfl (by first | exact Or.inl rfl | exact Or.inr rfl) (pe_op op_cat (pv 1) (pe_lst (pa_cons (pe_lst pa_nil) (pa_cons (pe_lst (pa_cons pe_int pa_nil)) (pa_cons (pe_lst (pa_cons pe_int (pa_cons pe_int pa_nil))) (pa_cons (pe_tup (pa_cons pe_non pa_nil)) (pa_cons (pe_tup (pa_cons pe_bl pa_nil)) (pa_cons (pe_tup (pa_cons (pe_tup pa_nil) (pa_cons pe_int pa_nil))) (pa_cons (pe_tup (pa_cons pe_str (pa_cons pe_int (pa_cons (pe_lst pa_nil) pa_nil)))) (pa_cons (pe_lst (pa_cons (pe_lst pa_nil) (pa_cons (pe_lst (pa_cons (pe_tup pa_nil) pa_nil)) pa_nil))) pa_nil)))))))))))
      (pss_one (ps_ret (pe_cal c_law_of (hr.mono (by omega)) (by rfl) (pa_cons (pv 0) (pa_cons (pe_op op_cat (pv 1) (pe_lst (pa_cons (pe_lst (pa_cons pe_non pa_nil)) (pa_cons pe_str (pa_cons pe_str (pa_cons pe_str pa_nil)))))) pa_nil))))))), ?_⟩
    refine ⟨1, rfl, 10, 29, rfl, rfl, ⟨by decide, by decide, by decide⟩, (by show 13 ≤ sizeLine; decide), fun p hp => ?_⟩
    refine ⟨_, rfl, Nat.zero_le _, fun a1 n1 => ?_⟩
    refine ⟨(by show 1 ≤ sizeLine; decide), fun a2 n2 => ⟨(by show 2 ≤ sizeLine; decide), fun a3 n3 => ⟨(by show 1 ≤ sizeLine; decide), fun a4 n4 => ⟨(by show 1 ≤ sizeLine; decide), fun a5 n5 => ⟨Nat.zero_le _, fun a6 n6 => ⟨(by show 2 ≤ sizeLine; decide), fun a7 n7 => ⟨Nat.zero_le _, fun a8 n8 => ⟨(by show 3 ≤ sizeLine; decide), fun a9 n9 => ⟨Nat.zero_le _, fun b1 m1 => ⟨Nat.zero_le _, fun b2 m2 => ⟨(by show 1 ≤ sizeLine; decide), fun b3 m3 => ⟨(by show 2 ≤ sizeLine; decide), fun b4 m4 => ⟨(by show 8 ≤ sizeLine; decide), fun r hr' => ?_⟩⟩⟩⟩⟩⟩⟩⟩⟩⟩⟩⟩⟩
    have s0 := same_upd (o := .lst [.non, .bl true, .bl false, .int 0, .int 1, .int (-1), .int (10 ^ (29 : Int).toNat), .str "", .str "..", .str ".A", .str " ", .str "\n", .str "a b"]) hp
    have e0 : (upd H p (.lst [.non, .bl true, .bl false, .int 0, .int 1, .int (-1), .int (10 ^ (29 : Int).toNat), .str "", .str "..", .str ".A", .str " ", .str "\n", .str "a b"])) p = some (.lst [.non, .bl true, .bl false, .int 0, .int 1, .int (-1), .int (10 ^ (29 : Int).toNat), .str "", .str "..", .str ".A", .str " ", .str "\n", .str "a b"]) := upd_same
    generalize upd H p (.lst [.non, .bl true, .bl false, .int 0, .int 1, .int (-1), .int (10 ^ (29 : Int).toNat), .str "", .str "..", .str ".A", .str " ", .str "\n", .str "a b"]) = H0 at *
    have s1 := same_upd (o := .lst []) n1
    have e1 : (upd H0 a1 (.lst [])) a1 = some (.lst []) := upd_same
    generalize upd H0 a1 (.lst []) = H1 at *
    have s2 := same_upd (o := .lst [.int 0]) n2
    have e2 : (upd H1 a2 (.lst [.int 0])) a2 = some (.lst [.int 0]) := upd_same
    generalize upd H1 a2 (.lst [.int 0]) = H2 at *
    have s3 := same_upd (o := .lst [.int 1, .int 2]) n3
    have e3 : (upd H2 a3 (.lst [.int 1, .int 2])) a3 = some (.lst [.int 1, .int 2]) := upd_same
    generalize upd H2 a3 (.lst [.int 1, .int 2]) = H3 at *
    have s4 := same_upd (o := .tup [.non]) n4
    have e4 : (upd H3 a4 (.tup [.non])) a4 = some (.tup [.non]) := upd_same
    generalize upd H3 a4 (.tup [.non]) = H4 at *
    have s5 := same_upd (o := .tup [.bl true]) n5
    have e5 : (upd H4 a5 (.tup [.bl true])) a5 = some (.tup [.bl true]) := upd_same
    generalize upd H4 a5 (.tup [.bl true]) = H5 at *
    have s6 := same_upd (o := .tup []) n6
    have e6 : (upd H5 a6 (.tup [])) a6 = some (.tup []) := upd_same
    generalize upd H5 a6 (.tup []) = H6 at *
    have s7 := same_upd (o := .tup [.ref a6, .int 0]) n7
    have e7 : (upd H6 a7 (.tup [.ref a6, .int 0])) a7 = some (.tup [.ref a6, .int 0]) := upd_same
    generalize upd H6 a7 (.tup [.ref a6, .int 0]) = H7 at *
    have s8 := same_upd (o := .lst []) n8
    have e8 : (upd H7 a8 (.lst [])) a8 = some (.lst []) := upd_same
    generalize upd H7 a8 (.lst []) = H8 at *
    have s9 := same_upd (o := .tup [.str "a", .int 1, .ref a8]) n9
    have e9 : (upd H8 a9 (.tup [.str "a", .int 1, .ref a8])) a9 = some (.tup [.str "a", .int 1, .ref a8]) := upd_same
    generalize upd H8 a9 (.tup [.str "a", .int 1, .ref a8]) = H9 at *
    have s10 := same_upd (o := .lst []) m1
    have e10 : (upd H9 b1 (.lst [])) b1 = some (.lst []) := upd_same
    generalize upd H9 b1 (.lst []) = H10 at *
    have s11 := same_upd (o := .tup []) m2
    have e11 : (upd H10 b2 (.tup [])) b2 = some (.tup []) := upd_same
    generalize upd H10 b2 (.tup []) = H11 at *
    have s12 := same_upd (o := .lst [.ref b2]) m3
    have e12 : (upd H11 b3 (.lst [.ref b2])) b3 = some (.lst [.ref b2]) := upd_same
    generalize upd H11 b3 (.lst [.ref b2]) = H12 at *
    have s13 := same_upd (o := .lst [.ref b1, .ref b3]) m4
    have e13 : (upd H12 b4 (.lst [.ref b1, .ref b3])) b4 = some (.lst [.ref b1, .ref b3]) := upd_same
    generalize upd H12 b4 (.lst [.ref b1, .ref b3]) = H13 at *
    have s14 := same_upd (o := .lst [.ref a1, .ref a2, .ref a3, .ref a4, .ref a5, .ref a7, .ref a9, .ref b4]) hr'
    have e14 : (upd H13 r (.lst [.ref a1, .ref a2, .ref a3, .ref a4, .ref a5, .ref a7, .ref a9, .ref b4])) r = some (.lst [.ref a1, .ref a2, .ref a3, .ref a4, .ref a5, .ref a7, .ref a9, .ref b4]) := upd_same
    generalize upd H13 r (.lst [.ref a1, .ref a2, .ref a3, .ref a4, .ref a5, .ref a7, .ref a9, .ref b4]) = H14 at *
    have t14 : Same H14 H14 := Same.refl _
    have t13 : Same H13 H14 := s14.trans t14
    have t12 : Same H12 H14 := s13.trans t13
    have t11 : Same H11 H14 := s12.trans t12
    have t10 : Same H10 H14 := s11.trans t11
    have t9 : Same H9 H14 := s10.trans t10
    have t8 : Same H8 H14 := s9.trans t9
    have t7 : Same H7 H14 := s8.trans t8
    have t6 : Same H6 H14 := s7.trans t7
    have t5 : Same H5 H14 := s6.trans t6
    have t4 : Same H4 H14 := s5.trans t5
    have t3 : Same H3 H14 := s4.trans t4
    have t2 : Same H2 H14 := s3.trans t3
    have t1 : Same H1 H14 := s2.trans t2
    have t0 : Same H0 H14 := s1.trans t1
    refine ⟨p, r, _, _, rfl, rfl, t0 _ _ e0, e14, (by show 13 + 8 ≤ sizeLine; decide), fun c nc => ?_⟩
    have s15 := same_upd (o := .lst ([.non, .bl true, .bl false, .int 0, .int 1, .int (-1), .int (10 ^ (29 : Int).toNat), .str "", .str "..", .str ".A", .str " ", .str "\n", .str "a b"] ++ [.ref a1, .ref a2, .ref a3, .ref a4, .ref a5, .ref a7, .ref a9, .ref b4])) nc
    have e15 : (upd H14 c (.lst ([.non, .bl true, .bl false, .int 0, .int 1, .int (-1), .int (10 ^ (29 : Int).toNat), .str "", .str "..", .str ".A", .str " ", .str "\n", .str "a b"] ++ [.ref a1, .ref a2, .ref a3, .ref a4, .ref a5, .ref a7, .ref a9, .ref b4]))) c = some (.lst ([.non, .bl true, .bl false, .int 0, .int 1, .int (-1), .int (10 ^ (29 : Int).toNat), .str "", .str "..", .str ".A", .str " ", .str "\n", .str "a b"] ++ [.ref a1, .ref a2, .ref a3, .ref a4, .ref a5, .ref a7, .ref a9, .ref b4])) := upd_same
    generalize upd H14 c (.lst ([.non, .bl true, .bl false, .int 0, .int 1, .int (-1), .int (10 ^ (29 : Int).toNat), .str "", .str "..", .str ".A", .str " ", .str "\n", .str "a b"] ++ [.ref a1, .ref a2, .ref a3, .ref a4, .ref a5, .ref a7, .ref a9, .ref b4])) = H15 at *
    refine ⟨_, rfl, _, rfl, (by show 1 ≤ sizeLine; decide), fun d1 nd1 => ⟨(by show 4 ≤ sizeLine; decide), fun d2 nd2 => ?_⟩⟩
    have s16 := same_upd (o := .lst [.non]) nd1
    have e16 : (upd H15 d1 (.lst [.non])) d1 = some (.lst [.non]) := upd_same
    generalize upd H15 d1 (.lst [.non]) = H16 at *
    have s17 := same_upd (o := .lst [.ref d1, .str "update", .str "{", .str "}"]) nd2
    have e17 : (upd H16 d2 (.lst [.ref d1, .str "update", .str "{", .str "}"])) d2 = some (.lst [.ref d1, .str "update", .str "{", .str "}"]) := upd_same
    generalize upd H16 d2 (.lst [.ref d1, .str "update", .str "{", .str "}"]) = H17 at *
    refine ⟨c, d2, _, _, rfl, rfl, s17 _ _ (s16 _ _ e15), e17, (by show 21 + 4 ≤ sizeLine; decide), fun e ne => ?_⟩
    have s18 := same_upd (o := .lst ([.non, .bl true, .bl false, .int 0, .int 1, .int (-1), .int (10 ^ (29 : Int).toNat), .str "", .str "..", .str ".A", .str " ", .str "\n", .str "a b"] ++ [.ref a1, .ref a2, .ref a3, .ref a4, .ref a5, .ref a7, .ref a9, .ref b4] ++ [.ref d1, .str "update", .str "{", .str "}"])) ne
    have sall : Same H _ := (((((s0.trans t0).trans s15).trans s16).trans s17).trans s18)
    have S' := S.same sall
    have Sx := S.same ((((s0.trans t0).trans s15).trans s16).trans s17)
    have tl : Same H14 _ := ((s15.trans s16).trans s17).trans s18
    obtain ⟨⟨gs, ls, cc, ca, h1, h2, h3, hrest⟩, _⟩ := id Sx
    refine ⟨st, g, l, e, _, rfl, upd_same, (ne_of_none h1 ne).symm, (ne_of_none h2 ne).symm, (ne_of_none h3 ne).symm, by simp, (by show 25 ≤ 1000; decide), S', fun v H' hv S2 k => ?_⟩
    refine q v H' ?_ S2 ((Kp.of sall).trans k)
    have far : ∀ {b : Addr} {o : HO}, H = H → (upd H17 e (.lst ([.non, .bl true, .bl false, .int 0, .int 1, .int (-1), .int (10 ^ (29 : Int).toNat), .str "", .str "..", .str ".A", .str " ", .str "\n", .str "a b"] ++ [.ref a1, .ref a2, .ref a3, .ref a4, .ref a5, .ref a7, .ref a9, .ref b4] ++ [.ref d1, .str "update", .str "{", .str "}"]))) b = some o → (H b = none) → H' b = some o := fun {b o} _ hb hn =>
      k _ _ hb (fun z => by
        obtain ⟨⟨_, _, _, _, y1, y2, y3, _⟩, _⟩ := id S
        rw [z, y1] at hn
        cases hn) (fun z => by
        obtain ⟨⟨_, _, _, _, y1, y2, y3, _⟩, _⟩ := id S
        rw [z, y2] at hn
        cases hn) (fun z => by
        obtain ⟨⟨_, _, _, _, y1, y2, y3, _⟩, _⟩ := id S
        rw [z, y3] at hn
        cases hn)
    have nn : ∀ {b : Addr}, H b = none → b ∉ [st, g, l] := fun {b} hn z => by
      obtain ⟨⟨_, _, _, _, y1, y2, y3, _⟩, _⟩ := id S
      simp only [List.mem_cons, List.not_mem_nil, or_false] at z
      rcases z with z | z | z
      · rw [z, y1] at hn; cases hn
      · rw [z, y2] at hn; cases hn
      · rw [z, y3] at hn; cases hn
    have mk : ∀ {b : Addr} {o : HO}, (upd H17 e (.lst ([.non, .bl true, .bl false, .int 0, .int 1, .int (-1), .int (10 ^ (29 : Int).toNat), .str "", .str "..", .str ".A", .str " ", .str "\n", .str "a b"] ++ [.ref a1, .ref a2, .ref a3, .ref a4, .ref a5, .ref a7, .ref a9, .ref b4] ++ [.ref d1, .str "update", .str "{", .str "}"]))) b = some o → (H b = none) → H' b = some o ∧ b ∉ [st, g, l] := fun h1 h2 => ⟨far rfl h1 h2, nn h2⟩
    have f1 := s0.free n1
    have f2 := s0.free (s1.free n2)
    have f3 := s0.free (s1.free (s2.free n3))
    have f4 := s0.free (s1.free (s2.free (s3.free n4)))
    have f5 := s0.free (s1.free (s2.free (s3.free (s4.free n5))))
    have f6 := s0.free (s1.free (s2.free (s3.free (s4.free (s5.free n6)))))
    have f7 := s0.free (s1.free (s2.free (s3.free (s4.free (s5.free (s6.free n7))))))
    have f8 := s0.free (s1.free (s2.free (s3.free (s4.free (s5.free (s6.free (s7.free n8)))))))
    have f9 := s0.free (s1.free (s2.free (s3.free (s4.free (s5.free (s6.free (s7.free (s8.free n9))))))))
    have f10 := s0.free (s1.free (s2.free (s3.free (s4.free (s5.free (s6.free (s7.free (s8.free (s9.free m1)))))))))
    have f11 := s0.free (s1.free (s2.free (s3.free (s4.free (s5.free (s6.free (s7.free (s8.free (s9.free (s10.free m2))))))))))
    have f12 := s0.free (s1.free (s2.free (s3.free (s4.free (s5.free (s6.free (s7.free (s8.free (s9.free (s10.free (s11.free m3)))))))))))
    have f13 := s0.free (s1.free (s2.free (s3.free (s4.free (s5.free (s6.free (s7.free (s8.free (s9.free (s10.free (s11.free (s12.free m4))))))))))))
    have g1 := mk (tl _ _ (t1 _ _ e1)) f1
    have g2 := mk (tl _ _ (t2 _ _ e2)) f2
    have g3 := mk (tl _ _ (t3 _ _ e3)) f3
    have g4 := mk (tl _ _ (t4 _ _ e4)) f4
    have g5 := mk (tl _ _ (t5 _ _ e5)) f5
    have g6 := mk (tl _ _ (t6 _ _ e6)) f6
    have g7 := mk (tl _ _ (t7 _ _ e7)) f7
    have g8 := mk (tl _ _ (t8 _ _ e8)) f8
    have g9 := mk (tl _ _ (t9 _ _ e9)) f9
    have g10 := mk (tl _ _ (t10 _ _ e10)) f10
    have g11 := mk (tl _ _ (t11 _ _ e11)) f11
    have g12 := mk (tl _ _ (t12 _ _ e12)) f12
    have g13 := mk (tl _ _ (t13 _ _ e13)) f13
    have g16 := mk (s18 _ _ (s17 _ _ e16)) (s0.free (t0.free (s15.free nd1)))
    have dall : DtVs [st, g, l] H' ([.non, .bl true, .bl false, .int 0, .int 1, .int (-1), .int (10 ^ (29 : Int).toNat), .str "", .str "..", .str ".A", .str " ", .str "\n", .str "a b", .ref a1, .ref a2, .ref a3, .ref a4, .ref a5, .ref a7, .ref a9, .ref b4, .ref d1, .str "update", .str "{", .str "}"]) odds :=
      .cons .non <| .cons (.bl _) <| .cons (.bl _) <| .cons (.int _) <| .cons (.int _) <| .cons (.int _) <| .cons (.int _) <| .cons (.str _) <| .cons (.str _) <| .cons (.str _) <| .cons (.str _) <| .cons (.str _) <| .cons (.str _) <|
      .cons (.lst g1.1 g1.2 .nil) <| .cons (.lst g2.1 g2.2 (.cons (.int _) .nil)) <| .cons (.lst g3.1 g3.2 (.cons (.int _) (.cons (.int _) .nil))) <| .cons (.tup g4.1 g4.2 (.cons .non .nil)) <| .cons (.tup g5.1 g5.2 (.cons (.bl _) .nil)) <|
      .cons (.tup g7.1 g7.2 (.cons (.tup g6.1 g6.2 .nil) (.cons (.int _) .nil))) <| .cons (.tup g9.1 g9.2 (.cons (.str _) (.cons (.int _) (.cons (.lst g8.1 g8.2 .nil) .nil)))) <|
      .cons (.lst g13.1 g13.2 (.cons (.lst g10.1 g10.2 .nil) (.cons (.lst g12.1 g12.2 (.cons (.tup g11.1 g11.2 .nil) .nil)) .nil))) <| .cons (.lst g16.1 g16.2 (.cons .non .nil)) <| .cons (.str _) <| .cons (.str _) <| .cons (.str _) .nil
    exact dall.mem hv
end
end Lx

namespace Lx
open PySem PySem.Spec PyProof.Rows L2 Ub Ur Ug Ue
section
variable {P : Program} {w : World} {K : PySem.W.Frag} {mg : Str → Option Value} {base : Heap}
theorem sc_BadShape : FnScope ["self", "text"] ["self", "text"] (defScope s_BadShape___init__) := ⟨rfl, rfl, rfl, by decide +kernel, rfl, by decide +kernel, by decide +kernel⟩
theorem x_BadShape {fd : FuncData} (F : Df K ("BadShape", some "__init__") "__init__" "BadShape.__init__" s_BadShape___init__ [] fd) (T : Tx K mg) : CalX P w K mg base 1 "BadShape" (He.ga K "BadShape") "text" := by
  refine ⟨_, fd, ["self", "text"], T.x_BadShape, F.ok sc_BadShape (fun vs H Q E h => by obtain ⟨a, y, rfl, _⟩ := h; rfl) (fun cdv A outer s H vs Q E hr h => ?_), F.bindsN fun _ _ _ _ _ _ us hl => match us, hl with | [_, _], _ => rfl, T.g_BadShape⟩
  obtain ⟨a, y, rfl, ha, q⟩ := h
  exact ⟨_, PSs.nox (pss_one (ps_ost (pv 0) (pv 1))), _, rfl, _, rfl, a, _, rfl, T.x_BadShape.o, T.x_BadShape.no, .inl ⟨ha, fun dx hd hne => q dx hd hne⟩⟩
theorem sc_BadPath : FnScope ["self", "path"] ["self", "path"] (defScope s_BadPath___init__) := ⟨rfl, rfl, rfl, by decide +kernel, rfl, by decide +kernel, by decide +kernel⟩
theorem x_BadPath {fd : FuncData} (F : Df K ("BadPath", some "__init__") "__init__" "BadPath.__init__" s_BadPath___init__ [] fd) (T : Tx K mg) : CalX P w K mg base 1 "BadPath" (He.ga K "BadPath") "path" := by
  refine ⟨_, fd, ["self", "path"], T.x_BadPath, F.ok sc_BadPath (fun vs H Q E h => by obtain ⟨a, y, rfl, _⟩ := h; rfl) (fun cdv A outer s H vs Q E hr h => ?_), F.bindsN fun _ _ _ _ _ _ us hl => match us, hl with | [_, _], _ => rfl, T.g_BadPath⟩
  obtain ⟨a, y, rfl, ha, q⟩ := h
  exact ⟨_, PSs.nox (pss_one (ps_ost (pv 0) (pv 1))), _, rfl, _, rfl, a, _, rfl, T.x_BadPath.o, T.x_BadPath.no, .inl ⟨ha, fun dx hd hne => q dx hd hne⟩⟩
theorem sc_BadValues : FnScope ["self", "given"] ["self", "given"] (defScope s_BadValues___init__) := ⟨rfl, rfl, rfl, by decide +kernel, rfl, by decide +kernel, by decide +kernel⟩
theorem x_BadValues {fd : FuncData} (F : Df K ("BadValues", some "__init__") "__init__" "BadValues.__init__" s_BadValues___init__ [] fd) (T : Tx K mg) : CalX P w K mg base 1 "BadValues" (He.ga K "BadValues") "given" := by
  refine ⟨_, fd, ["self", "given"], T.x_BadValues, F.ok sc_BadValues (fun vs H Q E h => by obtain ⟨a, y, rfl, _⟩ := h; rfl) (fun cdv A outer s H vs Q E hr h => ?_), F.bindsN fun _ _ _ _ _ _ us hl => match us, hl with | [_, _], _ => rfl, T.g_BadValues⟩
  obtain ⟨a, y, rfl, ha, q⟩ := h
  exact ⟨_, PSs.nox (pss_one (ps_ost (pv 0) (pv 1))), _, rfl, _, rfl, a, _, rfl, T.x_BadValues.o, T.x_BadValues.no, .inl ⟨ha, fun dx hd hne => q dx hd hne⟩⟩
theorem sc_BadValue : FnScope ["self", "value"] ["self", "value"] (defScope s_BadValue___init__) := ⟨rfl, rfl, rfl, by decide +kernel, rfl, by decide +kernel, by decide +kernel⟩
theorem x_BadValue {fd : FuncData} (F : Df K ("BadValue", some "__init__") "__init__" "BadValue.__init__" s_BadValue___init__ [] fd) (T : Tx K mg) : CalX P w K mg base 1 "BadValue" (He.ga K "BadValue") "value" := by
  refine ⟨_, fd, ["self", "value"], T.x_BadValue, F.ok sc_BadValue (fun vs H Q E h => by obtain ⟨a, y, rfl, _⟩ := h; rfl) (fun cdv A outer s H vs Q E hr h => ?_), F.bindsN fun _ _ _ _ _ _ us hl => match us, hl with | [_, _], _ => rfl, T.g_BadValue⟩
  obtain ⟨a, y, rfl, ha, q⟩ := h
  exact ⟨_, PSs.nox (pss_one (ps_ost (pv 0) (pv 1))), _, rfl, _, rfl, a, _, rfl, T.x_BadValue.o, T.x_BadValue.no, .inl ⟨ha, fun dx hd hne => q dx hd hne⟩⟩
theorem sc_BadParameters : FnScope ["self", "parameters"] ["self", "parameters"] (defScope s_BadParameters___init__) := ⟨rfl, rfl, rfl, by decide +kernel, rfl, by decide +kernel, by decide +kernel⟩
theorem x_BadParameters {fd : FuncData} (F : Df K ("BadParameters", some "__init__") "__init__" "BadParameters.__init__" s_BadParameters___init__ [] fd) (T : Tx K mg) : CalX P w K mg base 1 "BadParameters" (He.ga K "BadParameters") "parameters" := by
  refine ⟨_, fd, ["self", "parameters"], T.x_BadParameters, F.ok sc_BadParameters (fun vs H Q E h => by obtain ⟨a, y, rfl, _⟩ := h; rfl) (fun cdv A outer s H vs Q E hr h => ?_), F.bindsN fun _ _ _ _ _ _ us hl => match us, hl with | [_, _], _ => rfl, T.g_BadParameters⟩
  obtain ⟨a, y, rfl, ha, q⟩ := h
  exact ⟨_, PSs.nox (pss_one (ps_ost (pv 0) (pv 1))), _, rfl, _, rfl, a, _, rfl, T.x_BadParameters.o, T.x_BadParameters.no, .inl ⟨ha, fun dx hd hne => q dx hd hne⟩⟩
theorem sc_BadRow : FnScope ["self", "at"] ["self", "at"] (defScope s_BadRow___init__) := ⟨rfl, rfl, rfl, by decide +kernel, rfl, by decide +kernel, by decide +kernel⟩
theorem x_BadRow {fd : FuncData} (F : Df K ("BadRow", some "__init__") "__init__" "BadRow.__init__" s_BadRow___init__ [] fd) (T : Tx K mg) : CalX P w K mg base 1 "BadRow" (He.ga K "BadRow") "at" := by
  refine ⟨_, fd, ["self", "at"], T.x_BadRow, F.ok sc_BadRow (fun vs H Q E h => by obtain ⟨a, y, rfl, _⟩ := h; rfl) (fun cdv A outer s H vs Q E hr h => ?_), F.bindsN fun _ _ _ _ _ _ us hl => match us, hl with | [_, _], _ => rfl, T.g_BadRow⟩
  obtain ⟨a, y, rfl, ha, q⟩ := h
  exact ⟨_, PSs.nox (pss_one (ps_ost (pv 0) (pv 1))), _, rfl, _, rfl, a, _, rfl, T.x_BadRow.o, T.x_BadRow.no, .inl ⟨ha, fun dx hd hne => q dx hd hne⟩⟩
theorem sc_BadLine : FnScope ["self", "at"] ["self", "at"] (defScope s_BadLine___init__) := ⟨rfl, rfl, rfl, by decide +kernel, rfl, by decide +kernel, by decide +kernel⟩
theorem x_BadLine {fd : FuncData} (F : Df K ("BadLine", some "__init__") "__init__" "BadLine.__init__" s_BadLine___init__ [] fd) (T : Tx K mg) : CalX P w K mg base 1 "BadLine" (He.ga K "BadLine") "at" := by
  refine ⟨_, fd, ["self", "at"], T.x_BadLine, F.ok sc_BadLine (fun vs H Q E h => by obtain ⟨a, y, rfl, _⟩ := h; rfl) (fun cdv A outer s H vs Q E hr h => ?_), F.bindsN fun _ _ _ _ _ _ us hl => match us, hl with | [_, _], _ => rfl, T.g_BadLine⟩
  obtain ⟨a, y, rfl, ha, q⟩ := h
  exact ⟨_, PSs.nox (pss_one (ps_ost (pv 0) (pv 1))), _, rfl, _, rfl, a, _, rfl, T.x_BadLine.o, T.x_BadLine.no, .inl ⟨ha, fun dx hd hne => q dx hd hne⟩⟩
theorem sc_BadName : FnScope ["self", "name"] ["self", "name"] (defScope s_BadName___init__) := ⟨rfl, rfl, rfl, by decide +kernel, rfl, by decide +kernel, by decide +kernel⟩
theorem x_BadName {fd : FuncData} (F : Df K ("BadName", some "__init__") "__init__" "BadName.__init__" s_BadName___init__ [] fd) (T : Tx K mg) : CalX P w K mg base 1 "BadName" (He.ga K "BadName") "name" := by
  refine ⟨_, fd, ["self", "name"], T.x_BadName, F.ok sc_BadName (fun vs H Q E h => by obtain ⟨a, y, rfl, _⟩ := h; rfl) (fun cdv A outer s H vs Q E hr h => ?_), F.bindsN fun _ _ _ _ _ _ us hl => match us, hl with | [_, _], _ => rfl, T.g_BadName⟩
  obtain ⟨a, y, rfl, ha, q⟩ := h
  exact ⟨_, PSs.nox (pss_one (ps_ost (pv 0) (pv 1))), _, rfl, _, rfl, a, _, rfl, T.x_BadName.o, T.x_BadName.no, .inl ⟨ha, fun dx hd hne => q dx hd hne⟩⟩
theorem sc_NoUpdate : FnScope ["self", "name"] ["self", "name"] (defScope s_NoUpdate___init__) := ⟨rfl, rfl, rfl, by decide +kernel, rfl, by decide +kernel, by decide +kernel⟩
theorem x_NoUpdate {fd : FuncData} (F : Df K ("NoUpdate", some "__init__") "__init__" "NoUpdate.__init__" s_NoUpdate___init__ [] fd) (T : Tx K mg) : CalX P w K mg base 1 "NoUpdate" (He.ga K "NoUpdate") "name" := by
  refine ⟨_, fd, ["self", "name"], T.x_NoUpdate, F.ok sc_NoUpdate (fun vs H Q E h => by obtain ⟨a, y, rfl, _⟩ := h; rfl) (fun cdv A outer s H vs Q E hr h => ?_), F.bindsN fun _ _ _ _ _ _ us hl => match us, hl with | [_, _], _ => rfl, T.g_NoUpdate⟩
  obtain ⟨a, y, rfl, ha, q⟩ := h
  exact ⟨_, PSs.nox (pss_one (ps_ost (pv 0) (pv 1))), _, rfl, _, rfl, a, _, rfl, T.x_NoUpdate.o, T.x_NoUpdate.no, .inl ⟨ha, fun dx hd hne => q dx hd hne⟩⟩
theorem sc_BadUpdate : FnScope ["self", "name"] ["self", "name"] (defScope s_BadUpdate___init__) := ⟨rfl, rfl, rfl, by decide +kernel, rfl, by decide +kernel, by decide +kernel⟩
theorem x_BadUpdate {fd : FuncData} (F : Df K ("BadUpdate", some "__init__") "__init__" "BadUpdate.__init__" s_BadUpdate___init__ [] fd) (T : Tx K mg) : CalX P w K mg base 1 "BadUpdate" (He.ga K "BadUpdate") "name" := by
  refine ⟨_, fd, ["self", "name"], T.x_BadUpdate, F.ok sc_BadUpdate (fun vs H Q E h => by obtain ⟨a, y, rfl, _⟩ := h; rfl) (fun cdv A outer s H vs Q E hr h => ?_), F.bindsN fun _ _ _ _ _ _ us hl => match us, hl with | [_, _], _ => rfl, T.g_BadUpdate⟩
  obtain ⟨a, y, rfl, ha, q⟩ := h
  exact ⟨_, PSs.nox (pss_one (ps_ost (pv 0) (pv 1))), _, rfl, _, rfl, a, _, rfl, T.x_BadUpdate.o, T.x_BadUpdate.no, .inl ⟨ha, fun dx hd hne => q dx hd hne⟩⟩
theorem sc_TooMany : FnScope ["self", "what"] ["self", "what"] (defScope s_TooMany___init__) := ⟨rfl, rfl, rfl, by decide +kernel, rfl, by decide +kernel, by decide +kernel⟩
theorem x_TooMany {fd : FuncData} (F : Df K ("TooMany", some "__init__") "__init__" "TooMany.__init__" s_TooMany___init__ [] fd) (T : Tx K mg) : CalX P w K mg base 1 "TooMany" (He.ga K "TooMany") "what" := by
  refine ⟨_, fd, ["self", "what"], T.x_TooMany, F.ok sc_TooMany (fun vs H Q E h => by obtain ⟨a, y, rfl, _⟩ := h; rfl) (fun cdv A outer s H vs Q E hr h => ?_), F.bindsN fun _ _ _ _ _ _ us hl => match us, hl with | [_, _], _ => rfl, T.g_TooMany⟩
  obtain ⟨a, y, rfl, ha, q⟩ := h
  exact ⟨_, PSs.nox (pss_one (ps_ost (pv 0) (pv 1))), _, rfl, _, rfl, a, _, rfl, T.x_TooMany.o, T.x_TooMany.no, .inl ⟨ha, fun dx hd hne => q dx hd hne⟩⟩
theorem sc_BadMark : FnScope ["self", "mark"] ["self", "mark"] (defScope s_BadMark___init__) := ⟨rfl, rfl, rfl, by decide +kernel, rfl, by decide +kernel, by decide +kernel⟩
theorem x_BadMark {fd : FuncData} (F : Df K ("BadMark", some "__init__") "__init__" "BadMark.__init__" s_BadMark___init__ [] fd) (T : Tx K mg) : CalX P w K mg base 1 "BadMark" (He.ga K "BadMark") "mark" := by
  refine ⟨_, fd, ["self", "mark"], T.x_BadMark, F.ok sc_BadMark (fun vs H Q E h => by obtain ⟨a, y, rfl, _⟩ := h; rfl) (fun cdv A outer s H vs Q E hr h => ?_), F.bindsN fun _ _ _ _ _ _ us hl => match us, hl with | [_, _], _ => rfl, T.g_BadMark⟩
  obtain ⟨a, y, rfl, ha, q⟩ := h
  exact ⟨_, PSs.nox (pss_one (ps_ost (pv 0) (pv 1))), _, rfl, _, rfl, a, _, rfl, T.x_BadMark.o, T.x_BadMark.no, .inl ⟨ha, fun dx hd hne => q dx hd hne⟩⟩
theorem sc_BadChoice : FnScope ["self", "choice"] ["self", "choice"] (defScope s_BadChoice___init__) := ⟨rfl, rfl, rfl, by decide +kernel, rfl, by decide +kernel, by decide +kernel⟩
theorem x_BadChoice {fd : FuncData} (F : Df K ("BadChoice", some "__init__") "__init__" "BadChoice.__init__" s_BadChoice___init__ [] fd) (T : Tx K mg) : CalX P w K mg base 1 "BadChoice" (He.ga K "BadChoice") "choice" := by
  refine ⟨_, fd, ["self", "choice"], T.x_BadChoice, F.ok sc_BadChoice (fun vs H Q E h => by obtain ⟨a, y, rfl, _⟩ := h; rfl) (fun cdv A outer s H vs Q E hr h => ?_), F.bindsN fun _ _ _ _ _ _ us hl => match us, hl with | [_, _], _ => rfl, T.g_BadChoice⟩
  obtain ⟨a, y, rfl, ha, q⟩ := h
  exact ⟨_, PSs.nox (pss_one (ps_ost (pv 0) (pv 1))), _, rfl, _, rfl, a, _, rfl, T.x_BadChoice.o, T.x_BadChoice.no, .inl ⟨ha, fun dx hd hne => q dx hd hne⟩⟩
theorem sc_BadDocument : FnScope ["self", "document"] ["self", "document"] (defScope s_BadDocument___init__) := ⟨rfl, rfl, rfl, by decide +kernel, rfl, by decide +kernel, by decide +kernel⟩
theorem x_BadDocument {fd : FuncData} (F : Df K ("BadDocument", some "__init__") "__init__" "BadDocument.__init__" s_BadDocument___init__ [] fd) (T : Tx K mg) : CalX P w K mg base 1 "BadDocument" (He.ga K "BadDocument") "document" := by
  refine ⟨_, fd, ["self", "document"], T.x_BadDocument, F.ok sc_BadDocument (fun vs H Q E h => by obtain ⟨a, y, rfl, _⟩ := h; rfl) (fun cdv A outer s H vs Q E hr h => ?_), F.bindsN fun _ _ _ _ _ _ us hl => match us, hl with | [_, _], _ => rfl, T.g_BadDocument⟩
  obtain ⟨a, y, rfl, ha, q⟩ := h
  exact ⟨_, PSs.nox (pss_one (ps_ost (pv 0) (pv 1))), _, rfl, _, rfl, a, _, rfl, T.x_BadDocument.o, T.x_BadDocument.no, .inl ⟨ha, fun dx hd hne => q dx hd hne⟩⟩
theorem sc_BadKind : FnScope ["self", "kind"] ["self", "kind"] (defScope s_BadKind___init__) := ⟨rfl, rfl, rfl, by decide +kernel, rfl, by decide +kernel, by decide +kernel⟩
theorem x_BadKind {fd : FuncData} (F : Df K ("BadKind", some "__init__") "__init__" "BadKind.__init__" s_BadKind___init__ [] fd) (T : Tx K mg) : CalX P w K mg base 1 "BadKind" (He.ga K "BadKind") "kind" := by
  refine ⟨_, fd, ["self", "kind"], T.x_BadKind, F.ok sc_BadKind (fun vs H Q E h => by obtain ⟨a, y, rfl, _⟩ := h; rfl) (fun cdv A outer s H vs Q E hr h => ?_), F.bindsN fun _ _ _ _ _ _ us hl => match us, hl with | [_, _], _ => rfl, T.g_BadKind⟩
  obtain ⟨a, y, rfl, ha, q⟩ := h
  exact ⟨_, PSs.nox (pss_one (ps_ost (pv 0) (pv 1))), _, rfl, _, rfl, a, _, rfl, T.x_BadKind.o, T.x_BadKind.no, .inl ⟨ha, fun dx hd hne => q dx hd hne⟩⟩
theorem sc_BadWhen : FnScope ["self", "when"] ["self", "when"] (defScope s_BadWhen___init__) := ⟨rfl, rfl, rfl, by decide +kernel, rfl, by decide +kernel, by decide +kernel⟩
theorem x_BadWhen {fd : FuncData} (F : Df K ("BadWhen", some "__init__") "__init__" "BadWhen.__init__" s_BadWhen___init__ [] fd) (T : Tx K mg) : CalX P w K mg base 1 "BadWhen" (He.ga K "BadWhen") "when" := by
  refine ⟨_, fd, ["self", "when"], T.x_BadWhen, F.ok sc_BadWhen (fun vs H Q E h => by obtain ⟨a, y, rfl, _⟩ := h; rfl) (fun cdv A outer s H vs Q E hr h => ?_), F.bindsN fun _ _ _ _ _ _ us hl => match us, hl with | [_, _], _ => rfl, T.g_BadWhen⟩
  obtain ⟨a, y, rfl, ha, q⟩ := h
  exact ⟨_, PSs.nox (pss_one (ps_ost (pv 0) (pv 1))), _, rfl, _, rfl, a, _, rfl, T.x_BadWhen.o, T.x_BadWhen.no, .inl ⟨ha, fun dx hd hne => q dx hd hne⟩⟩
theorem sc_BadGoal : FnScope ["self", "goal"] ["self", "goal"] (defScope s_BadGoal___init__) := ⟨rfl, rfl, rfl, by decide +kernel, rfl, by decide +kernel, by decide +kernel⟩
theorem x_BadGoal {fd : FuncData} (F : Df K ("BadGoal", some "__init__") "__init__" "BadGoal.__init__" s_BadGoal___init__ [] fd) (T : Tx K mg) : CalX P w K mg base 1 "BadGoal" (He.ga K "BadGoal") "goal" := by
  refine ⟨_, fd, ["self", "goal"], T.x_BadGoal, F.ok sc_BadGoal (fun vs H Q E h => by obtain ⟨a, y, rfl, _⟩ := h; rfl) (fun cdv A outer s H vs Q E hr h => ?_), F.bindsN fun _ _ _ _ _ _ us hl => match us, hl with | [_, _], _ => rfl, T.g_BadGoal⟩
  obtain ⟨a, y, rfl, ha, q⟩ := h
  exact ⟨_, PSs.nox (pss_one (ps_ost (pv 0) (pv 1))), _, rfl, _, rfl, a, _, rfl, T.x_BadGoal.o, T.x_BadGoal.no, .inl ⟨ha, fun dx hd hne => q dx hd hne⟩⟩
theorem sc_BadDeed : FnScope ["self", "deed"] ["self", "deed"] (defScope s_BadDeed___init__) := ⟨rfl, rfl, rfl, by decide +kernel, rfl, by decide +kernel, by decide +kernel⟩
theorem x_BadDeed {fd : FuncData} (F : Df K ("BadDeed", some "__init__") "__init__" "BadDeed.__init__" s_BadDeed___init__ [] fd) (T : Tx K mg) : CalX P w K mg base 1 "BadDeed" (He.ga K "BadDeed") "deed" := by
  refine ⟨_, fd, ["self", "deed"], T.x_BadDeed, F.ok sc_BadDeed (fun vs H Q E h => by obtain ⟨a, y, rfl, _⟩ := h; rfl) (fun cdv A outer s H vs Q E hr h => ?_), F.bindsN fun _ _ _ _ _ _ us hl => match us, hl with | [_, _], _ => rfl, T.g_BadDeed⟩
  obtain ⟨a, y, rfl, ha, q⟩ := h
  exact ⟨_, PSs.nox (pss_one (ps_ost (pv 0) (pv 1))), _, rfl, _, rfl, a, _, rfl, T.x_BadDeed.o, T.x_BadDeed.no, .inl ⟨ha, fun dx hd hne => q dx hd hne⟩⟩
theorem sc_BadWorld : FnScope ["self", "form"] ["self", "form"] (defScope s_BadWorld___init__) := ⟨rfl, rfl, rfl, by decide +kernel, rfl, by decide +kernel, by decide +kernel⟩
theorem x_BadWorld {fd : FuncData} (F : Df K ("BadWorld", some "__init__") "__init__" "BadWorld.__init__" s_BadWorld___init__ [] fd) (T : Tx K mg) : CalX P w K mg base 1 "BadWorld" (He.ga K "BadWorld") "form" := by
  refine ⟨_, fd, ["self", "form"], T.x_BadWorld, F.ok sc_BadWorld (fun vs H Q E h => by obtain ⟨a, y, rfl, _⟩ := h; rfl) (fun cdv A outer s H vs Q E hr h => ?_), F.bindsN fun _ _ _ _ _ _ us hl => match us, hl with | [_, _], _ => rfl, T.g_BadWorld⟩
  obtain ⟨a, y, rfl, ha, q⟩ := h
  exact ⟨_, PSs.nox (pss_one (ps_ost (pv 0) (pv 1))), _, rfl, _, rfl, a, _, rfl, T.x_BadWorld.o, T.x_BadWorld.no, .inl ⟨ha, fun dx hd hne => q dx hd hne⟩⟩
theorem sc_BadLabel : FnScope ["self", "label"] ["self", "label"] (defScope s_BadLabel___init__) := ⟨rfl, rfl, rfl, by decide +kernel, rfl, by decide +kernel, by decide +kernel⟩
theorem x_BadLabel {fd : FuncData} (F : Df K ("BadLabel", some "__init__") "__init__" "BadLabel.__init__" s_BadLabel___init__ [] fd) (T : Tx K mg) : CalX P w K mg base 1 "BadLabel" (He.ga K "BadLabel") "label" := by
  refine ⟨_, fd, ["self", "label"], T.x_BadLabel, F.ok sc_BadLabel (fun vs H Q E h => by obtain ⟨a, y, rfl, _⟩ := h; rfl) (fun cdv A outer s H vs Q E hr h => ?_), F.bindsN fun _ _ _ _ _ _ us hl => match us, hl with | [_, _], _ => rfl, T.g_BadLabel⟩
  obtain ⟨a, y, rfl, ha, q⟩ := h
  exact ⟨_, PSs.nox (pss_one (ps_ost (pv 0) (pv 1))), _, rfl, _, rfl, a, _, rfl, T.x_BadLabel.o, T.x_BadLabel.no, .inl ⟨ha, fun dx hd hne => q dx hd hne⟩⟩
theorem sc_UnlikeFaces : FnScope ["self", "name"] ["self", "name"] (defScope s_UnlikeFaces___init__) := ⟨rfl, rfl, rfl, by decide +kernel, rfl, by decide +kernel, by decide +kernel⟩
theorem x_UnlikeFaces {fd : FuncData} (F : Df K ("UnlikeFaces", some "__init__") "__init__" "UnlikeFaces.__init__" s_UnlikeFaces___init__ [] fd) (T : Tx K mg) : CalX P w K mg base 1 "UnlikeFaces" (He.ga K "UnlikeFaces") "name" := by
  refine ⟨_, fd, ["self", "name"], T.x_UnlikeFaces, F.ok sc_UnlikeFaces (fun vs H Q E h => by obtain ⟨a, y, rfl, _⟩ := h; rfl) (fun cdv A outer s H vs Q E hr h => ?_), F.bindsN fun _ _ _ _ _ _ us hl => match us, hl with | [_, _], _ => rfl, T.g_UnlikeFaces⟩
  obtain ⟨a, y, rfl, ha, q⟩ := h
  exact ⟨_, PSs.nox (pss_one (ps_ost (pv 0) (pv 1))), _, rfl, _, rfl, a, _, rfl, T.x_UnlikeFaces.o, T.x_UnlikeFaces.no, .inl ⟨ha, fun dx hd hne => q dx hd hne⟩⟩
end
end Lx

namespace Lx
open PySem PySem.Spec PyProof.Rows L2 Ub Ur Ug Ue
def csA : List (Str × Str) := [("BadShape", "text"), ("BadPath", "path"), ("BadValues", "given"), ("BadValue", "value"), ("BadParameters", "parameters"), ("BadRow", "at"), ("BadLine", "at"), ("BadName", "name"), ("NoUpdate", "name"), ("BadUpdate", "name"), ("TooMany", "what")]
def csB : List (Str × Str) := [("BadMark", "mark"), ("BadChoice", "choice"), ("BadDocument", "document"), ("BadKind", "kind"), ("BadWhen", "when"), ("BadGoal", "goal"), ("BadDeed", "deed"), ("BadWorld", "form"), ("BadLabel", "label"), ("UnlikeFaces", "name")]
def nms : List Str := ["BadShape", "BadPath", "BadValues", "BadValue", "BadParameters", "BadRow", "BadLine", "BadName", "NoUpdate", "BadUpdate", "TooMany", "BadMark", "BadChoice", "BadDocument", "BadKind", "BadWhen", "BadGoal", "BadDeed", "BadWorld", "BadLabel", "UnlikeFaces"]
/-- at a: an error of the class x with the field f, v -/
def ExA (K : PySem.W.Frag) (H : Hp) (a : Addr) (c : Str × Str) (v : V) : Prop := ∃ d, H a = some (exo a (He.ga K c.1) (some d)) ∧ H d = some (exd d [(c.2, v)])
def PaA (K : PySem.W.Frag) (H : Hp) (v : V) (q : V) (c : Str × Str) : Prop := ∃ t a, q = .ref t ∧ H t = some (.tup [.ref a, v]) ∧ ExA K H a c v
theorem ExA.keep {K : PySem.W.Frag} {H H' : Hp} {a : Addr} {c : Str × Str} {v : V} {r : Addr} {xs : List V} (h : ExA K H a c v) (hr : H r = some (.lst xs)) (k : ∀ b o, H b = some o → b ≠ r → H' b = some o) : ExA K H' a c v := by
  obtain ⟨d, h1, h2⟩ := h
  refine ⟨d, k _ _ h1 fun z => ?_, k _ _ h2 fun z => ?_⟩
  · rw [z, hr] at h1
    have z' : HO.lst xs = HO.ext _ := Option.some.inj h1
    cases z'
  · rw [z, hr] at h2
    have z' : HO.lst xs = HO.ext _ := Option.some.inj h2
    cases z'
theorem ExA.same {K : PySem.W.Frag} {H H' : Hp} {a : Addr} {c : Str × Str} {v : V} (h : ExA K H a c v) (s : Same H H') : ExA K H' a c v := by
  obtain ⟨d, h1, h2⟩ := h
  exact ⟨d, s _ _ h1, s _ _ h2⟩
theorem PaA.keep {K : PySem.W.Frag} {H H' : Hp} {q v : V} {c : Str × Str} {r : Addr} {xs : List V} (h : PaA K H v q c) (hr : H r = some (.lst xs)) (k : ∀ b o, H b = some o → b ≠ r → H' b = some o) : PaA K H' v q c := by
  obtain ⟨t, a, e, h1, h2⟩ := h
  refine ⟨t, a, e, k _ _ h1 fun z => ?_, h2.keep hr k⟩
  rw [z, hr] at h1
  have z' : HO.lst xs = HO.tup _ := Option.some.inj h1
  cases z'
theorem PaA.same {K : PySem.W.Frag} {H H' : Hp} {q v : V} {c : Str × Str} (h : PaA K H v q c) (s : Same H H') : PaA K H' v q c := by
  obtain ⟨t, a, e, h1, h2⟩ := h
  exact ⟨t, a, e, s _ _ h1, h2.same s⟩
/-- pairs one by one -/
inductive PaL (K : PySem.W.Frag) (H : Hp) (v : V) : List V → List (Str × Str) → Prop
  | nil : PaL K H v [] []
  | cons {q : V} {c : Str × Str} {qs : List V} {cs : List (Str × Str)} : PaA K H v q c → PaL K H v qs cs → PaL K H v (q :: qs) (c :: cs)
section
variable {K : PySem.W.Frag} {H H' : Hp} {v : V}
theorem PaL.same (s : Same H H') : ∀ {qs : List V} {cs : List (Str × Str)}, PaL K H v qs cs → PaL K H' v qs cs
  | _, _, .nil => .nil
  | _, _, .cons h r => .cons (h.same s) (PaL.same s r)
theorem PaL.keep {r : Addr} {xs : List V} (hr : H r = some (.lst xs)) (k : ∀ b o, H b = some o → b ≠ r → H' b = some o) : ∀ {qs : List V} {cs : List (Str × Str)}, PaL K H v qs cs → PaL K H' v qs cs
  | _, _, .nil => .nil
  | _, _, .cons h t => .cons (h.keep hr k) (PaL.keep hr k t)
theorem PaL.app : ∀ {qs ps : List V} {cs ds : List (Str × Str)}, PaL K H v qs cs → PaL K H v ps ds → PaL K H v (qs ++ ps) (cs ++ ds)
  | _, _, _, _, .nil, h => h
  | _, _, _, _, .cons a r, h => .cons a (PaL.app r h)
theorem PaL.len : ∀ {qs : List V} {cs : List (Str × Str)}, PaL K H v qs cs → qs.length = cs.length
  | _, _, .nil => rfl
  | _, _, .cons _ r => congrArg Nat.succ (PaL.len r)
theorem PaL.get : ∀ {qs : List V} {cs : List (Str × Str)}, PaL K H v qs cs → ∀ {i : Nat} {q : V}, qs[i]? = some q → ∃ c, cs[i]? = some c ∧ PaA K H v q c
  | _, _, .nil, i, q, h => by simp at h
  | _, _, .cons a r, 0, q, h => by
    cases h
    exact ⟨_, rfl, a⟩
  | _, _, .cons a r, i + 1, q, h => PaL.get r h
end
def sp_errs (K : PySem.W.Frag) (cs : List (Str × Str)) : Sp := fun vs H Q _ => ∃ v, vs = [v] ∧ ∀ p qs H', H p = none → Same H H' → H' p = some (.lst qs) → PaL K H' v qs cs → Q (.ref p) H'
def sp_kinds (K : PySem.W.Frag) : Sp := fun vs H Q _ => ∃ a c v, vs = [.ref a] ∧ c.1 ∈ nms ∧ ExA K H a c v ∧ ExcC K (He.ga K c.1) ∧ ∀ p H', H p = none → Same H H' → H' p = some (.lst (nms.map fun y => V.bl (decide (c.1 = y)))) → Q (.ref p) H'
def sp_number : Sp := fun vs H Q _ => ∃ st g l, vs = [.ref st] ∧ StAt H st g l ∧ ∀ i H', i.natAbs ≤ 1000000000000000000000000000000 → StAt H' st g l → Kp st g l H H' → Q (.int i) H'
/-- one written pair (e, e.f) -/
theorem pair_step {K : PySem.W.Frag} {i : Nat} {c : Str × Str} {rest : TA} {σ : L2.St} {H : Hp} {Q : List V → Hp → Prop} {a : Addr} {v : V} (hi : σ[i]? = some (some (.ref a))) (x : XfC K (He.ga K c.1)) (no : PySem.W.findIn K (.ref (He.ga K c.1)) c.2 = some none) (e : ExA K H a c v)
    (h : ∀ q H', Same H H' → PaA K H' v q c → rest σ H' fun xs H2 => Q (q :: xs) H2) : tCons (tTup (tCons (tVar i) (tCons (tExf K c.2 (tVar i)) tNil))) rest σ H Q := by
  obtain ⟨d, h1, h2⟩ := id e
  refine ⟨_, hi, _, hi, a, _, d, _, v, rfl, h1, h2, x, no, ?_, (by show 2 ≤ sizeLine; decide), fun t nt => ?_⟩
  · simp [List.lookup]
  · have s := same_upd (o := .tup [.ref a, v]) nt
    exact h _ _ s ⟨t, a, rfl, upd_same, e.same s⟩
section
variable {P : Program} {w : World} {K : PySem.W.Frag} {mg : Str → Option Value} {base : Heap}
theorem sc_law_number : FnScope ["_law_state", "_law_way"] ["_law_state"] (defScope s_law_number) := ⟨rfl, rfl, rfl, by decide +kernel, rfl, by decide +kernel, by decide +kernel⟩
theorem ok_law_number {f : Addr} {fd : FuncData} (F : FunD K "_law_number" "_law_number" (defArgs s_law_number) (defBody s_law_number) (defScope s_law_number) [] [] f fd) (T : Tx K mg) (c_law_draw : Cal P w K mg base 1 "_law_draw" ["_law_state", "_law_many"] sp_draw) : FnOk P w K mg base CX0 2 f fd ["_law_state"] sp_number := by
  refine F.ok sc_law_number (fun vs H Q E h => ?_) (fun cdv A outer s H vs Q E hr h => ?_)
  · obtain ⟨st, g, l, rfl, _⟩ := h
    rfl
  obtain ⟨st, g, l, rfl, S, q⟩ := h
  refine ⟨_, PSs.nox (pss_cons (ps_set (i := 1) sc_law_number.nd rfl (by first | exact Or.inl rfl | exact Or.inr rfl) (pe_cal c_law_draw (hr.mono (by omega)) (by rfl) (pa_cons (pv 0) (pa_cons pe_int pa_nil))))
      (pss_cons (ps_if (pt_cmpR op_lt (pv 1) pe_int (nomark _))
        (pss_one (ps_ret (pe_cal c_law_draw (hr.mono (by omega)) (by rfl) (pa_cons (pv 0) (pa_cons pe_int pa_nil)))))
        pss_nil)
      (pss_cons (ps_if (pt_cmpR op_eq (pv 1) pe_int (nomark _))
        (pss_one (ps_ret (pe_un un_neg (pe_cal c_law_draw (hr.mono (by omega)) (by rfl) (pa_cons (pv 0) (pa_cons (pe_op op_pow pe_int pe_int) pa_nil))))))
        pss_nil)
      (pss_one (ps_ret (pe_op op_sub (pe_op op_sub (pe_op op_pow pe_int pe_int) pe_int) (pe_cal c_law_draw (hr.mono (by omega)) (by rfl) (pa_cons (pv 0) (pa_cons (pe_op op_pow pe_int pe_int) pa_nil))))))))), ?_⟩
  refine ⟨_, rfl, st, g, l, 4, rfl, by decide, by decide, S, fun d H1 d0 d4 S1 k1 => ?_⟩
  refine ⟨_, rfl, d, 2, rfl, rfl, _, rfl, ?_⟩
  refine iteE rfl (fun e => ?_) fun e => ?_
  · refine ⟨_, rfl, st, g, l, 3, rfl, by decide, by decide, S1, fun y H2 y0 y3 S2 k2 => ?_⟩
    exact q y H2 (by omega) S2 (k1.trans k2)
  refine ⟨_, rfl, rfl, _, rfl, ?_⟩
  refine iteE (dI _ _) (fun e => ?_) fun e => ?_
  · refine ⟨_, rfl, 10, 30, rfl, rfl, ⟨by decide, by decide, by decide⟩, st, g, l, 1000000000000000000000000000000, rfl, by decide, by decide, S1, fun y H2 y0 y3 S2 k2 => ?_⟩
    exact ⟨y, rfl, q (-y) H2 (by omega) S2 (k1.trans k2)⟩
  · refine ⟨10, 30, rfl, rfl, ⟨by decide, by decide, by decide⟩, _, _, rfl, rfl, _, rfl, 10, 30, rfl, rfl, ⟨by decide, by decide, by decide⟩, st, g, l, 1000000000000000000000000000000, rfl, by decide, by decide, S1, fun y H2 y0 y3 S2 k2 => ?_⟩
    refine ⟨_, _, rfl, rfl, ?_⟩
    have z := q (1000000000000000000000000000000 - 1 - y) H2 (by omega) S2 (k1.trans k2)
    exact z
end
end Lx

namespace Lx
open PySem PySem.Spec PyProof.Rows L2 Ub Ur Ug Ue
section
variable {P : Program} {w : World} {K : PySem.W.Frag} {mg : Str → Option Value} {base : Heap}
theorem sc_law_first : FnScope ["_law_value", "_law_one", "_law_two", "_law_three", "_law_four", "_law_five", "_law_six", "_law_seven", "_law_eight", "_law_nine", "_law_ten", "_law_eleven", "_law_told"] ["_law_value"] (defScope s_law_first) := ⟨rfl, rfl, rfl, by decide +kernel, rfl, by decide +kernel, by decide +kernel⟩
theorem ok_law_first {f : Addr} {fd : FuncData} (F : FunD K "_law_first" "_law_first" (defArgs s_law_first) (defBody s_law_first) (defScope s_law_first) [] [] f fd) (T : Tx K mg) (x_BadShape : CalX P w K mg base 1 "BadShape" (He.ga K "BadShape") "text") (x_BadPath : CalX P w K mg base 1 "BadPath" (He.ga K "BadPath") "path") (x_BadValues : CalX P w K mg base 1 "BadValues" (He.ga K "BadValues") "given") (x_BadValue : CalX P w K mg base 1 "BadValue" (He.ga K "BadValue") "value") (x_BadParameters : CalX P w K mg base 1 "BadParameters" (He.ga K "BadParameters") "parameters") (x_BadRow : CalX P w K mg base 1 "BadRow" (He.ga K "BadRow") "at") (x_BadLine : CalX P w K mg base 1 "BadLine" (He.ga K "BadLine") "at") (x_BadName : CalX P w K mg base 1 "BadName" (He.ga K "BadName") "name") (x_NoUpdate : CalX P w K mg base 1 "NoUpdate" (He.ga K "NoUpdate") "name") (x_BadUpdate : CalX P w K mg base 1 "BadUpdate" (He.ga K "BadUpdate") "name") (x_TooMany : CalX P w K mg base 1 "TooMany" (He.ga K "TooMany") "what") : FnOk P w K mg base CX0 3 f fd ["_law_value"] (sp_errs K csA) := by
  refine F.ok sc_law_first (fun vs H Q E h => ?_) (fun cdv A outer s H vs Q E hr h => ?_)
  · obtain ⟨v, rfl, _⟩ := h
    rfl
  obtain ⟨v, rfl, q⟩ := h
  refine ⟨_, PSs.nox (pss_cons (ps_par3 (i := 1) (j := 2) (l := 3) (by rfl) sc_law_first.nd rfl rfl rfl (by decide) (by decide) (by decide) rfl rfl rfl (pa_cons (pe_mkX x_BadShape (hr.mono (by omega)) (by rfl) (pv 0)) (pa_cons (pe_mkX x_BadPath (hr.mono (by omega)) (by rfl) (pv 0)) (pa_cons (pe_mkX x_BadValues (hr.mono (by omega)) (by rfl) (pv 0)) pa_nil))) (by rfl))
      (pss_cons (ps_par3 (i := 4) (j := 5) (l := 6) (by rfl) sc_law_first.nd rfl rfl rfl (by decide) (by decide) (by decide) rfl rfl rfl (pa_cons (pe_mkX x_BadValue (hr.mono (by omega)) (by rfl) (pv 0)) (pa_cons (pe_mkX x_BadParameters (hr.mono (by omega)) (by rfl) (pv 0)) (pa_cons (pe_mkX x_BadRow (hr.mono (by omega)) (by rfl) (pv 0)) pa_nil))) (by rfl))
      (pss_cons (ps_par3 (i := 7) (j := 8) (l := 9) (by rfl) sc_law_first.nd rfl rfl rfl (by decide) (by decide) (by decide) rfl rfl rfl (pa_cons (pe_mkX x_BadLine (hr.mono (by omega)) (by rfl) (pv 0)) (pa_cons (pe_mkX x_BadName (hr.mono (by omega)) (by rfl) (pv 0)) (pa_cons (pe_mkX x_NoUpdate (hr.mono (by omega)) (by rfl) (pv 0)) pa_nil))) (by rfl))
      (pss_cons (ps_par (i := 10) (j := 11) (by rfl) sc_law_first.nd rfl rfl (by decide) rfl rfl (pa_cons (pe_mkX x_BadUpdate (hr.mono (by omega)) (by rfl) (pv 0)) (pa_cons (pe_mkX x_TooMany (hr.mono (by omega)) (by rfl) (pv 0)) pa_nil)) (by rfl))
      (pss_cons (ps_set (i := 12) sc_law_first.nd rfl (by first | exact Or.inl rfl | exact Or.inr rfl) (pe_lst (pa_cons (pe_tup (pa_cons (pv 1) (pa_cons (pe_exf (pv 1)) pa_nil))) (pa_cons (pe_tup (pa_cons (pv 2) (pa_cons (pe_exf (pv 2)) pa_nil))) (pa_cons (pe_tup (pa_cons (pv 3) (pa_cons (pe_exf (pv 3)) pa_nil))) pa_nil)))))
      (pss_cons (ps_expr (pe_bm PySem.F.plainAttrs_list PySem.F.slot_list_extend PySem.F.type_list_extend mt_extend (pv 12) (pa_cons (pe_lst (pa_cons (pe_tup (pa_cons (pv 4) (pa_cons (pe_exf (pv 4)) pa_nil))) (pa_cons (pe_tup (pa_cons (pv 5) (pa_cons (pe_exf (pv 5)) pa_nil))) (pa_cons (pe_tup (pa_cons (pv 6) (pa_cons (pe_exf (pv 6)) pa_nil))) pa_nil)))) pa_nil)))
      (pss_cons (ps_expr (pe_bm PySem.F.plainAttrs_list PySem.F.slot_list_extend PySem.F.type_list_extend mt_extend (pv 12) (pa_cons (pe_lst (pa_cons (pe_tup (pa_cons (pv 7) (pa_cons (pe_exf (pv 7)) pa_nil))) (pa_cons (pe_tup (pa_cons (pv 8) (pa_cons (pe_exf (pv 8)) pa_nil))) (pa_cons (pe_tup (pa_cons (pv 9) (pa_cons (pe_exf (pv 9)) pa_nil))) pa_nil)))) pa_nil)))
      (pss_one (ps_ret (pe_op op_cat (pv 12) (pe_lst (pa_cons (pe_tup (pa_cons (pv 10) (pa_cons (pe_exf (pv 10)) pa_nil))) (pa_cons (pe_tup (pa_cons (pv 11) (pa_cons (pe_exf (pv 11)) pa_nil))) pa_nil))))))))))))), ?_⟩
  refine ⟨_, rfl, fun a1 d1 H1 s1 n1 m1 e1 g1 => ⟨_, rfl, fun a2 d2 H2 s2 n2 m2 e2 g2 => ⟨_, rfl, fun a3 d3 H3 s3 n3 m3 e3 g3 => ⟨_, _, _, rfl, ?_⟩⟩⟩⟩
  refine ⟨_, rfl, fun a4 d4 H4 s4 n4 m4 e4 g4 => ⟨_, rfl, fun a5 d5 H5 s5 n5 m5 e5 g5 => ⟨_, rfl, fun a6 d6 H6 s6 n6 m6 e6 g6 => ⟨_, _, _, rfl, ?_⟩⟩⟩⟩
  refine ⟨_, rfl, fun a7 d7 H7 s7 n7 m7 e7 g7 => ⟨_, rfl, fun a8 d8 H8 s8 n8 m8 e8 g8 => ⟨_, rfl, fun a9 d9 H9 s9 n9 m9 e9 g9 => ⟨_, _, _, rfl, ?_⟩⟩⟩⟩
  refine ⟨_, rfl, fun a10 d10 H10 s10 n10 m10 e10 g10 => ⟨_, rfl, fun a11 d11 H11 s11 n11 m11 e11 g11 => ⟨_, _, rfl, ?_⟩⟩⟩
  have sm : Same H H11 := (s1.trans (s2.trans (s3.trans (s4.trans (s5.trans (s6.trans (s7.trans (s8.trans (s9.trans (s10.trans s11))))))))))
  have x1 : ExA K H11 a1 ("BadShape", "text") v := ExA.same (c := ("BadShape", "text")) ⟨d1, e1, g1⟩ (s2.trans (s3.trans (s4.trans (s5.trans (s6.trans (s7.trans (s8.trans (s9.trans (s10.trans s11)))))))))
  have x2 : ExA K H11 a2 ("BadPath", "path") v := ExA.same (c := ("BadPath", "path")) ⟨d2, e2, g2⟩ (s3.trans (s4.trans (s5.trans (s6.trans (s7.trans (s8.trans (s9.trans (s10.trans s11))))))))
  have x3 : ExA K H11 a3 ("BadValues", "given") v := ExA.same (c := ("BadValues", "given")) ⟨d3, e3, g3⟩ (s4.trans (s5.trans (s6.trans (s7.trans (s8.trans (s9.trans (s10.trans s11)))))))
  have x4 : ExA K H11 a4 ("BadValue", "value") v := ExA.same (c := ("BadValue", "value")) ⟨d4, e4, g4⟩ (s5.trans (s6.trans (s7.trans (s8.trans (s9.trans (s10.trans s11))))))
  have x5 : ExA K H11 a5 ("BadParameters", "parameters") v := ExA.same (c := ("BadParameters", "parameters")) ⟨d5, e5, g5⟩ (s6.trans (s7.trans (s8.trans (s9.trans (s10.trans s11)))))
  have x6 : ExA K H11 a6 ("BadRow", "at") v := ExA.same (c := ("BadRow", "at")) ⟨d6, e6, g6⟩ (s7.trans (s8.trans (s9.trans (s10.trans s11))))
  have x7 : ExA K H11 a7 ("BadLine", "at") v := ExA.same (c := ("BadLine", "at")) ⟨d7, e7, g7⟩ (s8.trans (s9.trans (s10.trans s11)))
  have x8 : ExA K H11 a8 ("BadName", "name") v := ExA.same (c := ("BadName", "name")) ⟨d8, e8, g8⟩ (s9.trans (s10.trans s11))
  have x9 : ExA K H11 a9 ("NoUpdate", "name") v := ExA.same (c := ("NoUpdate", "name")) ⟨d9, e9, g9⟩ (s10.trans s11)
  have x10 : ExA K H11 a10 ("BadUpdate", "name") v := ExA.same (c := ("BadUpdate", "name")) ⟨d10, e10, g10⟩ s11
  have x11 : ExA K H11 a11 ("TooMany", "what") v := ⟨d11, e11, g11⟩
  obtain ⟨d1, h1, j1⟩ := id x1
  refine ⟨_, rfl, _, rfl, a1, _, d1, _, v, rfl, h1, j1, T.x_BadShape.x, T.x_BadShape.no, (by simp [List.lookup]), (by show 2 ≤ sizeLine; decide), fun p1 np1 => ?_⟩
  generalize eG1 : upd H11 p1 (.tup [.ref a1, v]) = G1
  have t1 : Same H11 G1 := by rw [← eG1]; exact same_upd np1
  have b1 : PaA K G1 v (.ref p1) ("BadShape", "text") := ⟨p1, a1, rfl, by rw [← eG1]; exact upd_same, x1.same t1⟩
  replace x2 := x2.same t1
  replace x3 := x3.same t1
  replace x4 := x4.same t1
  replace x5 := x5.same t1
  replace x6 := x6.same t1
  replace x7 := x7.same t1
  replace x8 := x8.same t1
  replace x9 := x9.same t1
  replace x10 := x10.same t1
  replace x11 := x11.same t1
  obtain ⟨d2, h2, j2⟩ := id x2
  refine ⟨_, rfl, _, rfl, a2, _, d2, _, v, rfl, h2, j2, T.x_BadPath.x, T.x_BadPath.no, (by simp [List.lookup]), (by show 2 ≤ sizeLine; decide), fun p2 np2 => ?_⟩
  generalize eG2 : upd G1 p2 (.tup [.ref a2, v]) = G2
  have t2 : Same G1 G2 := by rw [← eG2]; exact same_upd np2
  have b2 : PaA K G2 v (.ref p2) ("BadPath", "path") := ⟨p2, a2, rfl, by rw [← eG2]; exact upd_same, x2.same t2⟩
  replace x3 := x3.same t2
  replace x4 := x4.same t2
  replace x5 := x5.same t2
  replace x6 := x6.same t2
  replace x7 := x7.same t2
  replace x8 := x8.same t2
  replace x9 := x9.same t2
  replace x10 := x10.same t2
  replace x11 := x11.same t2
  obtain ⟨d3, h3, j3⟩ := id x3
  refine ⟨_, rfl, _, rfl, a3, _, d3, _, v, rfl, h3, j3, T.x_BadValues.x, T.x_BadValues.no, (by simp [List.lookup]), (by show 2 ≤ sizeLine; decide), fun p3 np3 => ?_⟩
  generalize eG3 : upd G2 p3 (.tup [.ref a3, v]) = G3
  have t3 : Same G2 G3 := by rw [← eG3]; exact same_upd np3
  have b3 : PaA K G3 v (.ref p3) ("BadValues", "given") := ⟨p3, a3, rfl, by rw [← eG3]; exact upd_same, x3.same t3⟩
  replace x4 := x4.same t3
  replace x5 := x5.same t3
  replace x6 := x6.same t3
  replace x7 := x7.same t3
  replace x8 := x8.same t3
  replace x9 := x9.same t3
  replace x10 := x10.same t3
  replace x11 := x11.same t3
  refine ⟨(by show 3 ≤ sizeLine; decide), fun r nr => ?_⟩
  generalize eJ0 : upd G3 r (.lst [.ref p1, .ref p2, .ref p3]) = J0
  have u0 : Same G3 J0 := by rw [← eJ0]; exact same_upd nr
  have R0 : J0 r = some (.lst [.ref p1, .ref p2, .ref p3]) := by rw [← eJ0]; exact upd_same
  have y0 : Same H11 J0 := t1.trans (t2.trans (t3.trans u0))
  have P0 : PaL K J0 v [.ref p1, .ref p2, .ref p3] [("BadShape", "text"), ("BadPath", "path"), ("BadValues", "given")] := .cons (b1.same (t2.trans (t3.trans u0))) (.cons (b2.same (t3.trans u0)) (.cons (b3.same u0) .nil))
  have fr : H r = none := sm.free (t1.free (t2.free (t3.free nr)))
  have sm0 : Same H J0 := sm.trans y0
  replace x4 := x4.same u0
  replace x5 := x5.same u0
  replace x6 := x6.same u0
  replace x7 := x7.same u0
  replace x8 := x8.same u0
  replace x9 := x9.same u0
  replace x10 := x10.same u0
  replace x11 := x11.same u0
  refine ⟨_, rfl, .inl ⟨rfl, _, .inl (.inl R0)⟩, ?_⟩
  obtain ⟨d4, h4, j4⟩ := id x4
  refine ⟨_, rfl, _, rfl, a4, _, d4, _, v, rfl, h4, j4, T.x_BadValue.x, T.x_BadValue.no, (by simp [List.lookup]), (by show 2 ≤ sizeLine; decide), fun p4 np4 => ?_⟩
  generalize eG4 : upd J0 p4 (.tup [.ref a4, v]) = G4
  have t4 : Same J0 G4 := by rw [← eG4]; exact same_upd np4
  have b4 : PaA K G4 v (.ref p4) ("BadValue", "value") := ⟨p4, a4, rfl, by rw [← eG4]; exact upd_same, x4.same t4⟩
  replace x5 := x5.same t4
  replace x6 := x6.same t4
  replace x7 := x7.same t4
  replace x8 := x8.same t4
  replace x9 := x9.same t4
  replace x10 := x10.same t4
  replace x11 := x11.same t4
  obtain ⟨d5, h5, j5⟩ := id x5
  refine ⟨_, rfl, _, rfl, a5, _, d5, _, v, rfl, h5, j5, T.x_BadParameters.x, T.x_BadParameters.no, (by simp [List.lookup]), (by show 2 ≤ sizeLine; decide), fun p5 np5 => ?_⟩
  generalize eG5 : upd G4 p5 (.tup [.ref a5, v]) = G5
  have t5 : Same G4 G5 := by rw [← eG5]; exact same_upd np5
  have b5 : PaA K G5 v (.ref p5) ("BadParameters", "parameters") := ⟨p5, a5, rfl, by rw [← eG5]; exact upd_same, x5.same t5⟩
  replace x6 := x6.same t5
  replace x7 := x7.same t5
  replace x8 := x8.same t5
  replace x9 := x9.same t5
  replace x10 := x10.same t5
  replace x11 := x11.same t5
  obtain ⟨d6, h6, j6⟩ := id x6
  refine ⟨_, rfl, _, rfl, a6, _, d6, _, v, rfl, h6, j6, T.x_BadRow.x, T.x_BadRow.no, (by simp [List.lookup]), (by show 2 ≤ sizeLine; decide), fun p6 np6 => ?_⟩
  generalize eG6 : upd G5 p6 (.tup [.ref a6, v]) = G6
  have t6 : Same G5 G6 := by rw [← eG6]; exact same_upd np6
  have b6 : PaA K G6 v (.ref p6) ("BadRow", "at") := ⟨p6, a6, rfl, by rw [← eG6]; exact upd_same, x6.same t6⟩
  replace x7 := x7.same t6
  replace x8 := x8.same t6
  replace x9 := x9.same t6
  replace x10 := x10.same t6
  replace x11 := x11.same t6
  refine ⟨(by show 3 ≤ sizeLine; decide), fun w1 nw => ?_⟩
  have uw := same_upd (o := .lst [.ref p4, .ref p5, .ref p6]) nw
  have ya : Same J0 _ := t4.trans (t5.trans (t6.trans uw))
  refine ⟨r, w1, _, _, rfl, rfl, ya _ _ R0, upd_same, (by show 6 ≤ sizeLine; decide), ?_⟩
  generalize eJ1 : upd (upd G6 w1 (.lst [.ref p4, .ref p5, .ref p6])) r (.lst ([.ref p1, .ref p2, .ref p3] ++ [.ref p4, .ref p5, .ref p6])) = J1
  have k1 : ∀ b o, J0 b = some o → b ≠ r → J1 b = some o := fun b o h z => by rw [← eJ1, upd_ne z]; exact ya _ _ h
  have kw : ∀ b o, (upd G6 w1 (.lst [.ref p4, .ref p5, .ref p6])) b = some o → b ≠ r → J1 b = some o := fun b o h z => by rw [← eJ1, upd_ne z]; exact h
  have R1 : J1 r = some (.lst [.ref p1, .ref p2, .ref p3, .ref p4, .ref p5, .ref p6]) := by rw [← eJ1]; exact upd_same
  have P1 : PaL K J1 v [.ref p1, .ref p2, .ref p3, .ref p4, .ref p5, .ref p6] [("BadShape", "text"), ("BadPath", "path"), ("BadValues", "given"), ("BadValue", "value"), ("BadParameters", "parameters"), ("BadRow", "at")] := (P0.keep R0 k1).app (.cons ((b4.same (t5.trans (t6.trans uw))).keep (ya _ _ R0) kw) (.cons ((b5.same (t6.trans uw)).keep (ya _ _ R0) kw) (.cons ((b6.same uw).keep (ya _ _ R0) kw) .nil)))
  have sm1 : Same H J1 := fun b o h => k1 _ _ (sm0 b o h) (ne_of_none h fr)
  replace x7 := (x7.same uw).keep (ya _ _ R0) kw
  replace x8 := (x8.same uw).keep (ya _ _ R0) kw
  replace x9 := (x9.same uw).keep (ya _ _ R0) kw
  replace x10 := (x10.same uw).keep (ya _ _ R0) kw
  replace x11 := (x11.same uw).keep (ya _ _ R0) kw
  refine ⟨_, rfl, .inl ⟨rfl, _, .inl (.inl R1)⟩, ?_⟩
  obtain ⟨d7, h7, j7⟩ := id x7
  refine ⟨_, rfl, _, rfl, a7, _, d7, _, v, rfl, h7, j7, T.x_BadLine.x, T.x_BadLine.no, (by simp [List.lookup]), (by show 2 ≤ sizeLine; decide), fun p7 np7 => ?_⟩
  generalize eG7 : upd J1 p7 (.tup [.ref a7, v]) = G7
  have t7 : Same J1 G7 := by rw [← eG7]; exact same_upd np7
  have b7 : PaA K G7 v (.ref p7) ("BadLine", "at") := ⟨p7, a7, rfl, by rw [← eG7]; exact upd_same, x7.same t7⟩
  replace x8 := x8.same t7
  replace x9 := x9.same t7
  replace x10 := x10.same t7
  replace x11 := x11.same t7
  obtain ⟨d8, h8, j8⟩ := id x8
  refine ⟨_, rfl, _, rfl, a8, _, d8, _, v, rfl, h8, j8, T.x_BadName.x, T.x_BadName.no, (by simp [List.lookup]), (by show 2 ≤ sizeLine; decide), fun p8 np8 => ?_⟩
  generalize eG8 : upd G7 p8 (.tup [.ref a8, v]) = G8
  have t8 : Same G7 G8 := by rw [← eG8]; exact same_upd np8
  have b8 : PaA K G8 v (.ref p8) ("BadName", "name") := ⟨p8, a8, rfl, by rw [← eG8]; exact upd_same, x8.same t8⟩
  replace x9 := x9.same t8
  replace x10 := x10.same t8
  replace x11 := x11.same t8
  obtain ⟨d9, h9, j9⟩ := id x9
  refine ⟨_, rfl, _, rfl, a9, _, d9, _, v, rfl, h9, j9, T.x_NoUpdate.x, T.x_NoUpdate.no, (by simp [List.lookup]), (by show 2 ≤ sizeLine; decide), fun p9 np9 => ?_⟩
  generalize eG9 : upd G8 p9 (.tup [.ref a9, v]) = G9
  have t9 : Same G8 G9 := by rw [← eG9]; exact same_upd np9
  have b9 : PaA K G9 v (.ref p9) ("NoUpdate", "name") := ⟨p9, a9, rfl, by rw [← eG9]; exact upd_same, x9.same t9⟩
  replace x10 := x10.same t9
  replace x11 := x11.same t9
  refine ⟨(by show 3 ≤ sizeLine; decide), fun w2 nw => ?_⟩
  have uw := same_upd (o := .lst [.ref p7, .ref p8, .ref p9]) nw
  have ya : Same J1 _ := t7.trans (t8.trans (t9.trans uw))
  refine ⟨r, w2, _, _, rfl, rfl, ya _ _ R1, upd_same, (by show 9 ≤ sizeLine; decide), ?_⟩
  generalize eJ2 : upd (upd G9 w2 (.lst [.ref p7, .ref p8, .ref p9])) r (.lst ([.ref p1, .ref p2, .ref p3, .ref p4, .ref p5, .ref p6] ++ [.ref p7, .ref p8, .ref p9])) = J2
  have k2 : ∀ b o, J1 b = some o → b ≠ r → J2 b = some o := fun b o h z => by rw [← eJ2, upd_ne z]; exact ya _ _ h
  have kw : ∀ b o, (upd G9 w2 (.lst [.ref p7, .ref p8, .ref p9])) b = some o → b ≠ r → J2 b = some o := fun b o h z => by rw [← eJ2, upd_ne z]; exact h
  have R2 : J2 r = some (.lst [.ref p1, .ref p2, .ref p3, .ref p4, .ref p5, .ref p6, .ref p7, .ref p8, .ref p9]) := by rw [← eJ2]; exact upd_same
  have P2 : PaL K J2 v [.ref p1, .ref p2, .ref p3, .ref p4, .ref p5, .ref p6, .ref p7, .ref p8, .ref p9] [("BadShape", "text"), ("BadPath", "path"), ("BadValues", "given"), ("BadValue", "value"), ("BadParameters", "parameters"), ("BadRow", "at"), ("BadLine", "at"), ("BadName", "name"), ("NoUpdate", "name")] := (P1.keep R1 k2).app (.cons ((b7.same (t8.trans (t9.trans uw))).keep (ya _ _ R1) kw) (.cons ((b8.same (t9.trans uw)).keep (ya _ _ R1) kw) (.cons ((b9.same uw).keep (ya _ _ R1) kw) .nil)))
  have sm2 : Same H J2 := fun b o h => k2 _ _ (sm1 b o h) (ne_of_none h fr)
  replace x10 := (x10.same uw).keep (ya _ _ R1) kw
  replace x11 := (x11.same uw).keep (ya _ _ R1) kw
  refine ⟨_, rfl, ?_⟩
  obtain ⟨d10, h10, j10⟩ := id x10
  refine ⟨_, rfl, _, rfl, a10, _, d10, _, v, rfl, h10, j10, T.x_BadUpdate.x, T.x_BadUpdate.no, (by simp [List.lookup]), (by show 2 ≤ sizeLine; decide), fun p10 np10 => ?_⟩
  generalize eG10 : upd J2 p10 (.tup [.ref a10, v]) = G10
  have t10 : Same J2 G10 := by rw [← eG10]; exact same_upd np10
  have b10 : PaA K G10 v (.ref p10) ("BadUpdate", "name") := ⟨p10, a10, rfl, by rw [← eG10]; exact upd_same, x10.same t10⟩
  replace x11 := x11.same t10
  obtain ⟨d11, h11, j11⟩ := id x11
  refine ⟨_, rfl, _, rfl, a11, _, d11, _, v, rfl, h11, j11, T.x_TooMany.x, T.x_TooMany.no, (by simp [List.lookup]), (by show 2 ≤ sizeLine; decide), fun p11 np11 => ?_⟩
  generalize eG11 : upd G10 p11 (.tup [.ref a11, v]) = G11
  have t11 : Same G10 G11 := by rw [← eG11]; exact same_upd np11
  have b11 : PaA K G11 v (.ref p11) ("TooMany", "what") := ⟨p11, a11, rfl, by rw [← eG11]; exact upd_same, x11.same t11⟩
  refine ⟨(by show 2 ≤ sizeLine; decide), fun w3 nw => ?_⟩
  have uw := same_upd (o := .lst [.ref p10, .ref p11]) nw
  have ya : Same J2 _ := (t10.trans (t11.trans uw))
  refine ⟨r, w3, _, _, rfl, rfl, ya _ _ R2, upd_same, (by show 11 ≤ sizeLine; decide), fun p np => ?_⟩
  have up := same_upd (o := .lst ([.ref p1, .ref p2, .ref p3, .ref p4, .ref p5, .ref p6, .ref p7, .ref p8, .ref p9] ++ [.ref p10, .ref p11])) np
  exact q p _ _ (sm2.free (ya.free np)) (sm2.trans (ya.trans up)) upd_same ((P2.same (ya.trans up)).app (.cons (b10.same (t11.trans (uw.trans up))) (.cons (b11.same (uw.trans up)) .nil)))
theorem sc_law_others : FnScope ["_law_value", "_law_one", "_law_two", "_law_three", "_law_four", "_law_five", "_law_six", "_law_seven", "_law_eight", "_law_nine", "_law_ten", "_law_told"] ["_law_value"] (defScope s_law_others) := ⟨rfl, rfl, rfl, by decide +kernel, rfl, by decide +kernel, by decide +kernel⟩
theorem ok_law_others {f : Addr} {fd : FuncData} (F : FunD K "_law_others" "_law_others" (defArgs s_law_others) (defBody s_law_others) (defScope s_law_others) [] [] f fd) (T : Tx K mg) (x_BadMark : CalX P w K mg base 1 "BadMark" (He.ga K "BadMark") "mark") (x_BadChoice : CalX P w K mg base 1 "BadChoice" (He.ga K "BadChoice") "choice") (x_BadDocument : CalX P w K mg base 1 "BadDocument" (He.ga K "BadDocument") "document") (x_BadKind : CalX P w K mg base 1 "BadKind" (He.ga K "BadKind") "kind") (x_BadWhen : CalX P w K mg base 1 "BadWhen" (He.ga K "BadWhen") "when") (x_BadGoal : CalX P w K mg base 1 "BadGoal" (He.ga K "BadGoal") "goal") (x_BadDeed : CalX P w K mg base 1 "BadDeed" (He.ga K "BadDeed") "deed") (x_BadWorld : CalX P w K mg base 1 "BadWorld" (He.ga K "BadWorld") "form") (x_BadLabel : CalX P w K mg base 1 "BadLabel" (He.ga K "BadLabel") "label") (x_UnlikeFaces : CalX P w K mg base 1 "UnlikeFaces" (He.ga K "UnlikeFaces") "name") : FnOk P w K mg base CX0 3 f fd ["_law_value"] (sp_errs K csB) := by
  refine F.ok sc_law_others (fun vs H Q E h => ?_) (fun cdv A outer s H vs Q E hr h => ?_)
  · obtain ⟨v, rfl, _⟩ := h
    rfl
  obtain ⟨v, rfl, q⟩ := h
  refine ⟨_, PSs.nox (pss_cons (ps_par3 (i := 1) (j := 2) (l := 3) (by rfl) sc_law_others.nd rfl rfl rfl (by decide) (by decide) (by decide) rfl rfl rfl (pa_cons (pe_mkX x_BadMark (hr.mono (by omega)) (by rfl) (pv 0)) (pa_cons (pe_mkX x_BadChoice (hr.mono (by omega)) (by rfl) (pv 0)) (pa_cons (pe_mkX x_BadDocument (hr.mono (by omega)) (by rfl) (pv 0)) pa_nil))) (by rfl))
      (pss_cons (ps_par3 (i := 4) (j := 5) (l := 6) (by rfl) sc_law_others.nd rfl rfl rfl (by decide) (by decide) (by decide) rfl rfl rfl (pa_cons (pe_mkX x_BadKind (hr.mono (by omega)) (by rfl) (pv 0)) (pa_cons (pe_mkX x_BadWhen (hr.mono (by omega)) (by rfl) (pv 0)) (pa_cons (pe_mkX x_BadGoal (hr.mono (by omega)) (by rfl) (pv 0)) pa_nil))) (by rfl))
      (pss_cons (ps_par3 (i := 7) (j := 8) (l := 9) (by rfl) sc_law_others.nd rfl rfl rfl (by decide) (by decide) (by decide) rfl rfl rfl (pa_cons (pe_mkX x_BadDeed (hr.mono (by omega)) (by rfl) (pv 0)) (pa_cons (pe_mkX x_BadWorld (hr.mono (by omega)) (by rfl) (pv 0)) (pa_cons (pe_mkX x_BadLabel (hr.mono (by omega)) (by rfl) (pv 0)) pa_nil))) (by rfl))
      (pss_cons (ps_set (i := 10) sc_law_others.nd rfl (by first | exact Or.inl rfl | exact Or.inr rfl) (pe_mkX x_UnlikeFaces (hr.mono (by omega)) (by rfl) (pv 0)))
      (pss_cons (ps_set (i := 11) sc_law_others.nd rfl (by first | exact Or.inl rfl | exact Or.inr rfl) (pe_lst (pa_cons (pe_tup (pa_cons (pv 1) (pa_cons (pe_exf (pv 1)) pa_nil))) (pa_cons (pe_tup (pa_cons (pv 2) (pa_cons (pe_exf (pv 2)) pa_nil))) (pa_cons (pe_tup (pa_cons (pv 3) (pa_cons (pe_exf (pv 3)) pa_nil))) pa_nil)))))
      (pss_cons (ps_expr (pe_bm PySem.F.plainAttrs_list PySem.F.slot_list_extend PySem.F.type_list_extend mt_extend (pv 11) (pa_cons (pe_lst (pa_cons (pe_tup (pa_cons (pv 4) (pa_cons (pe_exf (pv 4)) pa_nil))) (pa_cons (pe_tup (pa_cons (pv 5) (pa_cons (pe_exf (pv 5)) pa_nil))) (pa_cons (pe_tup (pa_cons (pv 6) (pa_cons (pe_exf (pv 6)) pa_nil))) pa_nil)))) pa_nil)))
      (pss_cons (ps_expr (pe_bm PySem.F.plainAttrs_list PySem.F.slot_list_extend PySem.F.type_list_extend mt_extend (pv 11) (pa_cons (pe_lst (pa_cons (pe_tup (pa_cons (pv 7) (pa_cons (pe_exf (pv 7)) pa_nil))) (pa_cons (pe_tup (pa_cons (pv 8) (pa_cons (pe_exf (pv 8)) pa_nil))) (pa_cons (pe_tup (pa_cons (pv 9) (pa_cons (pe_exf (pv 9)) pa_nil))) pa_nil)))) pa_nil)))
      (pss_one (ps_ret (pe_op op_cat (pv 11) (pe_lst (pa_cons (pe_tup (pa_cons (pv 10) (pa_cons (pe_exf (pv 10)) pa_nil))) pa_nil)))))))))))), ?_⟩
  refine ⟨_, rfl, fun a1 d1 H1 s1 n1 m1 e1 g1 => ⟨_, rfl, fun a2 d2 H2 s2 n2 m2 e2 g2 => ⟨_, rfl, fun a3 d3 H3 s3 n3 m3 e3 g3 => ⟨_, _, _, rfl, ?_⟩⟩⟩⟩
  refine ⟨_, rfl, fun a4 d4 H4 s4 n4 m4 e4 g4 => ⟨_, rfl, fun a5 d5 H5 s5 n5 m5 e5 g5 => ⟨_, rfl, fun a6 d6 H6 s6 n6 m6 e6 g6 => ⟨_, _, _, rfl, ?_⟩⟩⟩⟩
  refine ⟨_, rfl, fun a7 d7 H7 s7 n7 m7 e7 g7 => ⟨_, rfl, fun a8 d8 H8 s8 n8 m8 e8 g8 => ⟨_, rfl, fun a9 d9 H9 s9 n9 m9 e9 g9 => ⟨_, _, _, rfl, ?_⟩⟩⟩⟩
  refine ⟨_, rfl, fun a10 d10 H10 s10 n10 m10 e10 g10 => ?_⟩
  have sm : Same H H10 := (s1.trans (s2.trans (s3.trans (s4.trans (s5.trans (s6.trans (s7.trans (s8.trans (s9.trans s10)))))))))
  have x1 : ExA K H10 a1 ("BadMark", "mark") v := ExA.same (c := ("BadMark", "mark")) ⟨d1, e1, g1⟩ (s2.trans (s3.trans (s4.trans (s5.trans (s6.trans (s7.trans (s8.trans (s9.trans s10))))))))
  have x2 : ExA K H10 a2 ("BadChoice", "choice") v := ExA.same (c := ("BadChoice", "choice")) ⟨d2, e2, g2⟩ (s3.trans (s4.trans (s5.trans (s6.trans (s7.trans (s8.trans (s9.trans s10)))))))
  have x3 : ExA K H10 a3 ("BadDocument", "document") v := ExA.same (c := ("BadDocument", "document")) ⟨d3, e3, g3⟩ (s4.trans (s5.trans (s6.trans (s7.trans (s8.trans (s9.trans s10))))))
  have x4 : ExA K H10 a4 ("BadKind", "kind") v := ExA.same (c := ("BadKind", "kind")) ⟨d4, e4, g4⟩ (s5.trans (s6.trans (s7.trans (s8.trans (s9.trans s10)))))
  have x5 : ExA K H10 a5 ("BadWhen", "when") v := ExA.same (c := ("BadWhen", "when")) ⟨d5, e5, g5⟩ (s6.trans (s7.trans (s8.trans (s9.trans s10))))
  have x6 : ExA K H10 a6 ("BadGoal", "goal") v := ExA.same (c := ("BadGoal", "goal")) ⟨d6, e6, g6⟩ (s7.trans (s8.trans (s9.trans s10)))
  have x7 : ExA K H10 a7 ("BadDeed", "deed") v := ExA.same (c := ("BadDeed", "deed")) ⟨d7, e7, g7⟩ (s8.trans (s9.trans s10))
  have x8 : ExA K H10 a8 ("BadWorld", "form") v := ExA.same (c := ("BadWorld", "form")) ⟨d8, e8, g8⟩ (s9.trans s10)
  have x9 : ExA K H10 a9 ("BadLabel", "label") v := ExA.same (c := ("BadLabel", "label")) ⟨d9, e9, g9⟩ s10
  have x10 : ExA K H10 a10 ("UnlikeFaces", "name") v := ⟨d10, e10, g10⟩
  obtain ⟨d1, h1, j1⟩ := id x1
  refine ⟨_, rfl, _, rfl, a1, _, d1, _, v, rfl, h1, j1, T.x_BadMark.x, T.x_BadMark.no, (by simp [List.lookup]), (by show 2 ≤ sizeLine; decide), fun p1 np1 => ?_⟩
  generalize eG1 : upd H10 p1 (.tup [.ref a1, v]) = G1
  have t1 : Same H10 G1 := by rw [← eG1]; exact same_upd np1
  have b1 : PaA K G1 v (.ref p1) ("BadMark", "mark") := ⟨p1, a1, rfl, by rw [← eG1]; exact upd_same, x1.same t1⟩
  replace x2 := x2.same t1
  replace x3 := x3.same t1
  replace x4 := x4.same t1
  replace x5 := x5.same t1
  replace x6 := x6.same t1
  replace x7 := x7.same t1
  replace x8 := x8.same t1
  replace x9 := x9.same t1
  replace x10 := x10.same t1
  obtain ⟨d2, h2, j2⟩ := id x2
  refine ⟨_, rfl, _, rfl, a2, _, d2, _, v, rfl, h2, j2, T.x_BadChoice.x, T.x_BadChoice.no, (by simp [List.lookup]), (by show 2 ≤ sizeLine; decide), fun p2 np2 => ?_⟩
  generalize eG2 : upd G1 p2 (.tup [.ref a2, v]) = G2
  have t2 : Same G1 G2 := by rw [← eG2]; exact same_upd np2
  have b2 : PaA K G2 v (.ref p2) ("BadChoice", "choice") := ⟨p2, a2, rfl, by rw [← eG2]; exact upd_same, x2.same t2⟩
  replace x3 := x3.same t2
  replace x4 := x4.same t2
  replace x5 := x5.same t2
  replace x6 := x6.same t2
  replace x7 := x7.same t2
  replace x8 := x8.same t2
  replace x9 := x9.same t2
  replace x10 := x10.same t2
  obtain ⟨d3, h3, j3⟩ := id x3
  refine ⟨_, rfl, _, rfl, a3, _, d3, _, v, rfl, h3, j3, T.x_BadDocument.x, T.x_BadDocument.no, (by simp [List.lookup]), (by show 2 ≤ sizeLine; decide), fun p3 np3 => ?_⟩
  generalize eG3 : upd G2 p3 (.tup [.ref a3, v]) = G3
  have t3 : Same G2 G3 := by rw [← eG3]; exact same_upd np3
  have b3 : PaA K G3 v (.ref p3) ("BadDocument", "document") := ⟨p3, a3, rfl, by rw [← eG3]; exact upd_same, x3.same t3⟩
  replace x4 := x4.same t3
  replace x5 := x5.same t3
  replace x6 := x6.same t3
  replace x7 := x7.same t3
  replace x8 := x8.same t3
  replace x9 := x9.same t3
  replace x10 := x10.same t3
  refine ⟨(by show 3 ≤ sizeLine; decide), fun r nr => ?_⟩
  generalize eJ0 : upd G3 r (.lst [.ref p1, .ref p2, .ref p3]) = J0
  have u0 : Same G3 J0 := by rw [← eJ0]; exact same_upd nr
  have R0 : J0 r = some (.lst [.ref p1, .ref p2, .ref p3]) := by rw [← eJ0]; exact upd_same
  have y0 : Same H10 J0 := t1.trans (t2.trans (t3.trans u0))
  have P0 : PaL K J0 v [.ref p1, .ref p2, .ref p3] [("BadMark", "mark"), ("BadChoice", "choice"), ("BadDocument", "document")] := .cons (b1.same (t2.trans (t3.trans u0))) (.cons (b2.same (t3.trans u0)) (.cons (b3.same u0) .nil))
  have fr : H r = none := sm.free (t1.free (t2.free (t3.free nr)))
  have sm0 : Same H J0 := sm.trans y0
  replace x4 := x4.same u0
  replace x5 := x5.same u0
  replace x6 := x6.same u0
  replace x7 := x7.same u0
  replace x8 := x8.same u0
  replace x9 := x9.same u0
  replace x10 := x10.same u0
  refine ⟨_, rfl, .inl ⟨rfl, _, .inl (.inl R0)⟩, ?_⟩
  obtain ⟨d4, h4, j4⟩ := id x4
  refine ⟨_, rfl, _, rfl, a4, _, d4, _, v, rfl, h4, j4, T.x_BadKind.x, T.x_BadKind.no, (by simp [List.lookup]), (by show 2 ≤ sizeLine; decide), fun p4 np4 => ?_⟩
  generalize eG4 : upd J0 p4 (.tup [.ref a4, v]) = G4
  have t4 : Same J0 G4 := by rw [← eG4]; exact same_upd np4
  have b4 : PaA K G4 v (.ref p4) ("BadKind", "kind") := ⟨p4, a4, rfl, by rw [← eG4]; exact upd_same, x4.same t4⟩
  replace x5 := x5.same t4
  replace x6 := x6.same t4
  replace x7 := x7.same t4
  replace x8 := x8.same t4
  replace x9 := x9.same t4
  replace x10 := x10.same t4
  obtain ⟨d5, h5, j5⟩ := id x5
  refine ⟨_, rfl, _, rfl, a5, _, d5, _, v, rfl, h5, j5, T.x_BadWhen.x, T.x_BadWhen.no, (by simp [List.lookup]), (by show 2 ≤ sizeLine; decide), fun p5 np5 => ?_⟩
  generalize eG5 : upd G4 p5 (.tup [.ref a5, v]) = G5
  have t5 : Same G4 G5 := by rw [← eG5]; exact same_upd np5
  have b5 : PaA K G5 v (.ref p5) ("BadWhen", "when") := ⟨p5, a5, rfl, by rw [← eG5]; exact upd_same, x5.same t5⟩
  replace x6 := x6.same t5
  replace x7 := x7.same t5
  replace x8 := x8.same t5
  replace x9 := x9.same t5
  replace x10 := x10.same t5
  obtain ⟨d6, h6, j6⟩ := id x6
  refine ⟨_, rfl, _, rfl, a6, _, d6, _, v, rfl, h6, j6, T.x_BadGoal.x, T.x_BadGoal.no, (by simp [List.lookup]), (by show 2 ≤ sizeLine; decide), fun p6 np6 => ?_⟩
  generalize eG6 : upd G5 p6 (.tup [.ref a6, v]) = G6
  have t6 : Same G5 G6 := by rw [← eG6]; exact same_upd np6
  have b6 : PaA K G6 v (.ref p6) ("BadGoal", "goal") := ⟨p6, a6, rfl, by rw [← eG6]; exact upd_same, x6.same t6⟩
  replace x7 := x7.same t6
  replace x8 := x8.same t6
  replace x9 := x9.same t6
  replace x10 := x10.same t6
  refine ⟨(by show 3 ≤ sizeLine; decide), fun w1 nw => ?_⟩
  have uw := same_upd (o := .lst [.ref p4, .ref p5, .ref p6]) nw
  have ya : Same J0 _ := t4.trans (t5.trans (t6.trans uw))
  refine ⟨r, w1, _, _, rfl, rfl, ya _ _ R0, upd_same, (by show 6 ≤ sizeLine; decide), ?_⟩
  generalize eJ1 : upd (upd G6 w1 (.lst [.ref p4, .ref p5, .ref p6])) r (.lst ([.ref p1, .ref p2, .ref p3] ++ [.ref p4, .ref p5, .ref p6])) = J1
  have k1 : ∀ b o, J0 b = some o → b ≠ r → J1 b = some o := fun b o h z => by rw [← eJ1, upd_ne z]; exact ya _ _ h
  have kw : ∀ b o, (upd G6 w1 (.lst [.ref p4, .ref p5, .ref p6])) b = some o → b ≠ r → J1 b = some o := fun b o h z => by rw [← eJ1, upd_ne z]; exact h
  have R1 : J1 r = some (.lst [.ref p1, .ref p2, .ref p3, .ref p4, .ref p5, .ref p6]) := by rw [← eJ1]; exact upd_same
  have P1 : PaL K J1 v [.ref p1, .ref p2, .ref p3, .ref p4, .ref p5, .ref p6] [("BadMark", "mark"), ("BadChoice", "choice"), ("BadDocument", "document"), ("BadKind", "kind"), ("BadWhen", "when"), ("BadGoal", "goal")] := (P0.keep R0 k1).app (.cons ((b4.same (t5.trans (t6.trans uw))).keep (ya _ _ R0) kw) (.cons ((b5.same (t6.trans uw)).keep (ya _ _ R0) kw) (.cons ((b6.same uw).keep (ya _ _ R0) kw) .nil)))
  have sm1 : Same H J1 := fun b o h => k1 _ _ (sm0 b o h) (ne_of_none h fr)
  replace x7 := (x7.same uw).keep (ya _ _ R0) kw
  replace x8 := (x8.same uw).keep (ya _ _ R0) kw
  replace x9 := (x9.same uw).keep (ya _ _ R0) kw
  replace x10 := (x10.same uw).keep (ya _ _ R0) kw
  refine ⟨_, rfl, .inl ⟨rfl, _, .inl (.inl R1)⟩, ?_⟩
  obtain ⟨d7, h7, j7⟩ := id x7
  refine ⟨_, rfl, _, rfl, a7, _, d7, _, v, rfl, h7, j7, T.x_BadDeed.x, T.x_BadDeed.no, (by simp [List.lookup]), (by show 2 ≤ sizeLine; decide), fun p7 np7 => ?_⟩
  generalize eG7 : upd J1 p7 (.tup [.ref a7, v]) = G7
  have t7 : Same J1 G7 := by rw [← eG7]; exact same_upd np7
  have b7 : PaA K G7 v (.ref p7) ("BadDeed", "deed") := ⟨p7, a7, rfl, by rw [← eG7]; exact upd_same, x7.same t7⟩
  replace x8 := x8.same t7
  replace x9 := x9.same t7
  replace x10 := x10.same t7
  obtain ⟨d8, h8, j8⟩ := id x8
  refine ⟨_, rfl, _, rfl, a8, _, d8, _, v, rfl, h8, j8, T.x_BadWorld.x, T.x_BadWorld.no, (by simp [List.lookup]), (by show 2 ≤ sizeLine; decide), fun p8 np8 => ?_⟩
  generalize eG8 : upd G7 p8 (.tup [.ref a8, v]) = G8
  have t8 : Same G7 G8 := by rw [← eG8]; exact same_upd np8
  have b8 : PaA K G8 v (.ref p8) ("BadWorld", "form") := ⟨p8, a8, rfl, by rw [← eG8]; exact upd_same, x8.same t8⟩
  replace x9 := x9.same t8
  replace x10 := x10.same t8
  obtain ⟨d9, h9, j9⟩ := id x9
  refine ⟨_, rfl, _, rfl, a9, _, d9, _, v, rfl, h9, j9, T.x_BadLabel.x, T.x_BadLabel.no, (by simp [List.lookup]), (by show 2 ≤ sizeLine; decide), fun p9 np9 => ?_⟩
  generalize eG9 : upd G8 p9 (.tup [.ref a9, v]) = G9
  have t9 : Same G8 G9 := by rw [← eG9]; exact same_upd np9
  have b9 : PaA K G9 v (.ref p9) ("BadLabel", "label") := ⟨p9, a9, rfl, by rw [← eG9]; exact upd_same, x9.same t9⟩
  replace x10 := x10.same t9
  refine ⟨(by show 3 ≤ sizeLine; decide), fun w2 nw => ?_⟩
  have uw := same_upd (o := .lst [.ref p7, .ref p8, .ref p9]) nw
  have ya : Same J1 _ := t7.trans (t8.trans (t9.trans uw))
  refine ⟨r, w2, _, _, rfl, rfl, ya _ _ R1, upd_same, (by show 9 ≤ sizeLine; decide), ?_⟩
  generalize eJ2 : upd (upd G9 w2 (.lst [.ref p7, .ref p8, .ref p9])) r (.lst ([.ref p1, .ref p2, .ref p3, .ref p4, .ref p5, .ref p6] ++ [.ref p7, .ref p8, .ref p9])) = J2
  have k2 : ∀ b o, J1 b = some o → b ≠ r → J2 b = some o := fun b o h z => by rw [← eJ2, upd_ne z]; exact ya _ _ h
  have kw : ∀ b o, (upd G9 w2 (.lst [.ref p7, .ref p8, .ref p9])) b = some o → b ≠ r → J2 b = some o := fun b o h z => by rw [← eJ2, upd_ne z]; exact h
  have R2 : J2 r = some (.lst [.ref p1, .ref p2, .ref p3, .ref p4, .ref p5, .ref p6, .ref p7, .ref p8, .ref p9]) := by rw [← eJ2]; exact upd_same
  have P2 : PaL K J2 v [.ref p1, .ref p2, .ref p3, .ref p4, .ref p5, .ref p6, .ref p7, .ref p8, .ref p9] [("BadMark", "mark"), ("BadChoice", "choice"), ("BadDocument", "document"), ("BadKind", "kind"), ("BadWhen", "when"), ("BadGoal", "goal"), ("BadDeed", "deed"), ("BadWorld", "form"), ("BadLabel", "label")] := (P1.keep R1 k2).app (.cons ((b7.same (t8.trans (t9.trans uw))).keep (ya _ _ R1) kw) (.cons ((b8.same (t9.trans uw)).keep (ya _ _ R1) kw) (.cons ((b9.same uw).keep (ya _ _ R1) kw) .nil)))
  have sm2 : Same H J2 := fun b o h => k2 _ _ (sm1 b o h) (ne_of_none h fr)
  replace x10 := (x10.same uw).keep (ya _ _ R1) kw
  refine ⟨_, rfl, ?_⟩
  obtain ⟨d10, h10, j10⟩ := id x10
  refine ⟨_, rfl, _, rfl, a10, _, d10, _, v, rfl, h10, j10, T.x_UnlikeFaces.x, T.x_UnlikeFaces.no, (by simp [List.lookup]), (by show 2 ≤ sizeLine; decide), fun p10 np10 => ?_⟩
  generalize eG10 : upd J2 p10 (.tup [.ref a10, v]) = G10
  have t10 : Same J2 G10 := by rw [← eG10]; exact same_upd np10
  have b10 : PaA K G10 v (.ref p10) ("UnlikeFaces", "name") := ⟨p10, a10, rfl, by rw [← eG10]; exact upd_same, x10.same t10⟩
  refine ⟨(by show 1 ≤ sizeLine; decide), fun w3 nw => ?_⟩
  have uw := same_upd (o := .lst [.ref p10]) nw
  have ya : Same J2 _ := (t10.trans uw)
  refine ⟨r, w3, _, _, rfl, rfl, ya _ _ R2, upd_same, (by show 10 ≤ sizeLine; decide), fun p np => ?_⟩
  have up := same_upd (o := .lst ([.ref p1, .ref p2, .ref p3, .ref p4, .ref p5, .ref p6, .ref p7, .ref p8, .ref p9] ++ [.ref p10])) np
  exact q p _ _ (sm2.free (ya.free np)) (sm2.trans (ya.trans up)) upd_same ((P2.same (ya.trans up)).app (.cons (b10.same (uw.trans up)) .nil))
end
end Lx

namespace Lx
open PySem PySem.Spec PyProof.Rows L2 Ub Ur Ug Ue
section
variable {P : Program} {w : World} {K : PySem.W.Frag} {mg : Str → Option Value} {base : Heap}
theorem sc_law_kinds : FnScope ["_law_error", "_law_told"] ["_law_error"] (defScope s_law_kinds) := ⟨rfl, rfl, rfl, by decide +kernel, rfl, by decide +kernel, by decide +kernel⟩
theorem ok_law_kinds {f : Addr} {fd : FuncData} (F : FunD K "_law_kinds" "_law_kinds" (defArgs s_law_kinds) (defBody s_law_kinds) (defScope s_law_kinds) [] [] f fd) (T : Tx K mg) : FnOk P w K mg base CX0 1 f fd ["_law_error"] (sp_kinds K) := by
  refine F.ok sc_law_kinds (fun vs H Q E h => ?_) (fun cdv A outer s H vs Q E hr h => ?_)
  · obtain ⟨a, c, v, rfl, _⟩ := h
    rfl
  obtain ⟨a, c, v, rfl, hc, e0, x, q⟩ := h
  refine ⟨_, PSs.nox (pss_cons (ps_set (i := 1) sc_law_kinds.nd rfl (by first | exact Or.inl rfl | exact Or.inr rfl) (pe_lst (pa_cons (pe_callB call_isX (by rfl) T.isinstance (by decide +kernel) (pa_cons (pv 0) (pa_cons (pe_globR (by rfl) T.g_BadShape) pa_nil))) (pa_cons (pe_callB call_isX (by rfl) T.isinstance (by decide +kernel) (pa_cons (pv 0) (pa_cons (pe_globR (by rfl) T.g_BadPath) pa_nil))) pa_nil))))
      (pss_cons (ps_expr (pe_bm PySem.F.plainAttrs_list PySem.F.slot_list_extend PySem.F.type_list_extend mt_extend (pv 1) (pa_cons (pe_lst (pa_cons (pe_callB call_isX (by rfl) T.isinstance (by decide +kernel) (pa_cons (pv 0) (pa_cons (pe_globR (by rfl) T.g_BadValues) pa_nil))) (pa_cons (pe_callB call_isX (by rfl) T.isinstance (by decide +kernel) (pa_cons (pv 0) (pa_cons (pe_globR (by rfl) T.g_BadValue) pa_nil))) pa_nil))) pa_nil)))
      (pss_cons (ps_expr (pe_bm PySem.F.plainAttrs_list PySem.F.slot_list_extend PySem.F.type_list_extend mt_extend (pv 1) (pa_cons (pe_lst (pa_cons (pe_callB call_isX (by rfl) T.isinstance (by decide +kernel) (pa_cons (pv 0) (pa_cons (pe_globR (by rfl) T.g_BadParameters) pa_nil))) (pa_cons (pe_callB call_isX (by rfl) T.isinstance (by decide +kernel) (pa_cons (pv 0) (pa_cons (pe_globR (by rfl) T.g_BadRow) pa_nil))) pa_nil))) pa_nil)))
      (pss_cons (ps_expr (pe_bm PySem.F.plainAttrs_list PySem.F.slot_list_extend PySem.F.type_list_extend mt_extend (pv 1) (pa_cons (pe_lst (pa_cons (pe_callB call_isX (by rfl) T.isinstance (by decide +kernel) (pa_cons (pv 0) (pa_cons (pe_globR (by rfl) T.g_BadLine) pa_nil))) (pa_cons (pe_callB call_isX (by rfl) T.isinstance (by decide +kernel) (pa_cons (pv 0) (pa_cons (pe_globR (by rfl) T.g_BadName) pa_nil))) pa_nil))) pa_nil)))
      (pss_cons (ps_expr (pe_bm PySem.F.plainAttrs_list PySem.F.slot_list_extend PySem.F.type_list_extend mt_extend (pv 1) (pa_cons (pe_lst (pa_cons (pe_callB call_isX (by rfl) T.isinstance (by decide +kernel) (pa_cons (pv 0) (pa_cons (pe_globR (by rfl) T.g_NoUpdate) pa_nil))) (pa_cons (pe_callB call_isX (by rfl) T.isinstance (by decide +kernel) (pa_cons (pv 0) (pa_cons (pe_globR (by rfl) T.g_BadUpdate) pa_nil))) pa_nil))) pa_nil)))
      (pss_cons (ps_expr (pe_bm PySem.F.plainAttrs_list PySem.F.slot_list_extend PySem.F.type_list_extend mt_extend (pv 1) (pa_cons (pe_lst (pa_cons (pe_callB call_isX (by rfl) T.isinstance (by decide +kernel) (pa_cons (pv 0) (pa_cons (pe_globR (by rfl) T.g_TooMany) pa_nil))) (pa_cons (pe_callB call_isX (by rfl) T.isinstance (by decide +kernel) (pa_cons (pv 0) (pa_cons (pe_globR (by rfl) T.g_BadMark) pa_nil))) pa_nil))) pa_nil)))
      (pss_cons (ps_expr (pe_bm PySem.F.plainAttrs_list PySem.F.slot_list_extend PySem.F.type_list_extend mt_extend (pv 1) (pa_cons (pe_lst (pa_cons (pe_callB call_isX (by rfl) T.isinstance (by decide +kernel) (pa_cons (pv 0) (pa_cons (pe_globR (by rfl) T.g_BadChoice) pa_nil))) (pa_cons (pe_callB call_isX (by rfl) T.isinstance (by decide +kernel) (pa_cons (pv 0) (pa_cons (pe_globR (by rfl) T.g_BadDocument) pa_nil))) pa_nil))) pa_nil)))
      (pss_cons (ps_expr (pe_bm PySem.F.plainAttrs_list PySem.F.slot_list_extend PySem.F.type_list_extend mt_extend (pv 1) (pa_cons (pe_lst (pa_cons (pe_callB call_isX (by rfl) T.isinstance (by decide +kernel) (pa_cons (pv 0) (pa_cons (pe_globR (by rfl) T.g_BadKind) pa_nil))) (pa_cons (pe_callB call_isX (by rfl) T.isinstance (by decide +kernel) (pa_cons (pv 0) (pa_cons (pe_globR (by rfl) T.g_BadWhen) pa_nil))) pa_nil))) pa_nil)))
      (pss_cons (ps_expr (pe_bm PySem.F.plainAttrs_list PySem.F.slot_list_extend PySem.F.type_list_extend mt_extend (pv 1) (pa_cons (pe_lst (pa_cons (pe_callB call_isX (by rfl) T.isinstance (by decide +kernel) (pa_cons (pv 0) (pa_cons (pe_globR (by rfl) T.g_BadGoal) pa_nil))) (pa_cons (pe_callB call_isX (by rfl) T.isinstance (by decide +kernel) (pa_cons (pv 0) (pa_cons (pe_globR (by rfl) T.g_BadDeed) pa_nil))) pa_nil))) pa_nil)))
      (pss_cons (ps_expr (pe_bm PySem.F.plainAttrs_list PySem.F.slot_list_extend PySem.F.type_list_extend mt_extend (pv 1) (pa_cons (pe_lst (pa_cons (pe_callB call_isX (by rfl) T.isinstance (by decide +kernel) (pa_cons (pv 0) (pa_cons (pe_globR (by rfl) T.g_BadWorld) pa_nil))) (pa_cons (pe_callB call_isX (by rfl) T.isinstance (by decide +kernel) (pa_cons (pv 0) (pa_cons (pe_globR (by rfl) T.g_BadLabel) pa_nil))) pa_nil))) pa_nil)))
      (pss_one (ps_ret (pe_op op_cat (pv 1) (pe_lst (pa_cons (pe_callB call_isX (by rfl) T.isinstance (by decide +kernel) (pa_cons (pv 0) (pa_cons (pe_globR (by rfl) T.g_UnlikeFaces) pa_nil))) pa_nil))))))))))))))), ?_⟩
  have mm : ∀ y ∈ nms, y ∈ nms := fun _ h => h
  obtain ⟨d0, hh0, gg0⟩ := id e0
  refine ⟨_, rfl, a, _, d0, _, _, _, _, rfl, hh0, gg0, x, fun u r => r, T.kt.own _ hc "BadShape" (by simp), ⟨_, rfl, a, _, d0, _, _, _, _, rfl, hh0, gg0, x, fun u r => r, T.kt.own _ hc "BadPath" (by simp), ⟨(by show 2 ≤ sizeLine; decide), fun r nr => ?_⟩⟩⟩
  generalize eJ0 : upd H r (.lst [.bl (decide (c.1 = "BadShape")), .bl (decide (c.1 = "BadPath"))]) = J0
  have R0 : J0 r = some (.lst [.bl (decide (c.1 = "BadShape")), .bl (decide (c.1 = "BadPath"))]) := by rw [← eJ0]; exact upd_same
  have s0 : Same H J0 := by rw [← eJ0]; exact same_upd nr
  replace e0 := e0.same s0
  refine ⟨_, rfl, .inl ⟨rfl, _, .inl (.inl R0)⟩, ?_⟩
  obtain ⟨d0, hh0, gg0⟩ := id e0
  refine ⟨_, rfl, a, _, d0, _, _, _, _, rfl, hh0, gg0, x, fun u r => r, T.kt.own _ hc "BadValues" (by simp), ⟨_, rfl, a, _, d0, _, _, _, _, rfl, hh0, gg0, x, fun u r => r, T.kt.own _ hc "BadValue" (by simp), ⟨(by show 2 ≤ sizeLine; decide), fun w1 nw => ?_⟩⟩⟩
  have uw := same_upd (o := .lst [.bl (decide (c.1 = "BadValues")), .bl (decide (c.1 = "BadValue"))]) nw
  refine ⟨r, w1, _, _, rfl, rfl, uw _ _ R0, upd_same, (by show 4 ≤ sizeLine; decide), ?_⟩
  generalize eJ1 : upd (upd J0 w1 (.lst [.bl (decide (c.1 = "BadValues")), .bl (decide (c.1 = "BadValue"))])) r (.lst ([.bl (decide (c.1 = "BadShape")), .bl (decide (c.1 = "BadPath"))] ++ [.bl (decide (c.1 = "BadValues")), .bl (decide (c.1 = "BadValue"))])) = J1
  have R1 : J1 r = some (.lst [.bl (decide (c.1 = "BadShape")), .bl (decide (c.1 = "BadPath")), .bl (decide (c.1 = "BadValues")), .bl (decide (c.1 = "BadValue"))]) := by rw [← eJ1]; exact upd_same
  have k1 : ∀ b o, J0 b = some o → b ≠ r → J1 b = some o := fun b o h z => by rw [← eJ1, upd_ne z]; exact uw _ _ h
  have s1 : Same H J1 := fun b o h => k1 _ _ (s0 b o h) (ne_of_none h nr)
  have e1 := e0.keep R0 k1
  refine ⟨_, rfl, .inl ⟨rfl, _, .inl (.inl R1)⟩, ?_⟩
  obtain ⟨d1, hh1, gg1⟩ := id e1
  refine ⟨_, rfl, a, _, d1, _, _, _, _, rfl, hh1, gg1, x, fun u r => r, T.kt.own _ hc "BadParameters" (by simp), ⟨_, rfl, a, _, d1, _, _, _, _, rfl, hh1, gg1, x, fun u r => r, T.kt.own _ hc "BadRow" (by simp), ⟨(by show 2 ≤ sizeLine; decide), fun w2 nw => ?_⟩⟩⟩
  have uw := same_upd (o := .lst [.bl (decide (c.1 = "BadParameters")), .bl (decide (c.1 = "BadRow"))]) nw
  refine ⟨r, w2, _, _, rfl, rfl, uw _ _ R1, upd_same, (by show 6 ≤ sizeLine; decide), ?_⟩
  generalize eJ2 : upd (upd J1 w2 (.lst [.bl (decide (c.1 = "BadParameters")), .bl (decide (c.1 = "BadRow"))])) r (.lst ([.bl (decide (c.1 = "BadShape")), .bl (decide (c.1 = "BadPath")), .bl (decide (c.1 = "BadValues")), .bl (decide (c.1 = "BadValue"))] ++ [.bl (decide (c.1 = "BadParameters")), .bl (decide (c.1 = "BadRow"))])) = J2
  have R2 : J2 r = some (.lst [.bl (decide (c.1 = "BadShape")), .bl (decide (c.1 = "BadPath")), .bl (decide (c.1 = "BadValues")), .bl (decide (c.1 = "BadValue")), .bl (decide (c.1 = "BadParameters")), .bl (decide (c.1 = "BadRow"))]) := by rw [← eJ2]; exact upd_same
  have k2 : ∀ b o, J1 b = some o → b ≠ r → J2 b = some o := fun b o h z => by rw [← eJ2, upd_ne z]; exact uw _ _ h
  have s2 : Same H J2 := fun b o h => k2 _ _ (s1 b o h) (ne_of_none h nr)
  have e2 := e1.keep R1 k2
  refine ⟨_, rfl, .inl ⟨rfl, _, .inl (.inl R2)⟩, ?_⟩
  obtain ⟨d2, hh2, gg2⟩ := id e2
  refine ⟨_, rfl, a, _, d2, _, _, _, _, rfl, hh2, gg2, x, fun u r => r, T.kt.own _ hc "BadLine" (by simp), ⟨_, rfl, a, _, d2, _, _, _, _, rfl, hh2, gg2, x, fun u r => r, T.kt.own _ hc "BadName" (by simp), ⟨(by show 2 ≤ sizeLine; decide), fun w3 nw => ?_⟩⟩⟩
  have uw := same_upd (o := .lst [.bl (decide (c.1 = "BadLine")), .bl (decide (c.1 = "BadName"))]) nw
  refine ⟨r, w3, _, _, rfl, rfl, uw _ _ R2, upd_same, (by show 8 ≤ sizeLine; decide), ?_⟩
  generalize eJ3 : upd (upd J2 w3 (.lst [.bl (decide (c.1 = "BadLine")), .bl (decide (c.1 = "BadName"))])) r (.lst ([.bl (decide (c.1 = "BadShape")), .bl (decide (c.1 = "BadPath")), .bl (decide (c.1 = "BadValues")), .bl (decide (c.1 = "BadValue")), .bl (decide (c.1 = "BadParameters")), .bl (decide (c.1 = "BadRow"))] ++ [.bl (decide (c.1 = "BadLine")), .bl (decide (c.1 = "BadName"))])) = J3
  have R3 : J3 r = some (.lst [.bl (decide (c.1 = "BadShape")), .bl (decide (c.1 = "BadPath")), .bl (decide (c.1 = "BadValues")), .bl (decide (c.1 = "BadValue")), .bl (decide (c.1 = "BadParameters")), .bl (decide (c.1 = "BadRow")), .bl (decide (c.1 = "BadLine")), .bl (decide (c.1 = "BadName"))]) := by rw [← eJ3]; exact upd_same
  have k3 : ∀ b o, J2 b = some o → b ≠ r → J3 b = some o := fun b o h z => by rw [← eJ3, upd_ne z]; exact uw _ _ h
  have s3 : Same H J3 := fun b o h => k3 _ _ (s2 b o h) (ne_of_none h nr)
  have e3 := e2.keep R2 k3
  refine ⟨_, rfl, .inl ⟨rfl, _, .inl (.inl R3)⟩, ?_⟩
  obtain ⟨d3, hh3, gg3⟩ := id e3
  refine ⟨_, rfl, a, _, d3, _, _, _, _, rfl, hh3, gg3, x, fun u r => r, T.kt.own _ hc "NoUpdate" (by simp), ⟨_, rfl, a, _, d3, _, _, _, _, rfl, hh3, gg3, x, fun u r => r, T.kt.own _ hc "BadUpdate" (by simp), ⟨(by show 2 ≤ sizeLine; decide), fun w4 nw => ?_⟩⟩⟩
  have uw := same_upd (o := .lst [.bl (decide (c.1 = "NoUpdate")), .bl (decide (c.1 = "BadUpdate"))]) nw
  refine ⟨r, w4, _, _, rfl, rfl, uw _ _ R3, upd_same, (by show 10 ≤ sizeLine; decide), ?_⟩
  generalize eJ4 : upd (upd J3 w4 (.lst [.bl (decide (c.1 = "NoUpdate")), .bl (decide (c.1 = "BadUpdate"))])) r (.lst ([.bl (decide (c.1 = "BadShape")), .bl (decide (c.1 = "BadPath")), .bl (decide (c.1 = "BadValues")), .bl (decide (c.1 = "BadValue")), .bl (decide (c.1 = "BadParameters")), .bl (decide (c.1 = "BadRow")), .bl (decide (c.1 = "BadLine")), .bl (decide (c.1 = "BadName"))] ++ [.bl (decide (c.1 = "NoUpdate")), .bl (decide (c.1 = "BadUpdate"))])) = J4
  have R4 : J4 r = some (.lst [.bl (decide (c.1 = "BadShape")), .bl (decide (c.1 = "BadPath")), .bl (decide (c.1 = "BadValues")), .bl (decide (c.1 = "BadValue")), .bl (decide (c.1 = "BadParameters")), .bl (decide (c.1 = "BadRow")), .bl (decide (c.1 = "BadLine")), .bl (decide (c.1 = "BadName")), .bl (decide (c.1 = "NoUpdate")), .bl (decide (c.1 = "BadUpdate"))]) := by rw [← eJ4]; exact upd_same
  have k4 : ∀ b o, J3 b = some o → b ≠ r → J4 b = some o := fun b o h z => by rw [← eJ4, upd_ne z]; exact uw _ _ h
  have s4 : Same H J4 := fun b o h => k4 _ _ (s3 b o h) (ne_of_none h nr)
  have e4 := e3.keep R3 k4
  refine ⟨_, rfl, .inl ⟨rfl, _, .inl (.inl R4)⟩, ?_⟩
  obtain ⟨d4, hh4, gg4⟩ := id e4
  refine ⟨_, rfl, a, _, d4, _, _, _, _, rfl, hh4, gg4, x, fun u r => r, T.kt.own _ hc "TooMany" (by simp), ⟨_, rfl, a, _, d4, _, _, _, _, rfl, hh4, gg4, x, fun u r => r, T.kt.own _ hc "BadMark" (by simp), ⟨(by show 2 ≤ sizeLine; decide), fun w5 nw => ?_⟩⟩⟩
  have uw := same_upd (o := .lst [.bl (decide (c.1 = "TooMany")), .bl (decide (c.1 = "BadMark"))]) nw
  refine ⟨r, w5, _, _, rfl, rfl, uw _ _ R4, upd_same, (by show 12 ≤ sizeLine; decide), ?_⟩
  generalize eJ5 : upd (upd J4 w5 (.lst [.bl (decide (c.1 = "TooMany")), .bl (decide (c.1 = "BadMark"))])) r (.lst ([.bl (decide (c.1 = "BadShape")), .bl (decide (c.1 = "BadPath")), .bl (decide (c.1 = "BadValues")), .bl (decide (c.1 = "BadValue")), .bl (decide (c.1 = "BadParameters")), .bl (decide (c.1 = "BadRow")), .bl (decide (c.1 = "BadLine")), .bl (decide (c.1 = "BadName")), .bl (decide (c.1 = "NoUpdate")), .bl (decide (c.1 = "BadUpdate"))] ++ [.bl (decide (c.1 = "TooMany")), .bl (decide (c.1 = "BadMark"))])) = J5
  have R5 : J5 r = some (.lst [.bl (decide (c.1 = "BadShape")), .bl (decide (c.1 = "BadPath")), .bl (decide (c.1 = "BadValues")), .bl (decide (c.1 = "BadValue")), .bl (decide (c.1 = "BadParameters")), .bl (decide (c.1 = "BadRow")), .bl (decide (c.1 = "BadLine")), .bl (decide (c.1 = "BadName")), .bl (decide (c.1 = "NoUpdate")), .bl (decide (c.1 = "BadUpdate")), .bl (decide (c.1 = "TooMany")), .bl (decide (c.1 = "BadMark"))]) := by rw [← eJ5]; exact upd_same
  have k5 : ∀ b o, J4 b = some o → b ≠ r → J5 b = some o := fun b o h z => by rw [← eJ5, upd_ne z]; exact uw _ _ h
  have s5 : Same H J5 := fun b o h => k5 _ _ (s4 b o h) (ne_of_none h nr)
  have e5 := e4.keep R4 k5
  refine ⟨_, rfl, .inl ⟨rfl, _, .inl (.inl R5)⟩, ?_⟩
  obtain ⟨d5, hh5, gg5⟩ := id e5
  refine ⟨_, rfl, a, _, d5, _, _, _, _, rfl, hh5, gg5, x, fun u r => r, T.kt.own _ hc "BadChoice" (by simp), ⟨_, rfl, a, _, d5, _, _, _, _, rfl, hh5, gg5, x, fun u r => r, T.kt.own _ hc "BadDocument" (by simp), ⟨(by show 2 ≤ sizeLine; decide), fun w6 nw => ?_⟩⟩⟩
  have uw := same_upd (o := .lst [.bl (decide (c.1 = "BadChoice")), .bl (decide (c.1 = "BadDocument"))]) nw
  refine ⟨r, w6, _, _, rfl, rfl, uw _ _ R5, upd_same, (by show 14 ≤ sizeLine; decide), ?_⟩
  generalize eJ6 : upd (upd J5 w6 (.lst [.bl (decide (c.1 = "BadChoice")), .bl (decide (c.1 = "BadDocument"))])) r (.lst ([.bl (decide (c.1 = "BadShape")), .bl (decide (c.1 = "BadPath")), .bl (decide (c.1 = "BadValues")), .bl (decide (c.1 = "BadValue")), .bl (decide (c.1 = "BadParameters")), .bl (decide (c.1 = "BadRow")), .bl (decide (c.1 = "BadLine")), .bl (decide (c.1 = "BadName")), .bl (decide (c.1 = "NoUpdate")), .bl (decide (c.1 = "BadUpdate")), .bl (decide (c.1 = "TooMany")), .bl (decide (c.1 = "BadMark"))] ++ [.bl (decide (c.1 = "BadChoice")), .bl (decide (c.1 = "BadDocument"))])) = J6
  have R6 : J6 r = some (.lst [.bl (decide (c.1 = "BadShape")), .bl (decide (c.1 = "BadPath")), .bl (decide (c.1 = "BadValues")), .bl (decide (c.1 = "BadValue")), .bl (decide (c.1 = "BadParameters")), .bl (decide (c.1 = "BadRow")), .bl (decide (c.1 = "BadLine")), .bl (decide (c.1 = "BadName")), .bl (decide (c.1 = "NoUpdate")), .bl (decide (c.1 = "BadUpdate")), .bl (decide (c.1 = "TooMany")), .bl (decide (c.1 = "BadMark")), .bl (decide (c.1 = "BadChoice")), .bl (decide (c.1 = "BadDocument"))]) := by rw [← eJ6]; exact upd_same
  have k6 : ∀ b o, J5 b = some o → b ≠ r → J6 b = some o := fun b o h z => by rw [← eJ6, upd_ne z]; exact uw _ _ h
  have s6 : Same H J6 := fun b o h => k6 _ _ (s5 b o h) (ne_of_none h nr)
  have e6 := e5.keep R5 k6
  refine ⟨_, rfl, .inl ⟨rfl, _, .inl (.inl R6)⟩, ?_⟩
  obtain ⟨d6, hh6, gg6⟩ := id e6
  refine ⟨_, rfl, a, _, d6, _, _, _, _, rfl, hh6, gg6, x, fun u r => r, T.kt.own _ hc "BadKind" (by simp), ⟨_, rfl, a, _, d6, _, _, _, _, rfl, hh6, gg6, x, fun u r => r, T.kt.own _ hc "BadWhen" (by simp), ⟨(by show 2 ≤ sizeLine; decide), fun w7 nw => ?_⟩⟩⟩
  have uw := same_upd (o := .lst [.bl (decide (c.1 = "BadKind")), .bl (decide (c.1 = "BadWhen"))]) nw
  refine ⟨r, w7, _, _, rfl, rfl, uw _ _ R6, upd_same, (by show 16 ≤ sizeLine; decide), ?_⟩
  generalize eJ7 : upd (upd J6 w7 (.lst [.bl (decide (c.1 = "BadKind")), .bl (decide (c.1 = "BadWhen"))])) r (.lst ([.bl (decide (c.1 = "BadShape")), .bl (decide (c.1 = "BadPath")), .bl (decide (c.1 = "BadValues")), .bl (decide (c.1 = "BadValue")), .bl (decide (c.1 = "BadParameters")), .bl (decide (c.1 = "BadRow")), .bl (decide (c.1 = "BadLine")), .bl (decide (c.1 = "BadName")), .bl (decide (c.1 = "NoUpdate")), .bl (decide (c.1 = "BadUpdate")), .bl (decide (c.1 = "TooMany")), .bl (decide (c.1 = "BadMark")), .bl (decide (c.1 = "BadChoice")), .bl (decide (c.1 = "BadDocument"))] ++ [.bl (decide (c.1 = "BadKind")), .bl (decide (c.1 = "BadWhen"))])) = J7
  have R7 : J7 r = some (.lst [.bl (decide (c.1 = "BadShape")), .bl (decide (c.1 = "BadPath")), .bl (decide (c.1 = "BadValues")), .bl (decide (c.1 = "BadValue")), .bl (decide (c.1 = "BadParameters")), .bl (decide (c.1 = "BadRow")), .bl (decide (c.1 = "BadLine")), .bl (decide (c.1 = "BadName")), .bl (decide (c.1 = "NoUpdate")), .bl (decide (c.1 = "BadUpdate")), .bl (decide (c.1 = "TooMany")), .bl (decide (c.1 = "BadMark")), .bl (decide (c.1 = "BadChoice")), .bl (decide (c.1 = "BadDocument")), .bl (decide (c.1 = "BadKind")), .bl (decide (c.1 = "BadWhen"))]) := by rw [← eJ7]; exact upd_same
  have k7 : ∀ b o, J6 b = some o → b ≠ r → J7 b = some o := fun b o h z => by rw [← eJ7, upd_ne z]; exact uw _ _ h
  have s7 : Same H J7 := fun b o h => k7 _ _ (s6 b o h) (ne_of_none h nr)
  have e7 := e6.keep R6 k7
  refine ⟨_, rfl, .inl ⟨rfl, _, .inl (.inl R7)⟩, ?_⟩
  obtain ⟨d7, hh7, gg7⟩ := id e7
  refine ⟨_, rfl, a, _, d7, _, _, _, _, rfl, hh7, gg7, x, fun u r => r, T.kt.own _ hc "BadGoal" (by simp), ⟨_, rfl, a, _, d7, _, _, _, _, rfl, hh7, gg7, x, fun u r => r, T.kt.own _ hc "BadDeed" (by simp), ⟨(by show 2 ≤ sizeLine; decide), fun w8 nw => ?_⟩⟩⟩
  have uw := same_upd (o := .lst [.bl (decide (c.1 = "BadGoal")), .bl (decide (c.1 = "BadDeed"))]) nw
  refine ⟨r, w8, _, _, rfl, rfl, uw _ _ R7, upd_same, (by show 18 ≤ sizeLine; decide), ?_⟩
  generalize eJ8 : upd (upd J7 w8 (.lst [.bl (decide (c.1 = "BadGoal")), .bl (decide (c.1 = "BadDeed"))])) r (.lst ([.bl (decide (c.1 = "BadShape")), .bl (decide (c.1 = "BadPath")), .bl (decide (c.1 = "BadValues")), .bl (decide (c.1 = "BadValue")), .bl (decide (c.1 = "BadParameters")), .bl (decide (c.1 = "BadRow")), .bl (decide (c.1 = "BadLine")), .bl (decide (c.1 = "BadName")), .bl (decide (c.1 = "NoUpdate")), .bl (decide (c.1 = "BadUpdate")), .bl (decide (c.1 = "TooMany")), .bl (decide (c.1 = "BadMark")), .bl (decide (c.1 = "BadChoice")), .bl (decide (c.1 = "BadDocument")), .bl (decide (c.1 = "BadKind")), .bl (decide (c.1 = "BadWhen"))] ++ [.bl (decide (c.1 = "BadGoal")), .bl (decide (c.1 = "BadDeed"))])) = J8
  have R8 : J8 r = some (.lst [.bl (decide (c.1 = "BadShape")), .bl (decide (c.1 = "BadPath")), .bl (decide (c.1 = "BadValues")), .bl (decide (c.1 = "BadValue")), .bl (decide (c.1 = "BadParameters")), .bl (decide (c.1 = "BadRow")), .bl (decide (c.1 = "BadLine")), .bl (decide (c.1 = "BadName")), .bl (decide (c.1 = "NoUpdate")), .bl (decide (c.1 = "BadUpdate")), .bl (decide (c.1 = "TooMany")), .bl (decide (c.1 = "BadMark")), .bl (decide (c.1 = "BadChoice")), .bl (decide (c.1 = "BadDocument")), .bl (decide (c.1 = "BadKind")), .bl (decide (c.1 = "BadWhen")), .bl (decide (c.1 = "BadGoal")), .bl (decide (c.1 = "BadDeed"))]) := by rw [← eJ8]; exact upd_same
  have k8 : ∀ b o, J7 b = some o → b ≠ r → J8 b = some o := fun b o h z => by rw [← eJ8, upd_ne z]; exact uw _ _ h
  have s8 : Same H J8 := fun b o h => k8 _ _ (s7 b o h) (ne_of_none h nr)
  have e8 := e7.keep R7 k8
  refine ⟨_, rfl, .inl ⟨rfl, _, .inl (.inl R8)⟩, ?_⟩
  obtain ⟨d8, hh8, gg8⟩ := id e8
  refine ⟨_, rfl, a, _, d8, _, _, _, _, rfl, hh8, gg8, x, fun u r => r, T.kt.own _ hc "BadWorld" (by simp), ⟨_, rfl, a, _, d8, _, _, _, _, rfl, hh8, gg8, x, fun u r => r, T.kt.own _ hc "BadLabel" (by simp), ⟨(by show 2 ≤ sizeLine; decide), fun w9 nw => ?_⟩⟩⟩
  have uw := same_upd (o := .lst [.bl (decide (c.1 = "BadWorld")), .bl (decide (c.1 = "BadLabel"))]) nw
  refine ⟨r, w9, _, _, rfl, rfl, uw _ _ R8, upd_same, (by show 20 ≤ sizeLine; decide), ?_⟩
  generalize eJ9 : upd (upd J8 w9 (.lst [.bl (decide (c.1 = "BadWorld")), .bl (decide (c.1 = "BadLabel"))])) r (.lst ([.bl (decide (c.1 = "BadShape")), .bl (decide (c.1 = "BadPath")), .bl (decide (c.1 = "BadValues")), .bl (decide (c.1 = "BadValue")), .bl (decide (c.1 = "BadParameters")), .bl (decide (c.1 = "BadRow")), .bl (decide (c.1 = "BadLine")), .bl (decide (c.1 = "BadName")), .bl (decide (c.1 = "NoUpdate")), .bl (decide (c.1 = "BadUpdate")), .bl (decide (c.1 = "TooMany")), .bl (decide (c.1 = "BadMark")), .bl (decide (c.1 = "BadChoice")), .bl (decide (c.1 = "BadDocument")), .bl (decide (c.1 = "BadKind")), .bl (decide (c.1 = "BadWhen")), .bl (decide (c.1 = "BadGoal")), .bl (decide (c.1 = "BadDeed"))] ++ [.bl (decide (c.1 = "BadWorld")), .bl (decide (c.1 = "BadLabel"))])) = J9
  have R9 : J9 r = some (.lst [.bl (decide (c.1 = "BadShape")), .bl (decide (c.1 = "BadPath")), .bl (decide (c.1 = "BadValues")), .bl (decide (c.1 = "BadValue")), .bl (decide (c.1 = "BadParameters")), .bl (decide (c.1 = "BadRow")), .bl (decide (c.1 = "BadLine")), .bl (decide (c.1 = "BadName")), .bl (decide (c.1 = "NoUpdate")), .bl (decide (c.1 = "BadUpdate")), .bl (decide (c.1 = "TooMany")), .bl (decide (c.1 = "BadMark")), .bl (decide (c.1 = "BadChoice")), .bl (decide (c.1 = "BadDocument")), .bl (decide (c.1 = "BadKind")), .bl (decide (c.1 = "BadWhen")), .bl (decide (c.1 = "BadGoal")), .bl (decide (c.1 = "BadDeed")), .bl (decide (c.1 = "BadWorld")), .bl (decide (c.1 = "BadLabel"))]) := by rw [← eJ9]; exact upd_same
  have k9 : ∀ b o, J8 b = some o → b ≠ r → J9 b = some o := fun b o h z => by rw [← eJ9, upd_ne z]; exact uw _ _ h
  have s9 : Same H J9 := fun b o h => k9 _ _ (s8 b o h) (ne_of_none h nr)
  have e9 := e8.keep R8 k9
  obtain ⟨d9, hh9, gg9⟩ := id e9
  refine ⟨_, rfl, ⟨_, rfl, a, _, d9, _, _, _, _, rfl, hh9, gg9, x, fun u r => r, T.kt.own _ hc "UnlikeFaces" (by simp), ⟨(by show 1 ≤ sizeLine; decide), fun w10 nw => ?_⟩⟩⟩
  have uw := same_upd (o := .lst [.bl (decide (c.1 = "UnlikeFaces"))]) nw
  refine ⟨r, w10, _, _, rfl, rfl, uw _ _ R9, upd_same, (by show 21 ≤ sizeLine; decide), fun p np => ?_⟩
  exact q p _ (s9.free (uw.free np)) (s9.trans (uw.trans (same_upd np))) upd_same
end
end Lx

namespace Lx
open PySem PySem.Spec PyProof.Rows L2 Ub Ur Ug Ue
def sp_caught : Sp := fun vs H Q _ => ∃ v d, vs = [v] ∧ DtV [] H v d ∧ rpOk d = true ∧ ∀ p H', H p = none → Same H H' → H' p = some (.lst [.bl true, .bl false, .bl true]) → Q (.ref p) H'
section
variable {P : Program} {w : World} {K : PySem.W.Frag} {mg : Str → Option Value} {base : Heap}
theorem sc_law_caught : FnScope ["_law_value", "_law_told", "e"] ["_law_value"] (defScope s_law_caught) := ⟨rfl, rfl, rfl, by decide +kernel, rfl, by decide +kernel, by decide +kernel⟩
theorem ok_law_caught {f : Addr} {fd : FuncData} (F : FunD K "_law_caught" "_law_caught" (defArgs s_law_caught) (defBody s_law_caught) (defScope s_law_caught) [] [] f fd) (T : Tx K mg) (x_BadGoal : CalX P w K mg base 1 "BadGoal" (He.ga K "BadGoal") "goal") : FnG P w K mg base CX0 3 f fd ["_law_value"] sp_caught := by
  refine okG F sc_law_caught (fun vs H Q E h => ?_) (fun cdv A outer s H vs Q E hG hr h => ?_)
  · obtain ⟨v, d, rfl, _⟩ := h
    rfl
  obtain ⟨v, dt, rfl, hv, ok, q⟩ := h
  refine ⟨_, PSs.nox (pss_cons (ps_set (i := 1) sc_law_caught.nd rfl (by first | exact Or.inl rfl | exact Or.inr rfl) (pe_lst pa_nil))
      (pss_cons (ps_try_as (i := 2) rfl rfl sc_law_caught.nd rfl rfl ⟨by rfl, by decide, .inl T.g_UnseenwritesError⟩ takes0
        (fun W pn xe tk po => (pss_one (ps_raiseX x_BadGoal rfl tk (hr.mono (by omega)) (by rfl) (pv 0))))
        (fun a oe cls d pn hz hf => (pss_one (ps_set (i := 1) sc_law_caught.nd rfl (by first | exact Or.inl rfl | exact Or.inr rfl) (pe_lst (pa_cons (pe_callB (call_isS hz hf) (by rfl) T.isinstance (by decide +kernel) (pa_cons (pv 2) (pa_cons (pe_globR (by rfl) T.g_BadGoal) pa_nil))) (pa_cons (pe_callB (call_isS hz hf) (by rfl) T.isinstance (by decide +kernel) (pa_cons (pv 2) (pa_cons (pe_globR (by rfl) T.g_BadWhen) pa_nil))) (pa_cons (pe_cmpR op_eq (pe_callB (call_reprV hG (by first | exact hr.units | exact hr.units0 | exact hu)) (by rfl) T.repr (by decide +kernel) (pa_cons (pe_xf T.x_BadGoal.x T.x_BadGoal.no hz hf (pv 2)) pa_nil)) (pe_callB (call_reprV hG (by first | exact hr.units | exact hr.units0 | exact hu)) (by rfl) T.repr (by decide +kernel) (pa_cons (pv 0) pa_nil)) (nomark _)) pa_nil))))))))
      (pss_one (ps_ret (pv 1))))), ?_⟩
  refine ⟨Nat.zero_le _, fun p np => ?_⟩
  generalize eJ : upd H p (.lst []) = J
  have s0 : Same H J := by rw [← eJ]; exact same_upd np
  refine ⟨_, rfl, mkX fun d H1 s1 nd hd => ?_⟩
  refine ⟨true, T.em, fun _ a na => ?_, fun z => nomatch z⟩
  refine ⟨_, rfl, _, d, _, _, _, _, rfl, rfl, rfl, hd, T.x_BadGoal.e, fun u r => r, T.kt.own "BadGoal" (by simp) "BadGoal" (by simp), ?_⟩
  refine ⟨_, rfl, _, d, _, _, _, _, rfl, rfl, rfl, hd, T.x_BadGoal.e, fun u r => r, T.kt.own "BadGoal" (by simp) "BadWhen" (by simp), ?_⟩
  refine ⟨_, rfl, rfl, rfl, d, _, v, rfl, hd, (by simp [List.lookup]), v, dt, rfl, hv.same (s0.trans s1), ok, ?_⟩
  refine ⟨_, rfl, v, dt, rfl, hv.same (s0.trans s1), ok, rfl, ?_⟩
  refine ⟨(by show 3 ≤ sizeLine; decide), fun p2 np2 => ?_⟩
  refine ⟨_, rfl, ?_⟩
  have z := q p2 _ (s0.free (s1.free np2)) ((s0.trans s1).trans (same_upd np2)) (upd_same (o := .lst [.bl true, .bl false, .bl true]))
  have e1 : decide ((("BadGoal" : Str)) = "BadGoal") = true := by decide
  have e2 : decide ((("BadGoal" : Str)) = "BadWhen") = false := by decide
  have e3 : decide (V.str dt.shown = V.str dt.shown) = true := decide_eq_true rfl
  rw [← e1, ← e2] at z
  simpa [e1, e2, e3] using z
end
end Lx

namespace Lx
open PySem PySem.Spec PyProof.Rows L2 Ub Ur Ug Ue Uh
def sp_law (K : PySem.W.Frag) : Sp := fun vs H Q _ => ∃ (a : Addr) (ns : List Int), vs = [.ref a] ∧ SqL K H a (ns.map V.int) ∧ ns.length ≤ 63 ∧ ∀ H', Q (.bl true) H'
theorem rp_int {i : Int} (h : i.natAbs ≤ 1000000000000000000000000000000) : rpOk (.int i) = true := by
  have hl : i.natAbs.log2 < 1920 := by
    by_cases h0 : i.natAbs = 0
    · rw [h0]; decide
    · have e : (2 : Nat) ^ 100 = 1267650600228229401496703205376 := by decide
      have := (Nat.log2_lt h0 (k := 100)).mpr (by omega)
      omega
  unfold rpOk
  simp [PyData.showable, PyData.hasDict, PyData.depth, hl]
theorem nms_of : ∀ {i : Nat} {c : Str × Str}, (csA ++ csB)[i]? = some c → c.1 ∈ nms ∧ nms[i]? = some c.1 := by
  intro i c h
  have e : (csA ++ csB).map (·.1) = nms := by decide +kernel
  have z : ((csA ++ csB).map (·.1))[i]? = some c.1 := by rw [List.getElem?_map, h]; rfl
  rw [e] at z
  exact ⟨List.mem_of_getElem? z, z⟩
theorem count1 : ∀ x ∈ nms, (nms.map fun y => decide (x = y)).count true = 1 := by decide +kernel
theorem exk {K : PySem.W.Frag} {mg : Str → Option Value} (T : Tx K mg) {c : Str × Str} (h : c ∈ csA ++ csB) : ExcC K (He.ga K c.1) ∧ XfC K (He.ga K c.1) := by
  simp only [csA, csB, List.cons_append, List.nil_append, List.mem_cons, List.not_mem_nil, or_false] at h
  rcases h with rfl | rfl | rfl | rfl | rfl | rfl | rfl | rfl | rfl | rfl | rfl | rfl | rfl | rfl | rfl | rfl | rfl | rfl | rfl | rfl | rfl
  · exact ⟨T.x_BadShape.e, T.x_BadShape.x⟩
  · exact ⟨T.x_BadPath.e, T.x_BadPath.x⟩
  · exact ⟨T.x_BadValues.e, T.x_BadValues.x⟩
  · exact ⟨T.x_BadValue.e, T.x_BadValue.x⟩
  · exact ⟨T.x_BadParameters.e, T.x_BadParameters.x⟩
  · exact ⟨T.x_BadRow.e, T.x_BadRow.x⟩
  · exact ⟨T.x_BadLine.e, T.x_BadLine.x⟩
  · exact ⟨T.x_BadName.e, T.x_BadName.x⟩
  · exact ⟨T.x_NoUpdate.e, T.x_NoUpdate.x⟩
  · exact ⟨T.x_BadUpdate.e, T.x_BadUpdate.x⟩
  · exact ⟨T.x_TooMany.e, T.x_TooMany.x⟩
  · exact ⟨T.x_BadMark.e, T.x_BadMark.x⟩
  · exact ⟨T.x_BadChoice.e, T.x_BadChoice.x⟩
  · exact ⟨T.x_BadDocument.e, T.x_BadDocument.x⟩
  · exact ⟨T.x_BadKind.e, T.x_BadKind.x⟩
  · exact ⟨T.x_BadWhen.e, T.x_BadWhen.x⟩
  · exact ⟨T.x_BadGoal.e, T.x_BadGoal.x⟩
  · exact ⟨T.x_BadDeed.e, T.x_BadDeed.x⟩
  · exact ⟨T.x_BadWorld.e, T.x_BadWorld.x⟩
  · exact ⟨T.x_BadLabel.e, T.x_BadLabel.x⟩
  · exact ⟨T.x_UnlikeFaces.e, T.x_UnlikeFaces.x⟩
section
variable {P : Program} {w : World} {K : PySem.W.Frag} {mg : Str → Option Value} {base : Heap}
theorem sc_law : FnScope ["_law_script", "_law_state", "_law_turn", "_law_value", "_law_errors", "_law_at", "_law_pair", "_law_error", "_law_field", "_law_kinds_here"] ["_law_script"] (defScope s_law) := ⟨rfl, rfl, rfl, by decide +kernel, rfl, by decide +kernel, by decide +kernel⟩
theorem ok_law {f : Addr} {fd : FuncData} (F : FunD K "law" "law" (defArgs s_law) (defBody s_law) (defScope s_law) [] [] f fd) (T : Tx K mg)
    (c_law_start : Cal P w K mg base 1 "_law_start" ["_law_script"] (sp_start K)) (c_law_of : Cal P w K mg base 2 "_law_of" ["_law_state", "_law_some"] sp_of) (c_law_odd : Cal P w K mg base 3 "_law_odd" ["_law_state"] sp_odd)
    (c_law_number : Cal P w K mg base 2 "_law_number" ["_law_state"] sp_number) (c_law_first : Cal P w K mg base 3 "_law_first" ["_law_value"] (sp_errs K csA)) (c_law_others : Cal P w K mg base 3 "_law_others" ["_law_value"] (sp_errs K csB))
    (c_law_kinds : Cal P w K mg base 1 "_law_kinds" ["_law_error"] (sp_kinds K)) (c_law_caught : CalG P w K mg base 3 "_law_caught" ["_law_value"] sp_caught) : FnG P w K mg base CX0 4 f fd ["_law_script"] (sp_law K) := by
  refine okG F sc_law (fun vs H Q E h => ?_) (fun cdv A outer s H vs Q E hG hr h => ?_)
  · obtain ⟨a, ns, rfl, _⟩ := h
    rfl
  obtain ⟨a, ns, rfl, hS, hl, q⟩ := h
  refine ⟨_, PSs.nox (pss_cons (ps_set (i := 1) sc_law.nd rfl (by first | exact Or.inl rfl | exact Or.inr rfl) (pe_cal c_law_start (hr.mono (by omega)) (by rfl) (pa_cons (pv 0) pa_nil)))
      (pss_cons (ps_for PassesOwn.never rfl (pi_range1 (by rfl) T.range (pa_cons pe_int pa_nil)) (pg_name (i := 2) sc_law.nd rfl (by first | exact Or.inl rfl | exact Or.inr rfl))
        (pss_cons (ps_set (i := 3) sc_law.nd rfl (by first | exact Or.inl rfl | exact Or.inr rfl) (pe_cal c_law_of (hr.mono (by omega)) (by rfl) (pa_cons (pv 1) (pa_cons (pe_lst (pa_cons (pe_cal c_law_odd (hr.mono (by omega)) (by rfl) (pa_cons (pv 1) pa_nil)) (pa_cons (pe_cal c_law_number (hr.mono (by omega)) (by rfl) (pa_cons (pv 1) pa_nil)) pa_nil))) pa_nil))))
          (pss_cons (ps_set (i := 4) sc_law.nd rfl (by first | exact Or.inl rfl | exact Or.inr rfl) (pe_op op_cat (pe_cal c_law_first (hr.mono (by omega)) (by rfl) (pa_cons (pv 3) pa_nil)) (pe_cal c_law_others (hr.mono (by omega)) (by rfl) (pa_cons (pv 3) pa_nil))))
          (pss_cons (ps_for PassesOwn.never rfl (pi_enum (by rfl) T.enumerate (pa_cons (pv 4) pa_nil)) (pg_tupK K (n := 2) rfl (pgs_cons (pg_name (i := 5) sc_law.nd rfl (by first | exact Or.inl rfl | exact Or.inr rfl)) (pgs_cons (pg_name (i := 6) sc_law.nd rfl (by first | exact Or.inl rfl | exact Or.inr rfl)) pgs_nil)))
            (pss_cons (ps_asg (pv 6) (pg_tupK K (n := 2) rfl (pgs_cons (pg_name (i := 7) sc_law.nd rfl (by first | exact Or.inl rfl | exact Or.inr rfl)) (pgs_cons (pg_name (i := 8) sc_law.nd rfl (by first | exact Or.inl rfl | exact Or.inr rfl)) pgs_nil))))
              (pss_cons (ps_if (pt_cmpR op_ne (pe_callB (call_reprV hG (by first | exact hr.units | exact hr.units0 | exact hu)) (by rfl) T.repr (by decide +kernel) (pa_cons (pv 8) pa_nil)) (pe_callB (call_reprV hG (by first | exact hr.units | exact hr.units0 | exact hu)) (by rfl) T.repr (by decide +kernel) (pa_cons (pv 3) pa_nil)) (nomark _))
                (pss_one (ps_ret pe_bl))
                pss_nil)
              (pss_cons (ps_if (PW.pt (pw_or (pt_not (pt_val (pe_callB call_isX (by rfl) T.isinstance (by decide +kernel) (pa_cons (pv 7) (pa_cons (pe_globR (by rfl) T.g_UnseenwritesError) pa_nil))))) (pw_or1 (pt_not (pt_val (pe_callB call_isX (by rfl) T.isinstance (by decide +kernel) (pa_cons (pv 7) (pa_cons (pe_bltn (v := .ty "ValueError") (by rfl) T.ValueError (by decide +kernel) rfl) pa_nil))))))))
                (pss_one (ps_ret pe_bl))
                pss_nil)
              (pss_cons (ps_set (i := 9) sc_law.nd rfl (by first | exact Or.inl rfl | exact Or.inr rfl) (pe_cal c_law_kinds (hr.mono (by omega)) (by rfl) (pa_cons (pv 7) pa_nil)))
              (pss_one (ps_if (PW.pt (pw_or (pt_cmpR op_ne (pe_bm PySem.F.plainAttrs_list PySem.F.slot_list_count PySem.F.type_list_count mt_countB (pv 9) (pa_cons pe_bl pa_nil)) pe_int (nomark _)) (pw_or1 (pt_not (pt_val (pe_ix (ix_listK K) (pv 9) (pv 5) (fun _ _ => rfl)))))))
                (pss_one (ps_ret pe_bl))
                pss_nil)))))))
          (pss_one (ps_if (pt_cmpR (op_neDK K hr.units) (pe_calG c_law_caught hG (hr.mono (by omega)) (by rfl) (pa_cons (pv 3) pa_nil)) (pe_lst (pa_cons pe_bl (pa_cons pe_bl (pa_cons pe_bl pa_nil)))) (nomark _))
            (pss_one (ps_ret pe_bl))
            pss_nil))))))
      (pss_one (ps_ret pe_bl)))), ?_⟩
  refine ⟨_, rfl, a, ns, rfl, hS, hl, fun st g l H1 n1 n2 n3 S1 s1 => ?_⟩
  refine ⟨3, rfl, by decide, by decide, ?_⟩
  refine for_range (lo := 0) (n := 3) (fun i σ H => ∃ y2 y3 y4 y5 y6 y7 y8 y9, σ = [some (.ref a), some (.ref st), y2, y3, y4, y5, y6, y7, y8, y9] ∧ StAt H st g l) ?_ (fun i σ H hi p => ?_) (fun σ H p => ?_)
  · exact ⟨none, none, none, none, none, none, none, none, rfl, S1⟩
  · obtain ⟨y2, y3, y4, y5, y6, y7, y8, y9, rfl, S⟩ := p
    -- value
    refine ⟨_, rfl, _, rfl, st, g, l, rfl, S, fun od H2 hod S2 k2 => ?_⟩
    refine ⟨_, rfl, st, g, l, rfl, S2, fun num H3 hnum S3 k3 => ?_⟩
    refine ⟨(by show 2 ≤ sizeLine; decide), fun p np => ?_⟩
    obtain ⟨e1, e2, e3⟩ := S3.ne np
    refine ⟨st, g, l, p, _, rfl, upd_same, e1, e2, e3, by simp, (by show 2 ≤ 1000; decide), S3.same (same_upd np), fun v H4 hv S4 k4 => ?_⟩
    have kk : ∀ {H H' : Hp}, Kp st g l H H' → ∀ b o, H b = some o → b ∉ [st, g, l] → H' b = some o := fun k b o h n => by
      simp only [List.mem_cons, List.not_mem_nil, or_false, not_or] at n
      exact k b o h n.1 n.2.1 n.2.2
    have hdt : ∃ dt, DtV [] H4 v dt ∧ rpOk dt = true := by
      simp only [List.mem_cons, List.not_mem_nil, or_false] at hv
      rcases hv with rfl | rfl
      · obtain ⟨d, hd, h⟩ := hod
        exact ⟨d, (((h.keep (kk k3)).same (same_upd np)).keep (kk k4)).free, odds_rp d hd⟩
      · exact ⟨_, .int num, rp_int hnum⟩
    obtain ⟨dt, hdv, hok⟩ := hdt
    -- errors
    refine ⟨_, rfl, v, rfl, fun pa qa H5 na s5 ha la => ?_⟩
    refine ⟨_, rfl, v, rfl, fun pb qb H6 nb s6 hb lb => ?_⟩
    have l6 := (la.same s6).app lb
    have ln : (qa ++ qb).length = 21 := l6.len
    have lnA : qa.length + qb.length = 21 := by rw [← List.length_append]; exact ln
    refine ⟨pa, pb, qa, qb, rfl, rfl, s6 _ _ ha, hb, Nat.le_trans (Nat.le_of_eq lnA) (by decide), fun pe ne => ?_⟩
    generalize eJ : upd H6 pe (.lst (qa ++ qb)) = J
    have sJ : Same H6 J := by rw [← eJ]; exact same_upd ne
    have eE : J pe = some (.lst (qa ++ qb)) := by rw [← eJ]; exact upd_same
    have lJ := l6.same sJ
    have S7 : StAt J st g l := S4.same (s5.trans (s6.trans sJ))
    have dJ := hdv.same (s5.trans (s6.trans sJ))
    clear eJ
    refine ⟨_, rfl, pe, _, rfl, .inl (.inl eE), ?_⟩
    refine for_it (walk_enum (K := K) (a := pe) (xs := qa ++ qb)) (fun _ σ H => ∃ y5 y6 y7 y8 y9, σ = [some (.ref a), some (.ref st), some (.int (0 + i)), some v, some (.ref pe), y5, y6, y7, y8, y9] ∧ Same J H) ?_ (fun i σ H _ p => ?_) (fun i x σ H H' hi p y => ?_) (fun σ H p => ?_)
    · exact ⟨y5, y6, y7, y8, y9, rfl, Same.refl _⟩
    · obtain ⟨_, _, _, _, _, _, sH⟩ := p
      exact .inl (.inl (sH _ _ eE))
    · obtain ⟨y5, y6, y7, y8, y9, rfl, sH⟩ := p
      obtain ⟨t, xi, qi, rfl, nt, rfl, ex, eq⟩ := y
      cases ex
      obtain ⟨c, hc, pa⟩ := lJ.get eq
      obtain ⟨hcn, hcg⟩ := nms_of hc
      obtain ⟨xe, xf⟩ := exk T (List.mem_of_getElem? hc)
      have sT : Same H (upd H t (.tup [.int (i : Nat), qi])) := same_upd nt
      have eT : (upd H t (.tup [.int (i : Nat), qi])) t = some (.tup [.int (i : Nat), qi]) := upd_same
      generalize upd H t (.tup [.int (i : Nat), qi]) = H7 at *
      have s7 := sH.trans sT
      obtain ⟨tp, ea, rfl, h1, x1⟩ := pa.same s7
      refine ⟨t, _, rfl, .inl (.inl eT), rfl, _, _, rfl, _, _, rfl, rfl, ?_⟩
      refine ⟨_, rfl, tp, _, rfl, .inl (.inl h1), rfl, _, _, rfl, _, _, rfl, rfl, ?_⟩
      refine ⟨_, rfl, v, dt, rfl, dJ.same s7, hok, ?_⟩
      refine ⟨_, rfl, v, dt, rfl, dJ.same s7, hok, rfl, _, rfl, ?_⟩
      refine iteNN rfl ?_
      obtain ⟨dd, g1, g2⟩ := id x1
      refine ⟨_, rfl, ea, _, dd, _, _, _, _, rfl, g1, g2, xe, fun u r => r, T.kt.base _ hcn, _, rfl, ?_⟩
      refine iteE (c := false) rfl (fun z => nomatch z) fun _ => ?_
      refine ⟨_, rfl, ea, _, dd, _, _, _, _, rfl, g1, g2, xe, fun u r => r, T.kt.ve _ hcn, _, rfl, ?_⟩
      refine iteE (c := false) rfl (fun z => nomatch z) fun _ => ?_
      refine ⟨_, rfl, ea, c, v, rfl, hcn, x1, xe, fun pk Hk nk sk hk => ?_⟩
      have hk' : Hk pk = some (.lst ((nms.map fun y => decide (c.1 = y)).map V.bl)) := by rw [List.map_map]; exact hk
      refine ⟨_, rfl, .inl ⟨rfl, _, .inl (.inl hk)⟩, pk, _, true, rfl, rfl, .inl (.inl hk'), rfl, _, rfl, ?_⟩
      refine iteNN (by rw [count1 _ hcn]; rfl) ?_
      have at_ : (nms.map fun y => V.bl (decide (c.1 = y)))[i]? = some (.bl true) := by
        rw [List.getElem?_map, hcg]
        simp
      refine ⟨_, rfl, _, rfl, pk, _, _, .bl true, rfl, rfl, .inl (.inl hk), atI_nat at_, _, rfl, ?_⟩
      refine iteE (c := false) rfl (fun z => nomatch z) fun _ => ?_
      exact ⟨_, _, _, _, _, rfl, s7.trans sk⟩
    · obtain ⟨y5, y6, y7, y8, y9, rfl, sH⟩ := p
      refine ⟨_, rfl, v, dt, rfl, dJ.same sH, hok, fun pc Hc nc sc hc => ?_⟩
      refine ⟨(by show 3 ≤ sizeLine; decide), fun pd nd => ?_⟩
      have sd := same_upd (o := .lst [.bl true, .bl false, .bl true]) nd
      refine ⟨_, _, .lst (.inl (.inl (sd _ _ hc))) (.cons (.bl _) (.cons (.bl _) (.cons (.bl _) .nil))), .lst (.inl (.inl upd_same)) (.cons (.bl _) (.cons (.bl _) (.cons (.bl _) .nil))), by decide, by decide, _, rfl, ?_⟩
      refine iteE (c := false) (by decide +kernel) (fun z => nomatch z) fun _ => ?_
      exact ⟨_, _, _, _, _, _, _, _, rfl, S7.same (sH.trans (sc.trans sd))⟩
  · exact q _
end
end Lx

namespace Lx
open PySem PySem.Spec PyProof.Rows L2 Ub Ur Ug Ue Uh
theorem facts {P : Program} {w : World} {K : PySem.W.Frag} {h : Heap} {mg : Str → Option Value} {f : Addr} (X : K.In h) (G : h.Ns mainGlobals mg) (hfa : mg ("law" : Str) = some (.ref f)) (c : He.SaysX fa fn [] [] ex w h K) :
    ∃ fd : FuncData, (∀ (s : Shared) (v : Value), BindsTo s fd ⟨[v], []⟩ [("_law_script", v)]) ∧ ∀ base : Heap, K.In base → base.Ns mainGlobals mg → FnG P w K mg base CX0 4 f fd ["_law_script"] (sp_law K) := by
  have T := tx_of X G c
  obtain ⟨fd_BadShape, F_BadShape⟩ := df_BadShape___init__ c
  obtain ⟨fd_BadPath, F_BadPath⟩ := df_BadPath___init__ c
  obtain ⟨fd_BadValues, F_BadValues⟩ := df_BadValues___init__ c
  obtain ⟨fd_BadValue, F_BadValue⟩ := df_BadValue___init__ c
  obtain ⟨fd_BadParameters, F_BadParameters⟩ := df_BadParameters___init__ c
  obtain ⟨fd_BadRow, F_BadRow⟩ := df_BadRow___init__ c
  obtain ⟨fd_BadLine, F_BadLine⟩ := df_BadLine___init__ c
  obtain ⟨fd_BadName, F_BadName⟩ := df_BadName___init__ c
  obtain ⟨fd_NoUpdate, F_NoUpdate⟩ := df_NoUpdate___init__ c
  obtain ⟨fd_BadUpdate, F_BadUpdate⟩ := df_BadUpdate___init__ c
  obtain ⟨fd_TooMany, F_TooMany⟩ := df_TooMany___init__ c
  obtain ⟨fd_BadMark, F_BadMark⟩ := df_BadMark___init__ c
  obtain ⟨fd_BadChoice, F_BadChoice⟩ := df_BadChoice___init__ c
  obtain ⟨fd_BadDocument, F_BadDocument⟩ := df_BadDocument___init__ c
  obtain ⟨fd_BadKind, F_BadKind⟩ := df_BadKind___init__ c
  obtain ⟨fd_BadWhen, F_BadWhen⟩ := df_BadWhen___init__ c
  obtain ⟨fd_BadGoal, F_BadGoal⟩ := df_BadGoal___init__ c
  obtain ⟨fd_BadDeed, F_BadDeed⟩ := df_BadDeed___init__ c
  obtain ⟨fd_BadWorld, F_BadWorld⟩ := df_BadWorld___init__ c
  obtain ⟨fd_BadLabel, F_BadLabel⟩ := df_BadLabel___init__ c
  obtain ⟨fd_UnlikeFaces, F_UnlikeFaces⟩ := df_UnlikeFaces___init__ c
  obtain ⟨fd_law_start, F_law_start⟩ := df_law_start c
  obtain ⟨fd_law_draw, F_law_draw⟩ := df_law_draw c
  obtain ⟨fd_law_of, F_law_of⟩ := df_law_of c
  obtain ⟨fd_law_odd, F_law_odd⟩ := df_law_odd c
  obtain ⟨fd_law_number, F_law_number⟩ := df_law_number c
  obtain ⟨fd_law_first, F_law_first⟩ := df_law_first c
  obtain ⟨fd_law_others, F_law_others⟩ := df_law_others c
  obtain ⟨fd_law_kinds, F_law_kinds⟩ := df_law_kinds c
  obtain ⟨fd_law_caught, F_law_caught⟩ := df_law_caught c
  obtain ⟨fd_law, F_law⟩ := df_law c
  have e := hfa.symm.trans T.g_law
  cases e
  have b := FunD.bindsA (ps := ["_law_script"]) F_law fun _ _ _ _ _ _ us hl => match us, hl with | [_], _ => rfl
  refine ⟨fd_law, fun s v => b s [v] rfl, fun base _ _ => ?_⟩
  have xBadShape : CalX P w K mg base 1 "BadShape" (He.ga K "BadShape") "text" := x_BadShape F_BadShape T
  have xBadPath : CalX P w K mg base 1 "BadPath" (He.ga K "BadPath") "path" := x_BadPath F_BadPath T
  have xBadValues : CalX P w K mg base 1 "BadValues" (He.ga K "BadValues") "given" := x_BadValues F_BadValues T
  have xBadValue : CalX P w K mg base 1 "BadValue" (He.ga K "BadValue") "value" := x_BadValue F_BadValue T
  have xBadParameters : CalX P w K mg base 1 "BadParameters" (He.ga K "BadParameters") "parameters" := x_BadParameters F_BadParameters T
  have xBadRow : CalX P w K mg base 1 "BadRow" (He.ga K "BadRow") "at" := x_BadRow F_BadRow T
  have xBadLine : CalX P w K mg base 1 "BadLine" (He.ga K "BadLine") "at" := x_BadLine F_BadLine T
  have xBadName : CalX P w K mg base 1 "BadName" (He.ga K "BadName") "name" := x_BadName F_BadName T
  have xNoUpdate : CalX P w K mg base 1 "NoUpdate" (He.ga K "NoUpdate") "name" := x_NoUpdate F_NoUpdate T
  have xBadUpdate : CalX P w K mg base 1 "BadUpdate" (He.ga K "BadUpdate") "name" := x_BadUpdate F_BadUpdate T
  have xTooMany : CalX P w K mg base 1 "TooMany" (He.ga K "TooMany") "what" := x_TooMany F_TooMany T
  have xBadMark : CalX P w K mg base 1 "BadMark" (He.ga K "BadMark") "mark" := x_BadMark F_BadMark T
  have xBadChoice : CalX P w K mg base 1 "BadChoice" (He.ga K "BadChoice") "choice" := x_BadChoice F_BadChoice T
  have xBadDocument : CalX P w K mg base 1 "BadDocument" (He.ga K "BadDocument") "document" := x_BadDocument F_BadDocument T
  have xBadKind : CalX P w K mg base 1 "BadKind" (He.ga K "BadKind") "kind" := x_BadKind F_BadKind T
  have xBadWhen : CalX P w K mg base 1 "BadWhen" (He.ga K "BadWhen") "when" := x_BadWhen F_BadWhen T
  have xBadGoal : CalX P w K mg base 1 "BadGoal" (He.ga K "BadGoal") "goal" := x_BadGoal F_BadGoal T
  have xBadDeed : CalX P w K mg base 1 "BadDeed" (He.ga K "BadDeed") "deed" := x_BadDeed F_BadDeed T
  have xBadWorld : CalX P w K mg base 1 "BadWorld" (He.ga K "BadWorld") "form" := x_BadWorld F_BadWorld T
  have xBadLabel : CalX P w K mg base 1 "BadLabel" (He.ga K "BadLabel") "label" := x_BadLabel F_BadLabel T
  have xUnlikeFaces : CalX P w K mg base 1 "UnlikeFaces" (He.ga K "UnlikeFaces") "name" := x_UnlikeFaces F_UnlikeFaces T
  have c_law_start : Cal P w K mg base 1 "_law_start" ["_law_script"] (sp_start K) := ⟨_, fd_law_start, ok_law_start F_law_start T, T.g__law_start, F_law_start.kp, F_law_start.bindsN fun _ _ _ _ _ _ us hl => match us, hl with | [_], _ => rfl⟩
  have c_law_draw : Cal P w K mg base 1 "_law_draw" ["_law_state", "_law_many"] sp_draw := ⟨_, fd_law_draw, ok_law_draw F_law_draw T, T.g__law_draw, F_law_draw.kp, F_law_draw.bindsN fun _ _ _ _ _ _ us hl => match us, hl with | [_, _], _ => rfl⟩
  have c_law_of : Cal P w K mg base 2 "_law_of" ["_law_state", "_law_some"] sp_of := ⟨_, fd_law_of, ok_law_of F_law_of T c_law_draw, T.g__law_of, F_law_of.kp, F_law_of.bindsN fun _ _ _ _ _ _ us hl => match us, hl with | [_, _], _ => rfl⟩
  have c_law_odd : Cal P w K mg base 3 "_law_odd" ["_law_state"] sp_odd := ⟨_, fd_law_odd, ok_law_odd F_law_odd T c_law_of, T.g__law_odd, F_law_odd.kp, F_law_odd.bindsN fun _ _ _ _ _ _ us hl => match us, hl with | [_], _ => rfl⟩
  have c_law_number : Cal P w K mg base 2 "_law_number" ["_law_state"] sp_number := ⟨_, fd_law_number, ok_law_number F_law_number T c_law_draw, T.g__law_number, F_law_number.kp, F_law_number.bindsN fun _ _ _ _ _ _ us hl => match us, hl with | [_], _ => rfl⟩
  have c_law_first : Cal P w K mg base 3 "_law_first" ["_law_value"] (sp_errs K csA) := ⟨_, fd_law_first, ok_law_first F_law_first T xBadShape xBadPath xBadValues xBadValue xBadParameters xBadRow xBadLine xBadName xNoUpdate xBadUpdate xTooMany, T.g__law_first, F_law_first.kp, F_law_first.bindsN fun _ _ _ _ _ _ us hl => match us, hl with | [_], _ => rfl⟩
  have c_law_others : Cal P w K mg base 3 "_law_others" ["_law_value"] (sp_errs K csB) := ⟨_, fd_law_others, ok_law_others F_law_others T xBadMark xBadChoice xBadDocument xBadKind xBadWhen xBadGoal xBadDeed xBadWorld xBadLabel xUnlikeFaces, T.g__law_others, F_law_others.kp, F_law_others.bindsN fun _ _ _ _ _ _ us hl => match us, hl with | [_], _ => rfl⟩
  have c_law_kinds : Cal P w K mg base 1 "_law_kinds" ["_law_error"] (sp_kinds K) := ⟨_, fd_law_kinds, ok_law_kinds F_law_kinds T, T.g__law_kinds, F_law_kinds.kp, F_law_kinds.bindsN fun _ _ _ _ _ _ us hl => match us, hl with | [_], _ => rfl⟩
  have c_law_caught : CalG P w K mg base 3 "_law_caught" ["_law_value"] sp_caught := ⟨_, fd_law_caught, ok_law_caught F_law_caught T xBadGoal, T.g__law_caught, F_law_caught.kp, F_law_caught.bindsN fun _ _ _ _ _ _ us hl => match us, hl with | [_], _ => rfl⟩
  exact ok_law F_law T c_law_start c_law_of c_law_odd c_law_number c_law_first c_law_others c_law_kinds c_law_caught
end Lx
open PySem PySem.W PySem.Calls PyProof.Rows
set_option maxHeartbeats 0 in
theorem PySem.Challenge.cw_unseenwrites_k16_errors_made_holds : PySem.Challenge.rw_unseenwrites_k16_errors_made.Holds := by
  w_on; o_law
  refine HandSHeadRun.head_any (r := OpenLaw.row PySem.Challenge.rw_unseenwrites_k16_errors_made) (q := view (OpenLaw.row PySem.Challenge.rw_unseenwrites_k16_errors_made).prog [33]) (H := Lx.hk) (ob := Lx.ob) (M := 12000) (loose := Lx.loose) (d := HandSHeadRun.topDef (OpenLaw.row PySem.Challenge.rw_unseenwrites_k16_errors_made).prog 33) (kwd := []) Lx.ob_eq
    (by kernel_rfl) (fun s => by kernel_rfl) Lx.run (by kernel_rfl) (by kernel_rfl) (by kernel_rfl) (by rfl) (by first | assumption | decide +kernel) (by decide +kernel) ⟨rfl, rfl, rfl, rfl, rfl, by decide +kernel⟩ ?hw ?hc
  case hw => w_witness2
  case hc =>
    refine Ug.walk_ofG (l := PySem.Challenge.rw_unseenwrites_k16_errors_made) (n := 63) (k := 4) (x := "_law_script") rfl (by decide) (by kernel_rfl) ⟨rfl, by decide, by decide⟩ ?F
    intro w mg fa h Y G hmg0
    obtain ⟨K, KX, c⟩ := Y
    have hmg : mg ("law" : PySem.Str) = some (.ref fa) := by
      have e : (HandSHeadRun.topDef (OpenLaw.row PySem.Challenge.rw_unseenwrites_k16_errors_made).prog 33).name = ("law" : PySem.Str) := by kernel_rfl
      rw [← e]
      exact hmg0
    obtain ⟨fd, hb, hF⟩ := Lx.facts (P := (PySem.Challenge.rw_unseenwrites_k16_errors_made).prog) (w := w) KX G hmg c
    exact ⟨K, fd, Lx.sp_law K, KX, hb, fun H a ns hl _ hS => ⟨a, ns, rfl, hS, hl, fun _ => rfl⟩, hF⟩
